import PyProof.Rows.All
import Wide.All
import OpenK.AllK
import Wide.FinOn
import HandS.ForMost
import HandS.Gcd
import HandS.Wide
import HandS.TupAny
import HandS.Defaults
import HandS.IsInst
import HandS.Conv
import HandS.RaiseMore
import HandS.Head2
import HandS.HeadEnd
import HandS.HeadHook2
import HandS.Star
import HandS.TupLe
import HandS.TryOnly
import HandS.EndBits
import HandS.Rev
import HandS.RevRange
import HandS.Zip
import HandS.Zip0
import PyProof.Draws
import HandS.TupMul
import PyProof.FactsAll.bool_2
import PyProof.FactsAll.NoneType_2
import HandS.SetFor
import HandS.Style
import HandS.Head0
import HandS.Head1
import HandS.HeadHook1
import HandS.Codes
import HandS.Head3
import PySem.Challenge.RW_withinrim_k05_whole_rows_divided_and_com
set_option Elab.async false
set_option linter.all false
set_option maxRecDepth 100000
set_option maxHeartbeats 4000000
/-! PD: pure data over the hand layer. Part a: data, the relation to the abstract heap. -/
namespace PD
open PySem PySem.Spec PyProof.Rows L2

/-- data: tuples and (no longer changed) lists are values; a cell is a list that may be changed by whoever holds it -/
inductive D where
  | non | bl (b : Bool) | int (i : Int) | str (x : Str) | ty (n : String)
  | tup (xs : List D) | lst (xs : List D) | cell (n : Nat)

/-- an expression's value: a datum, or a look at a list that a slot owns -/
inductive Va where
  | d (x : D) | b (xs : List D)

/-- a slot: nothing known, a datum, a list of its own -/
inductive Lv where
  | un | dat (d : D) | own (xs : List D)

abbrev Loc := List Lv
abbrev Store := List (List D)

/-- the ghost: where the cells stand; which addresses may be written -/
structure Gh where
  ca : List Addr
  W : Addr → Prop

/-- a tuple of the written part -/
def KTup (K : PySem.W.Frag) (a : Addr) (xs : List V) : Prop :=
  ∃ (o : Obj) (its : Array Value) (n : Nat), K.lookup a = some o ∧ o.cls = .type "tuple" ∧ o.data = .seq its n ∧
    its.size ≤ sizeLine ∧ Vals xs its.toList
/-- a list of the written part, its object as it stands -/
def KLst (K : PySem.W.Frag) (a : Addr) (xs : List V) : Prop :=
  ∃ (its : List Value) (n : Nat), K.lookup a = some { cls := .type "list", data := .seq its.toArray n } ∧ its.length ≤ sizeLine ∧ Vals xs its

def TupAt (K : PySem.W.Frag) (g : Gh) (H : Hp) (a : Addr) (xs : List V) : Prop := (Rd H a (.tup xs) ∧ ¬ g.W a) ∨ KTup K a xs
def LstAt (K : PySem.W.Frag) (g : Gh) (H : Hp) (a : Addr) (xs : List V) : Prop := (Rd H a (.lst xs) ∧ ¬ g.W a) ∨ KLst K a xs
theorem TupAt.sq {K : PySem.W.Frag} {g : Gh} {H : Hp} {a : Addr} {xs : List V} (h : TupAt K g H a xs) : SqT K H a xs :=
  h.elim (fun z => .inl z.1) .inr
theorem KLst.sq {K : PySem.W.Frag} {H : Hp} {a : Addr} {xs : List V} (h : KLst K a xs) : SqL K H a xs := by
  obtain ⟨its, n, h1, h2, h3⟩ := h
  exact .inr ⟨_, its.toArray, n, h1, rfl, rfl, rfl, by simpa using h2, by simpa using h3⟩
theorem LstAt.sq {K : PySem.W.Frag} {g : Gh} {H : Hp} {a : Addr} {xs : List V} (h : LstAt K g H a xs) : SqL K H a xs :=
  h.elim (fun z => .inl z.1) KLst.sq
/-- a list whose object is known -/
def LX (K : PySem.W.Frag) (H : Hp) (a : Addr) (xs : List V) : Prop := Rd H a (.lst xs) ∨ KLst K a xs
theorem LX.obj {X : Cx} {pins : List (Addr × Obj)} {σ : L2.St} {H : Hp} {s : Shared} {a : Addr} {xs : List V} (I : Inv X pins σ H s) (h : LX X.K H a xs) :
    xs.length ≤ sizeLine ∧ ∃ (its : List Value) (n : Nat), Vals xs its ∧ s.heap.get? a = some { cls := .type "list", data := .seq its.toArray n } := by
  rcases h with h | ⟨its, n, h1, h2, h3⟩
  · obtain ⟨z, its, n, r, e⟩ := h.ok I.hok
    exact ⟨z, its, n, r, e⟩
  · exact ⟨by rw [h3.length]; exact h2, its, n, h3, I.kIn a _ h1⟩

mutual
inductive Rp (K : PySem.W.Frag) (g : Gh) (H : Hp) : V → D → Prop
  | non : Rp K g H .non .non
  | bl (b : Bool) : Rp K g H (.bl b) (.bl b)
  | int (i : Int) : Rp K g H (.int i) (.int i)
  | str (x : Str) : Rp K g H (.str x) (.str x)
  | ty (n : String) : Rp K g H (.ty n) (.ty n)
  | tup {a : Addr} {xs : List V} {ds : List D} : TupAt K g H a xs → Rps K g H xs ds → Rp K g H (.ref a) (.tup ds)
  | lst {a : Addr} {xs : List V} {ds : List D} : LstAt K g H a xs → Rps K g H xs ds → Rp K g H (.ref a) (.lst ds)
  | cell {a : Addr} {n : Nat} : g.ca[n]? = some a → Rp K g H (.ref a) (.cell n)
inductive Rps (K : PySem.W.Frag) (g : Gh) (H : Hp) : List V → List D → Prop
  | nil : Rps K g H [] []
  | cons {v : V} {vs : List V} {d : D} {ds : List D} : Rp K g H v d → Rps K g H vs ds → Rps K g H (v :: vs) (d :: ds)
end

/-- from one moment to a later one: nothing but cells is written, what is new is new -/
structure Ext (g : Gh) (H : Hp) (g' : Gh) (H' : Hp) : Prop where
  keep : ∀ b o, H b = some o → b ∉ g.ca → H' b = some o
  there : ∀ b o, H b = some o → ∃ o', H' b = some o'
  wk : ∀ b o, H b = some o → (g'.W b ↔ g.W b)
  ca : ∃ m, g'.ca = g.ca ++ m
  new : ∀ c ∈ g'.ca, c ∈ g.ca ∨ H c = none
theorem Ext.refl {g : Gh} {H : Hp} : Ext g H g H := ⟨fun _ _ h _ => h, fun _ o h => ⟨o, h⟩, fun _ _ _ => Iff.rfl, ⟨[], by simp⟩, fun _ h => .inl h⟩
theorem Ext.trans {g g1 g2 : Gh} {H H1 H2 : Hp} (a : Ext g H g1 H1) (b : Ext g1 H1 g2 H2) : Ext g H g2 H2 := by
  obtain ⟨m, em⟩ := a.ca
  obtain ⟨m', em'⟩ := b.ca
  refine ⟨fun c o h hc => ?_, fun c o h => ?_, fun c o h => ?_, ⟨m ++ m', by rw [em', em, List.append_assoc]⟩, fun c hc => ?_⟩
  · refine b.keep c o (a.keep c o h hc) fun hm => ?_
    rcases a.new c hm with z | z
    · exact hc z
    · rw [h] at z; cases z
  · obtain ⟨o1, h1⟩ := a.there c o h
    exact b.there c o1 h1
  · obtain ⟨o1, h1⟩ := a.there c o h
    exact (b.wk c o1 h1).trans (a.wk c o h)
  · rcases b.new c hc with z | z
    · exact a.new c z
    · right
      cases e : H c with
      | none => rfl
      | some o =>
        obtain ⟨o1, h1⟩ := a.there c o e
        rw [h1] at z; cases z

/-- the cells stand, what may be written stands -/
structure Gs (K : PySem.W.Frag) (g : Gh) (H : Hp) (S : Store) : Prop where
  wi : ∀ b, g.W b → ∃ xs, H b = some (.lst xs)
  cw : ∀ a ∈ g.ca, g.W a
  nd : g.ca.Nodup
  len : g.ca.length = S.length
  st : ∀ (n : Nat) (a : Addr) (ds : List D), g.ca[n]? = some a → S[n]? = some ds → ∃ xs, H a = some (.lst xs) ∧ Rps K g H xs ds

section
variable {K : PySem.W.Frag} {g g' : Gh} {H H' : Hp}
theorem Rd.ext {a : Addr} {u : HO} (e : Ext g H g' H') (h : Rd H a u) (hw : ¬ g.W a) (hc : ∀ c ∈ g.ca, g.W c) : Rd H' a u ∧ ¬ g'.W a := by
  have n : a ∉ g.ca := fun z => hw (hc a z)
  rcases h with h | ⟨o, h⟩
  · exact ⟨.inl (e.keep _ _ h n), fun z => hw ((e.wk _ _ h).mp z)⟩
  · exact ⟨.inr ⟨o, e.keep _ _ h n⟩, fun z => hw ((e.wk _ _ h).mp z)⟩
mutual
theorem Rp.ext (e : Ext g H g' H') (hc : ∀ c ∈ g.ca, g.W c) : ∀ {v : V} {d : D}, Rp K g H v d → Rp K g' H' v d
  | _, _, .non => .non
  | _, _, .bl b => .bl b
  | _, _, .int i => .int i
  | _, _, .str x => .str x
  | _, _, .ty n => .ty n
  | _, _, .tup h r => .tup (h.elim (fun z => .inl (Rd.ext e z.1 z.2 hc)) .inr) (Rps.ext e hc r)
  | _, _, .lst h r => .lst (h.elim (fun z => .inl (Rd.ext e z.1 z.2 hc)) .inr) (Rps.ext e hc r)
  | _, _, .cell (a := a) (n := n) h => by
    obtain ⟨m, em⟩ := e.ca
    refine .cell ?_
    rw [em, List.getElem?_append_left (List.getElem?_eq_some_iff.mp h).1]
    exact h
theorem Rps.ext (e : Ext g H g' H') (hc : ∀ c ∈ g.ca, g.W c) : ∀ {vs : List V} {ds : List D}, Rps K g H vs ds → Rps K g' H' vs ds
  | _, _, .nil => .nil
  | _, _, .cons h r => .cons (Rp.ext e hc h) (Rps.ext e hc r)
end
theorem Rps.length : ∀ {vs : List V} {ds : List D}, Rps K g H vs ds → vs.length = ds.length
  | _, _, .nil => rfl
  | _, _, .cons _ r => by simp [Rps.length r]
theorem Rps.get : ∀ {vs : List V} {ds : List D} {i : Nat} {d : D}, Rps K g H vs ds → ds[i]? = some d → ∃ v, vs[i]? = some v ∧ Rp K g H v d
  | _, _, _, _, .nil, e => by simp at e
  | _, _, 0, _, .cons h _, e => by simp at e; subst e; exact ⟨_, rfl, h⟩
  | _, _, i + 1, _, .cons _ r, e => by
    obtain ⟨v, h1, h2⟩ := Rps.get (i := i) r (by simpa using e)
    exact ⟨v, by simpa using h1, h2⟩
theorem Rps.append : ∀ {vs ws : List V} {ds es : List D}, Rps K g H vs ds → Rps K g H ws es → Rps K g H (vs ++ ws) (ds ++ es)
  | _, _, _, _, .nil, s => s
  | _, _, _, _, .cons h r, s => .cons h (Rps.append r s)
theorem Rps.take : ∀ {vs : List V} {ds : List D} (n : Nat), Rps K g H vs ds → Rps K g H (vs.take n) (ds.take n)
  | _, _, 0, _ => .nil
  | _, _, _ + 1, .nil => .nil
  | _, _, n + 1, .cons h r => .cons h (Rps.take n r)
theorem Rps.drop : ∀ {vs : List V} {ds : List D} (n : Nat), Rps K g H vs ds → Rps K g H (vs.drop n) (ds.drop n)
  | _, _, 0, r => r
  | _, _, _ + 1, .nil => .nil
  | _, _, n + 1, .cons _ r => Rps.drop n r
theorem Rps.set {v : V} {d : D} (h : Rp K g H v d) : ∀ {vs : List V} {ds : List D} (i : Nat), Rps K g H vs ds → Rps K g H (vs.set i v) (ds.set i d)
  | _, _, _, .nil => .nil
  | _, _, 0, .cons _ r => .cons h r
  | _, _, i + 1, .cons q r => .cons q (Rps.set h i r)
theorem Rps.reverse {vs : List V} {ds : List D} (h : Rps K g H vs ds) : Rps K g H vs.reverse ds.reverse := by
  induction h using Rps.rec (motive_1 := fun _ _ _ => True) with
  | nil => exact .nil
  | cons h _ _ ih => rw [List.reverse_cons, List.reverse_cons]; exact ih.append (.cons h .nil)
  | _ => trivial
theorem Rps.ints : ∀ {vs : List V} {ns : List Int}, Rps K g H vs (ns.map D.int) → vs = ns.map V.int
  | _, [], .nil => rfl
  | _, _ :: _, .cons (.int _) r => by rw [Rps.ints r]; rfl
theorem Rps.of_ints : ∀ (ns : List Int), Rps K g H (ns.map V.int) (ns.map D.int)
  | [] => .nil
  | n :: r => .cons (.int n) (Rps.of_ints r)

/-- what a value is -/
def RpV (K : PySem.W.Frag) (g : Gh) (H : Hp) (v : V) : Va → Prop
  | .d x => Rp K g H v x
  | .b ds => ∃ a xs, v = .ref a ∧ H a = some (.lst xs) ∧ Rps K g H xs ds ∧ g.W a ∧ a ∉ g.ca
theorem RpV.ext (e : Ext g H g' H') (hc : ∀ c ∈ g.ca, g.W c) {v : V} : ∀ {d : Va}, RpV K g H v d → RpV K g' H' v d
  | .d x, h => Rp.ext e hc h
  | .b ds, ⟨a, xs, e1, h, r, w, n⟩ => ⟨a, xs, e1, e.keep _ _ h n, Rps.ext e hc r, (e.wk _ _ h).mpr w, fun z => (e.new a z).elim n fun q => by rw [h] at q; cases q⟩

/-- the slots -/
structure LR (K : PySem.W.Frag) (g : Gh) (H0 : Hp) (σ : L2.St) (H : Hp) (L : Loc) : Prop where
  len : L.length ≤ σ.length
  old : ∀ b o, H0 b = some o → ∃ o', H b = some o'
  dat : ∀ (i : Nat) d, L[i]? = some (.dat d) → ∃ v, σ[i]? = some (some v) ∧ Rp K g H v d
  own : ∀ (i : Nat) ds, L[i]? = some (.own ds) → ∃ a xs, σ[i]? = some (some (.ref a)) ∧ H a = some (.lst xs) ∧ Rps K g H xs ds ∧ g.W a ∧ a ∉ g.ca ∧ H0 a = none
  inj : ∀ (i j : Nat) ds es a, L[i]? = some (.own ds) → L[j]? = some (.own es) → σ[i]? = some (some (.ref a)) → σ[j]? = some (some (.ref a)) → i = j
theorem LR.ext {H0 : Hp} {σ : L2.St} {L : Loc} (e : Ext g H g' H') (hc : ∀ c ∈ g.ca, g.W c) (l : LR K g H0 σ H L) : LR K g' H0 σ H' L := by
  refine ⟨l.len, fun b o h => let ⟨o1, h1⟩ := l.old b o h; e.there b o1 h1, fun i d h => ?_, fun i ds h => ?_, l.inj⟩
  · obtain ⟨v, h1, r⟩ := l.dat i d h
    exact ⟨v, h1, r.ext e hc⟩
  · obtain ⟨a, xs, h1, h2, r, w, n, z⟩ := l.own i ds h
    refine ⟨a, xs, h1, e.keep _ _ h2 n, Rps.ext e hc r, (e.wk _ _ h2).mpr w, fun q => ?_, z⟩
    rcases e.new a q with q | q
    · exact n q
    · rw [h2] at q; cases q

/-- all of it -/
structure Cr (K : PySem.W.Frag) (g : Gh) (H0 : Hp) (σ : L2.St) (H : Hp) (L : Loc) (S : Store) : Prop where
  s : Gs K g H S
  l : LR K g H0 σ H L
theorem Cr.ext {H0 : Hp} {σ : L2.St} {L : Loc} {S S' : Store} (c : Cr K g H0 σ H L S) (e : Ext g H g' H') (s : Gs K g' H' S') : Cr K g' H0 σ H' L S' :=
  ⟨s, c.l.ext e c.s.cw⟩

/-- a new object at p that is not written any more -/
theorem Ext.laid {S : Store} {p : Addr} {o : HO} (s : Gs K g H S) (hp : H p = none) : Ext g H g (upd H p o) ∧ Gs K g (upd H p o) S := by
  have ne : ∀ b u, H b = some u → b ≠ p := fun b u h z => by subst z; rw [hp] at h; cases h
  have e : Ext g H g (upd H p o) := ⟨fun b u h _ => by rw [upd_ne (ne b u h)]; exact h, fun b u h => ⟨u, by rw [upd_ne (ne b u h)]; exact h⟩, fun _ _ _ => Iff.rfl, ⟨[], by simp⟩, fun _ h => .inl h⟩
  refine ⟨e, ⟨fun b w => ?_, s.cw, s.nd, s.len, fun n a ds h1 h2 => ?_⟩⟩
  · obtain ⟨xs, h⟩ := s.wi b w
    exact ⟨xs, by rw [upd_ne (ne b _ h)]; exact h⟩
  · obtain ⟨xs, h, r⟩ := s.st n a ds h1 h2
    exact ⟨xs, by rw [upd_ne (ne a _ h)]; exact h, Rps.ext e s.cw r⟩
theorem Gs.nw {S : Store} {p : Addr} (s : Gs K g H S) (hp : H p = none) : ¬ g.W p := fun w => by
  obtain ⟨xs, h⟩ := s.wi p w
  rw [hp] at h; cases h
/-- a new tuple -/
theorem new_tup {S : Store} {p : Addr} {xs : List V} {ds : List D} (s : Gs K g H S) (hp : H p = none) (r : Rps K g H xs ds) :
    Ext g H g (upd H p (.tup xs)) ∧ Gs K g (upd H p (.tup xs)) S ∧ Rp K g (upd H p (.tup xs)) (.ref p) (.tup ds) := by
  obtain ⟨e, s'⟩ := Ext.laid (o := .tup xs) s hp
  exact ⟨e, s', .tup (.inl ⟨.inl upd_same, s.nw hp⟩) (Rps.ext e s.cw r)⟩
/-- a new list, not written any more -/
theorem new_lst {S : Store} {p : Addr} {xs : List V} {ds : List D} (s : Gs K g H S) (hp : H p = none) (r : Rps K g H xs ds) :
    Ext g H g (upd H p (.lst xs)) ∧ Gs K g (upd H p (.lst xs)) S ∧ Rp K g (upd H p (.lst xs)) (.ref p) (.lst ds) := by
  obtain ⟨e, s'⟩ := Ext.laid (o := .lst xs) s hp
  exact ⟨e, s', .lst (.inl ⟨.inl upd_same, s.nw hp⟩) (Rps.ext e s.cw r)⟩
/-- what is told as data stands (lists of one's own may have been written) -/
structure ExtW (g : Gh) (H : Hp) (g' : Gh) (H' : Hp) : Prop where
  keep : ∀ b o, H b = some o → ¬ g.W b → H' b = some o ∧ ¬ g'.W b
  ca : ∃ m, g'.ca = g.ca ++ m
theorem ExtW.refl : ExtW g H g H := ⟨fun _ _ h w => ⟨h, w⟩, ⟨[], by simp⟩⟩
theorem ExtW.trans {g2 : Gh} {H2 : Hp} (a : ExtW g H g' H') (b : ExtW g' H' g2 H2) : ExtW g H g2 H2 := by
  obtain ⟨m, em⟩ := a.ca
  obtain ⟨m', em'⟩ := b.ca
  exact ⟨fun c o h w => let ⟨h1, w1⟩ := a.keep c o h w; b.keep c o h1 w1, ⟨m ++ m', by rw [em', em, List.append_assoc]⟩⟩
theorem Ext.w (e : Ext g H g' H') (hc : ∀ c ∈ g.ca, g.W c) : ExtW g H g' H' :=
  ⟨fun b o h w => ⟨e.keep b o h fun z => w (hc b z), fun z => w ((e.wk b o h).mp z)⟩, e.ca⟩
theorem Rd.extW {a : Addr} {u : HO} (e : ExtW g H g' H') (h : Rd H a u) (hw : ¬ g.W a) : Rd H' a u ∧ ¬ g'.W a := by
  rcases h with h | ⟨o, h⟩
  · exact ⟨.inl (e.keep _ _ h hw).1, (e.keep _ _ h hw).2⟩
  · exact ⟨.inr ⟨o, (e.keep _ _ h hw).1⟩, (e.keep _ _ h hw).2⟩
mutual
theorem Rp.extW (e : ExtW g H g' H') : ∀ {v : V} {d : D}, Rp K g H v d → Rp K g' H' v d
  | _, _, .non => .non
  | _, _, .bl b => .bl b
  | _, _, .int i => .int i
  | _, _, .str x => .str x
  | _, _, .ty n => .ty n
  | _, _, .tup h r => .tup (h.elim (fun z => .inl (Rd.extW e z.1 z.2)) .inr) (Rps.extW e r)
  | _, _, .lst h r => .lst (h.elim (fun z => .inl (Rd.extW e z.1 z.2)) .inr) (Rps.extW e r)
  | _, _, .cell (a := a) (n := n) h => by
    obtain ⟨m, em⟩ := e.ca
    refine .cell ?_
    rw [em, List.getElem?_append_left (List.getElem?_eq_some_iff.mp h).1]
    exact h
theorem Rps.extW (e : ExtW g H g' H') : ∀ {vs : List V} {ds : List D}, Rps K g H vs ds → Rps K g' H' vs ds
  | _, _, .nil => .nil
  | _, _, .cons h r => .cons (Rp.extW e h) (Rps.extW e r)
end

theorem old_upd {H0 : Hp} {p : Addr} {u : HO} (h : ∀ b o, H0 b = some o → ∃ o', H b = some o') : ∀ b o, H0 b = some o → ∃ o', (upd H p u) b = some o' := fun b o q => by
  by_cases z : b = p
  · exact ⟨u, by rw [z]; exact upd_same⟩
  · obtain ⟨o', q'⟩ := h b o q
    exact ⟨o', by rw [upd_ne z]; exact q'⟩
/-- one address more that may be written -/
def Gh.plus (g : Gh) (p : Addr) : Gh := ⟨g.ca, fun b => g.W b ∨ b = p⟩
/-- one less -/
def Gh.minus (g : Gh) (p : Addr) : Gh := ⟨g.ca, fun b => g.W b ∧ b ≠ p⟩
/-- a new list that may be written -/
theorem new_own {S : Store} {p : Addr} {xs : List V} (s : Gs K g H S) (hp : H p = none) :
    Ext g H (g.plus p) (upd H p (.lst xs)) ∧ Gs K (g.plus p) (upd H p (.lst xs)) S := by
  have ne : ∀ b u, H b = some u → b ≠ p := fun b u h z => by subst z; rw [hp] at h; cases h
  have e : Ext g H (g.plus p) (upd H p (.lst xs)) := ⟨fun b u h _ => by rw [upd_ne (ne b u h)]; exact h, fun b u h => ⟨u, by rw [upd_ne (ne b u h)]; exact h⟩,
    fun b u h => ⟨fun w => w.elim (fun z => z) fun z => absurd z (ne b u h), .inl⟩, ⟨[], by simp [Gh.plus]⟩, fun _ h => .inl h⟩
  refine ⟨e, ⟨fun b w => ?_, fun a h => .inl (s.cw a h), s.nd, s.len, fun n a ds h1 h2 => ?_⟩⟩
  · rcases w with w | w
    · obtain ⟨ys, h⟩ := s.wi b w
      exact ⟨ys, by rw [upd_ne (ne b _ h)]; exact h⟩
    · exact ⟨xs, by rw [w]; exact upd_same⟩
  · obtain ⟨ys, h, r⟩ := s.st n a ds h1 h2
    exact ⟨ys, by rw [upd_ne (ne a _ h)]; exact h, Rps.ext e s.cw r⟩
mutual
theorem Rp.minus {p : Addr} : ∀ {v : V} {d : D}, Rp K g H v d → Rp K (g.minus p) H v d
  | _, _, .non => .non
  | _, _, .bl b => .bl b
  | _, _, .int i => .int i
  | _, _, .str x => .str x
  | _, _, .ty n => .ty n
  | _, _, .tup h r => .tup (h.elim (fun z => .inl ⟨z.1, fun w => z.2 w.1⟩) .inr) (Rps.minus r)
  | _, _, .lst h r => .lst (h.elim (fun z => .inl ⟨z.1, fun w => z.2 w.1⟩) .inr) (Rps.minus r)
  | _, _, .cell h => .cell h
theorem Rps.minus {p : Addr} : ∀ {vs : List V} {ds : List D}, Rps K g H vs ds → Rps K (g.minus p) H vs ds
  | _, _, .nil => .nil
  | _, _, .cons h r => .cons (Rp.minus h) (Rps.minus r)
end
theorem Gs.minus {S : Store} {p : Addr} (s : Gs K g H S) (hp : p ∉ g.ca) : Gs K (g.minus p) H S := by
  refine ⟨fun b w => s.wi b w.1, fun a h => ⟨s.cw a h, fun z => hp (z ▸ h)⟩, s.nd, s.len, fun n a ds h1 h2 => ?_⟩
  obtain ⟨xs, h, r⟩ := s.st n a ds h1 h2
  exact ⟨xs, h, r.minus⟩
/-- what was new is left as it is -/
theorem Ext.minus {g0 : Gh} {H0 : Hp} {p : Addr} (e : Ext g0 H0 g H) (hp : H0 p = none) : Ext g0 H0 (g.minus p) H :=
  ⟨e.keep, e.there, fun b o h => ⟨fun w => (e.wk b o h).mp w.1, fun w => ⟨(e.wk b o h).mpr w, fun z => by subst z; rw [hp] at h; cases h⟩⟩, e.ca, e.new⟩
/-- writing an address that is not told as data -/
theorem Ext.wrote {p : Addr} {o o1 : HO} (hp : H p = some o1) (hc : p ∈ g.ca) : Ext g H g (upd H p o) :=
  ⟨fun b u h n => by rw [upd_ne (show b ≠ p from fun z => n (by rw [z]; exact hc))]; exact h, fun b u h => by
    by_cases z : b = p
    · exact ⟨o, by rw [z]; exact upd_same⟩
    · exact ⟨u, by rw [upd_ne z]; exact h⟩, fun _ _ _ => Iff.rfl, ⟨[], by simp⟩, fun _ h => .inl h⟩
theorem Rd.wrote {p a : Addr} {o u : HO} (w : g.W p) (h : Rd H a u) (n : ¬ g.W a) : Rd (upd H p o) a u := by
  have ne : a ≠ p := fun e => n (by rw [e]; exact w)
  rcases h with h | ⟨x, h⟩
  · exact .inl (by rw [upd_ne ne]; exact h)
  · exact .inr ⟨x, by rw [upd_ne ne]; exact h⟩
mutual
/-- data do not lean on what may be written -/
theorem Rp.wrote {p : Addr} {o : HO} (w : g.W p) : ∀ {v : V} {d : D}, Rp K g H v d → Rp K g (upd H p o) v d
  | _, _, .non => .non
  | _, _, .bl b => .bl b
  | _, _, .int i => .int i
  | _, _, .str x => .str x
  | _, _, .ty n => .ty n
  | _, _, .tup h r => .tup (h.elim (fun z => .inl ⟨Rd.wrote w z.1 z.2, z.2⟩) .inr) (Rps.wrote w r)
  | _, _, .lst h r => .lst (h.elim (fun z => .inl ⟨Rd.wrote w z.1 z.2, z.2⟩) .inr) (Rps.wrote w r)
  | _, _, .cell h => .cell h
theorem Rps.wrote {p : Addr} {o : HO} (w : g.W p) : ∀ {vs : List V} {ds : List D}, Rps K g H vs ds → Rps K g (upd H p o) vs ds
  | _, _, .nil => .nil
  | _, _, .cons h r => .cons (Rp.wrote w h) (Rps.wrote w r)
end
/-- a list of one's own is written -/
theorem Gs.wrote {S : Store} {p : Addr} {ys : List V} (s : Gs K g H S) (w : g.W p) (n : p ∉ g.ca) : Gs K g (upd H p (.lst ys)) S := by
  refine ⟨fun b wb => ?_, s.cw, s.nd, s.len, fun m a ds h1 h2 => ?_⟩
  · by_cases z : b = p
    · exact ⟨ys, by rw [z]; exact upd_same⟩
    · obtain ⟨xs, h⟩ := s.wi b wb
      exact ⟨xs, by rw [upd_ne z]; exact h⟩
  · obtain ⟨xs, h, r⟩ := s.st m a ds h1 h2
    have ne : a ≠ p := fun z => n (by rw [← z]; exact List.mem_of_getElem? h1)
    exact ⟨xs, by rw [upd_ne ne]; exact h, Rps.wrote w r⟩
theorem Ext.wroteNew {g0 : Gh} {H0 : Hp} {p : Addr} {o : HO} (e : Ext g0 H0 g H) (h : H0 p = none) : Ext g0 H0 g (upd H p o) := by
  have ne : ∀ b u, H0 b = some u → b ≠ p := fun b u q z => by rw [z, h] at q; cases q
  exact ⟨fun b u q n => by rw [upd_ne (ne b u q)]; exact e.keep b u q n, fun b u q => by rw [upd_ne (ne b u q)]; exact e.there b u q, e.wk, e.ca, e.new⟩
theorem ExtW.wrote {p : Addr} {o : HO} (w : g.W p) : ExtW g H g (upd H p o) :=
  ⟨fun b u h n => ⟨by rw [upd_ne (show b ≠ p from fun z => n (by rw [z]; exact w))]; exact h, n⟩, ⟨[], by simp⟩⟩
theorem ExtW.minus {p : Addr} : ExtW g H (g.minus p) H := ⟨fun b u h n => ⟨h, fun z => n z.1⟩, ⟨[], by simp [Gh.minus]⟩⟩
theorem ExtW.plus {p : Addr} {o : HO} (hp : H p = none) : ExtW g H (g.plus p) (upd H p o) :=
  ⟨fun b u h n => by
    have ne : b ≠ p := fun z => by rw [z, hp] at h; cases h
    exact ⟨by rw [upd_ne ne]; exact h, fun z => z.elim n ne⟩, ⟨[], by simp [Gh.plus]⟩⟩
/-- a cell is written -/
theorem Gs.cell {S : Store} {n : Nat} {p : Addr} {ys : List V} {ds : List D} (s : Gs K g H S) (hc : g.ca[n]? = some p) (r : Rps K g H ys ds) : Gs K g (upd H p (.lst ys)) (S.set n ds) := by
  have hm : p ∈ g.ca := List.mem_of_getElem? hc
  have w := s.cw p hm
  refine ⟨fun b wb => ?_, s.cw, s.nd, by rw [List.length_set]; exact s.len, fun m a es h1 h2 => ?_⟩
  · by_cases z : b = p
    · exact ⟨ys, by rw [z]; exact upd_same⟩
    · obtain ⟨xs, h⟩ := s.wi b wb
      exact ⟨xs, by rw [upd_ne z]; exact h⟩
  · by_cases z : m = n
    · subst z
      rw [hc] at h1; cases h1
      have hl : m < S.length := by rw [← s.len]; exact (List.getElem?_eq_some_iff.mp hc).1
      rw [List.getElem?_set_self hl] at h2
      cases h2
      exact ⟨ys, upd_same, Rps.wrote w r⟩
    · rw [List.getElem?_set_ne (Ne.symm z)] at h2
      obtain ⟨xs, h, r'⟩ := s.st m a es h1 h2
      have ne : a ≠ p := fun q => by
        subst q
        obtain ⟨k1, e1⟩ := List.getElem?_eq_some_iff.mp h1
        obtain ⟨k2, e2⟩ := List.getElem?_eq_some_iff.mp hc
        exact z ((List.getElem_inj s.nd).mp (e1.trans e2.symm))
      exact ⟨xs, by rw [upd_ne ne]; exact h, Rps.wrote w r'⟩
/-- one cell more -/
def Gh.cell (g : Gh) (p : Addr) : Gh := ⟨g.ca ++ [p], fun b => g.W b ∨ b = p⟩
theorem new_cell {S : Store} {p : Addr} {xs : List V} {ds : List D} (s : Gs K g H S) (hp : H p = none) (r : Rps K g H xs ds) :
    Ext g H (g.cell p) (upd H p (.lst xs)) ∧ Gs K (g.cell p) (upd H p (.lst xs)) (S ++ [ds]) ∧ Rp K (g.cell p) (upd H p (.lst xs)) (.ref p) (.cell S.length) := by
  have ne : ∀ b u, H b = some u → b ≠ p := fun b u h z => by subst z; rw [hp] at h; cases h
  have e : Ext g H (g.cell p) (upd H p (.lst xs)) := ⟨fun b u h _ => by rw [upd_ne (ne b u h)]; exact h, fun b u h => ⟨u, by rw [upd_ne (ne b u h)]; exact h⟩,
    fun b u h => ⟨fun w => w.elim (fun z => z) fun z => absurd z (ne b u h), .inl⟩, ⟨[p], rfl⟩, fun c hc => (List.mem_append.mp hc).elim .inl fun z => .inr (by rw [List.mem_singleton.mp z]; exact hp)⟩
  have pn : p ∉ g.ca := fun z => s.nw hp (s.cw p z)
  refine ⟨e, ⟨fun b w => ?_, fun a h => ?_, ?_, by simp [Gh.cell, s.len], fun n a es h1 h2 => ?_⟩, .cell (by show (g.ca ++ [p])[S.length]? = some p; rw [← s.len, List.getElem?_append_right (Nat.le_refl _)]; simp)⟩
  · rcases w with w | w
    · obtain ⟨ys, h⟩ := s.wi b w
      exact ⟨ys, by rw [upd_ne (ne b _ h)]; exact h⟩
    · exact ⟨xs, by rw [w]; exact upd_same⟩
  · rcases List.mem_append.mp h with h | h
    · exact .inl (s.cw a h)
    · exact .inr (List.mem_singleton.mp h)
  · show (g.ca ++ [p]).Nodup
    rw [List.nodup_append]
    exact ⟨s.nd, by simp, fun a ha b hb z => by rw [List.mem_singleton.mp hb] at z; exact pn (z ▸ ha)⟩
  · have h1 : (g.ca ++ [p])[n]? = some a := h1
    by_cases z : n < g.ca.length
    · rw [List.getElem?_append_left z] at h1
      rw [List.getElem?_append_left (by rw [← s.len]; exact z)] at h2
      obtain ⟨ys, h, r'⟩ := s.st n a es h1 h2
      exact ⟨ys, by rw [upd_ne (ne a _ h)]; exact h, Rps.ext e s.cw r'⟩
    · have sl := s.len
      rw [List.getElem?_append_right (by omega)] at h1
      rw [List.getElem?_append_right (by omega)] at h2
      have z0 : n - g.ca.length = 0 := by
        have := (List.getElem?_eq_some_iff.mp h1).1
        simp at this
        omega
      rw [z0] at h1
      rw [show n - S.length = 0 by rw [← s.len]; exact z0] at h2
      cases h1; cases h2
      exact ⟨xs, upd_same, Rps.ext e s.cw r⟩
end
end PD

set_option Elab.async false
set_option linter.all false
set_option maxRecDepth 100000
set_option maxHeartbeats 2000000
/-! PD, part z: zip of a tuple and a list. -/
namespace PD
open PySem PySem.Spec PyProof.Rows L2
open PySem.Sem (wp)
section
variable {prog : Program} {w : World} {A : Around} {E : Value → Shared → Prop} {s : Shared} {z TI TO i1 i2 l1 l2 : Addr} {k1 k2 : Nat} {xs ys : Array Value} {x y a b : Value}
/-- what stands before a turn -/
structure Zm (h : Heap) (z TI TO i1 i2 l1 l2 : Addr) (k1 k2 : Nat) (f a b : Value) : Prop where
  z : IsZip h z TI TO f
  ti : IsPair h TI (.ref i1) (.ref i2)
  td : IsPair h TO a b
  a1 : h.IsTupleIter i1 l1 k1
  a2 : h.IsListIter i2 l2 k2
theorem zm_next {Q : Value → Shared → Prop} (D : ZipApart z TI TO i1 i2 l1 l2) (Z : Zm s.heap z TI TO i1 i2 l1 l2 k1 k2 .none a b) (t1 : s.heap.IsTuple l1 xs) (t2 : s.heap.IsList l2 ys) (ex : xs[k1]? = some x) (ey : ys[k2]? = some y)
    (q : ∀ h, Zm h z TI TO i1 i2 l1 l2 (k1 + 1) (k2 + 1) (rawInt s.heap.objs.size) x y → IsPair h s.heap.objs.size x y → h.objs.size = s.heap.objs.size + 1 → (∀ c o, c ≠ z → c ≠ TO → c ≠ i1 → c ≠ i2 → s.heap.get? c = some o → h.get? c = some o) → Q (.ref s.heap.objs.size) { s with heap := h }) :
    wpAny (model prog w) A (Builtin.«zip.__next__» ⟨[.ref z], []⟩) (fun fin s' => ∃ v, fin = .done (.ret v) ∧ Q v s') E s := by
  have zz := Z.z; have zi := Z.ti; have zo := Z.td
  show wpAny _ _ (field (.ref z) 2 >>= _) _ _ _; refine wpAny_bind (wpAny_field zz rfl (x := .bool false) rfl ?_)
  show wpAny _ _ (field (.ref z) 3 >>= _) _ _ _; refine wpAny_bind (wpAny_field zz rfl (x := .ref TI) rfl (wpAny_bind (wpAny_seqItems zi rfl ?_)))
  show wpAny _ _ (Builtin.SmallTypes.ownedTupleIsFree (.ref z) >>= _) _ _ _; unfold Builtin.SmallTypes.ownedTupleIsFree
  refine wpAny_bind (wpAny_bind (wpAny_field zz rfl (x := .none) rfl (wpAny_pure ?_))); simp only [if_true]
  refine wpAny_bind (wpAny_rule (wpAny_bind (wpAny_field zz rfl (x := .ref TO) rfl (wpAny_bind (wpAny_setField_rec zz (by simp) fun g1 n1 r1 => ?_)))))
  have n1 : IsZip g1 z TI TO .ellipsis := n1
  simp only [List.zipIdx_cons, List.zipIdx_nil, List.forIn_cons, List.forIn_nil]; refine wpAny_bind (wpAny_bind (wpAny_bind (wpAny_onRaise ?_)))
  show wpAny _ _ (Builtin.SmallTypes.nextOf (.ref i1) >>= _) _ _ _; refine wpAny_bind (RZ.nextOf_tuple_item (Z.a1.extBut r1.extBut D.i1z) (t1.extBut r1.extBut D.l1z) ex fun g2 n2 r2 => wpAny_pure ?_)
  have o2 : IsPair g2 TO a b := r2.extBut _ _ D.TOi1 (r1.extBut _ _ D.TOz zo)
  refine wpAny_bind (wpAny_seqItems o2 rfl (wpAny_bind (wpAny_updateSeq_pair o2 fun g3 o3 r3 => ?_)))
  have o3 : IsPair g3 TO x b := o3
  refine wpAny_bind (wpAny_letGo (wpAny_pure (wpAny_bind (wpAny_bind (wpAny_onRaise ?_)))))
  show wpAny _ _ (Builtin.SmallTypes.nextOf (.ref i2) >>= _) _ _ _; refine wpAny_bind (wpAny_nextOf_list_item (((Z.a2.extBut r1.extBut D.i2z).extBut r2.extBut D.i12.symm).extBut r3.extBut D.TOi2.symm) (((t2.extBut r1.extBut D.l2z).extBut r2.extBut D.l2i1).extBut r3.extBut D.l2TO) ey fun g4 n4 r4 => wpAny_pure ?_)
  have o4 : IsPair g4 TO x b := r4.extBut _ _ D.TOi2 o3
  refine wpAny_bind (wpAny_seqItems o4 rfl (wpAny_bind (wpAny_updateSeq_pair o4 fun g5 o5 r5 => ?_)))
  have o5 : IsPair g5 TO x y := o5
  refine wpAny_bind (wpAny_letGo (wpAny_pure (wpAny_pure (wpAny_bind (wpAny_seqItems o5 rfl (wpAny_bind (wpAny_newTuple ?_)))))))
  have sz : g5.objs.size = s.heap.objs.size := by rw [r5.1, r4.1, r3.1, r2.1, r1.1]
  have n5 : IsZip g5 z TI TO .ellipsis := r5.extBut _ _ D.TOz.symm (r4.extBut _ _ D.i2z.symm (r3.extBut _ _ D.TOz.symm (r2.extBut _ _ D.i1z.symm n1)))
  have kp : ∀ c o, c ≠ z → c ≠ TO → c ≠ i1 → c ≠ i2 → s.heap.get? c = some o → g5.get? c = some o := fun c o d1 d2 d3 d4 e => r5.extBut _ _ d2 (r4.extBut _ _ d4 (r3.extBut _ _ d2 (r2.extBut _ _ d3 (r1.extBut _ _ d1 e))))
  have p1 : g5.IsTupleIter i1 l1 (k1 + 1) := ((n2.extBut r3.extBut D.TOi1.symm).extBut r4.extBut D.i12).extBut r5.extBut D.TOi1.symm
  have p2 : g5.IsListIter i2 l2 (k2 + 1) := n4.extBut r5.extBut D.TOi2.symm
  have zl : z < g5.objs.size := Heap.lt_size n5
  show wpAny _ _ (Builtin.SmallTypes.ownedTupleHandOut (.ref z) (.ref g5.objs.size) >>= _) _ _ _; unfold Builtin.SmallTypes.ownedTupleHandOut
  have n6 : IsZip (g5.push { cls := .type "tuple", data := .seq #[x, y] }) z TI TO .ellipsis := Heap.get?_push_of_some _ n5
  refine wpAny_bind (wpAny_bind (wpAny_setField_rec n6 (by simp) fun g7 n7 r7 => ?_))
  have n7 : IsZip g7 z TI TO (rawInt g5.objs.size) := n7
  refine wpAny_setField_rec n7 (by simp) fun g8 n8 r8 => ?_
  have n8 : IsZip g8 z TI TO (rawInt g5.objs.size) := n8
  have up : ∀ c o, c ≠ z → g5.get? c = some o → g8.get? c = some o := fun c o d e => r8.extBut _ _ d (r7.extBut _ _ d (Heap.get?_push_of_some _ e))
  have pr : IsPair g8 g5.objs.size x y := r8.extBut _ _ (Nat.ne_of_gt zl) (r7.extBut _ _ (Nat.ne_of_gt zl) (Heap.get?_push_size _ rfl))
  have s8 : g8.objs.size = g5.objs.size + 1 := by rw [r8.1, r7.1, Heap.size_push]
  have pi' : IsPair g8 TI (.ref i1) (.ref i2) := up _ _ D.TIz (kp _ _ D.TIz D.TITO D.TIi1 D.TIi2 zi)
  rw [sz] at n8 pr s8; refine wpAny_pure ⟨_, rfl, ?_⟩; show Q (.ref g5.objs.size) _; rw [sz]
  exact q g8 ⟨n8, pi', up _ _ D.TOz o5, p1.at fun o e => up _ o D.i1z e, p2.at fun o e => up _ o D.i2z e⟩ pr s8 fun c o d1 d2 d3 d4 e => up c o d1 (kp c o d1 d2 d3 d4 e)
theorem zm_end {Q : Fin → Shared → Prop} (hh : A.handled = none) (D : ZipApart z TI TO i1 i2 l1 l2) (Z : Zm s.heap z TI TO i1 i2 l1 l2 k1 k2 .none a b) (t1 : s.heap.IsTuple l1 xs) (t2 : s.heap.IsList l2 ys) (en : xs[k1]? = none ∨ ys[k2]? = none)
    (q : ∀ h e, (∀ c o, c ≠ z → c ≠ TO → c ≠ i1 → c ≠ i2 → s.heap.get? c = some o → h.get? c = some o) → (∃ o, h.get? e = some o ∧ o.cls = .type "StopIteration") → E (.ref e) { s with heap := h }) :
    wpAny (model prog w) A (Builtin.«zip.__next__» ⟨[.ref z], []⟩) Q E s := by
  have zz := Z.z; have zi := Z.ti; have zo := Z.td
  show wpAny _ _ (field (.ref z) 2 >>= _) _ _ _; refine wpAny_bind (wpAny_field zz rfl (x := .bool false) rfl ?_)
  show wpAny _ _ (field (.ref z) 3 >>= _) _ _ _; refine wpAny_bind (wpAny_field zz rfl (x := .ref TI) rfl (wpAny_bind (wpAny_seqItems zi rfl ?_)))
  show wpAny _ _ (Builtin.SmallTypes.ownedTupleIsFree (.ref z) >>= _) _ _ _; unfold Builtin.SmallTypes.ownedTupleIsFree
  refine wpAny_bind (wpAny_bind (wpAny_field zz rfl (x := .none) rfl (wpAny_pure ?_))); simp only [if_true]
  refine wpAny_bind (wpAny_rule (wpAny_bind (wpAny_field zz rfl (x := .ref TO) rfl (wpAny_bind (wpAny_setField_rec zz (by simp) fun g1 n1 r1 => ?_)))))
  have n1 : IsZip g1 z TI TO .ellipsis := n1
  simp only [List.zipIdx_cons, List.zipIdx_nil, List.forIn_cons, List.forIn_nil]; refine wpAny_bind (wpAny_bind (wpAny_bind (wpAny_onRaise ?_)))
  show wpAny _ _ (Builtin.SmallTypes.nextOf (.ref i1) >>= _) _ _ _
  cases ex : xs[k1]? with
  | none =>
    refine wpAny_bind (RZ.nextOf_tuple_end hh (Z.a1.extBut r1.extBut D.i1z) (t1.extBut r1.extBut D.l1z) ex fun g2 e r2 ⟨oe, ho, hc⟩ => ?_)
    have n2 : IsZip g2 z TI TO .ellipsis := r2 _ _ D.i1z.symm n1
    have ne : e ≠ z := fun u => by subst u; rw [n2] at ho; cases ho; simp at hc
    exact wpAny_setField_rec n2 (by simp) fun g3 _ r3 => q g3 e (fun c o d1 _ d3 _ u => r3.extBut _ _ d1 (r2 _ _ d3 (r1.extBut _ _ d1 u))) ⟨oe, r3.extBut _ _ ne ho, hc⟩
  | some x =>
    have ey : ys[k2]? = none := en.resolve_left fun h => by rw [ex] at h; cases h
    refine wpAny_bind (RZ.nextOf_tuple_item (Z.a1.extBut r1.extBut D.i1z) (t1.extBut r1.extBut D.l1z) ex fun g2 n2 r2 => wpAny_pure ?_)
    have o2 : IsPair g2 TO a b := r2.extBut _ _ D.TOi1 (r1.extBut _ _ D.TOz zo)
    refine wpAny_bind (wpAny_seqItems o2 rfl (wpAny_bind (wpAny_updateSeq_pair o2 fun g3 o3 r3 => ?_)))
    refine wpAny_bind (wpAny_letGo (wpAny_pure (wpAny_bind (wpAny_bind (wpAny_onRaise ?_)))))
    show wpAny _ _ (Builtin.SmallTypes.nextOf (.ref i2) >>= _) _ _ _; refine wpAny_bind (wpAny_nextOf_list_end hh (((Z.a2.extBut r1.extBut D.i2z).extBut r2.extBut D.i12.symm).extBut r3.extBut D.TOi2.symm) (((t2.extBut r1.extBut D.l2z).extBut r2.extBut D.l2i1).extBut r3.extBut D.l2TO) ey fun g4 e r4 ⟨oe, ho, hc⟩ => ?_)
    have n4 : IsZip g4 z TI TO .ellipsis := r4 _ _ D.i2z.symm (r3.extBut _ _ D.TOz.symm (r2.extBut _ _ D.i1z.symm n1))
    have ne : e ≠ z := fun u => by subst u; rw [n4] at ho; cases ho; simp at hc
    exact wpAny_setField_rec n4 (by simp) fun g5 _ r5 => q g5 e (fun c o d1 d2 d3 d4 u => r5.extBut _ _ d1 (r4 _ _ d4 (r3.extBut _ _ d2 (r2.extBut _ _ d3 (r1.extBut _ _ d1 u))))) ⟨oe, r5.extBut _ _ ne ho, hc⟩
theorem zm_pyNext {Q : Option Value → Shared → Prop} (D : ZipApart z TI TO i1 i2 l1 l2) (Z : Zm s.heap z TI TO i1 i2 l1 l2 k1 k2 .none a b) (t1 : s.heap.IsTuple l1 xs) (t2 : s.heap.IsList l2 ys) (ex : xs[k1]? = some x) (ey : ys[k2]? = some y)
    (q : ∀ h, Zm h z TI TO i1 i2 l1 l2 (k1 + 1) (k2 + 1) (rawInt s.heap.objs.size) x y → IsPair h s.heap.objs.size x y → h.objs.size = s.heap.objs.size + 1 → (∀ c o, c ≠ z → c ≠ TO → c ≠ i1 → c ≠ i2 → s.heap.get? c = some o → h.get? c = some o) → Q (some (.ref s.heap.objs.size)) { s with heap := h }) :
    wpAny (model prog w) A (pyNext (.ref z)) Q E s := by
  have ty : s.TypeIs (.ref z) "zip" := ⟨_, Z.z, rfl⟩
  unfold pyNext
  exact wpAny_bind (wpAny_attempt (wpAny_callSpecial?_slot (name := Str.ofString "__next__") ty F.slot_zip_next (wpAny_call_entry F.slot_zip_next ty F.entry_zip_next (zm_next D Z t1 t2 ex ey fun h a1 a2 a3 a4 => wpAny_pure (q h a1 a2 a3 a4)) (F.args_zip_next_1 _))))
theorem zm_pyEnd {Q : Option Value → Shared → Prop} (hh : A.handled = none) (D : ZipApart z TI TO i1 i2 l1 l2) (Z : Zm s.heap z TI TO i1 i2 l1 l2 k1 k2 .none a b) (t1 : s.heap.IsTuple l1 xs) (t2 : s.heap.IsList l2 ys) (en : xs[k1]? = none ∨ ys[k2]? = none)
    (q : ∀ h, (∀ c o, c ≠ z → c ≠ TO → c ≠ i1 → c ≠ i2 → s.heap.get? c = some o → h.get? c = some o) → Q none { s with heap := h }) : wpAny (model prog w) A (pyNext (.ref z)) Q E s := by
  have ty : s.TypeIs (.ref z) "zip" := ⟨_, Z.z, rfl⟩
  unfold pyNext
  refine wpAny_bind (wpAny_attempt (wpAny_callSpecial?_slot (name := Str.ofString "__next__") ty F.slot_zip_next (wpAny_call_entry F.slot_zip_next ty F.entry_zip_next (zm_end hh D Z t1 t2 en fun h e hk ⟨o, ho, hc⟩ => ?_) (F.args_zip_next_1 _))))
  exact wpAny_bind (wpAny_isInstance (T := "StopIteration") (b := true) ⟨o, ho, hc⟩ isSubtype_stop (wpAny_pure (q _ hk)))
end
abbrev zmA (h : Heap) (l1 : Addr) : Heap := h.push { cls := .type "tuple_iterator", data := .fields #[.ref l1, .int 0 0] }
abbrev zmB (h : Heap) (l1 l2 : Addr) : Heap := (zmA h l1).push { cls := .type "list_iterator", data := .fields #[.ref l2, .int 0 0] }
abbrev zmC (h : Heap) (l1 l2 : Addr) : Heap := (zmB h l1 l2).push { cls := .type "tuple", data := .seq #[.ref h.objs.size, .ref (zmA h l1).objs.size] }
abbrev zmD (h : Heap) (l1 l2 : Addr) : Heap := (zmC h l1 l2).push { cls := .type "tuple", data := .seq #[.none, .none] }
abbrev zmE (h : Heap) (l1 l2 : Addr) : Heap := (zmD h l1 l2).push { cls := .type "zip", data := .fields #[.none, .bool false, .bool false, .ref (zmB h l1 l2).objs.size, .ref (zmC h l1 l2).objs.size] }
theorem zm_new (l1 l2 : Addr) (xs ys : Array Value) : Meets (Builtin.«zip.__new__» ⟨[.type "zip", .ref l1, .ref l2], []⟩) (fun _ R s => s.heap.IsTuple l1 xs ∧ s.heap.IsList l2 ys ∧ R (.ok (.ret (.ref (zmD s.heap l1 l2).objs.size))) { s with heap := zmE s.heap l1 l2 }) :=
  .of_wp fun prog w A R s h => by
    obtain ⟨hp, g, d, tk, os⟩ := s
    obtain ⟨h1, h2, h⟩ := h
    have hs := sub_zip
    have g1 : Heap.IsTuple (Shared.heap ⟨hp, g, d, tk, os⟩) l1 xs := h1
    have g2 : Heap.IsList (Shared.heap ⟨hp.push { cls := .type "tuple_iterator", data := .fields #[.ref l1, .int 0 0] }, g, d, tk, os⟩) l2 ys := Heap.IsList.push h2 _
    wp_walk using wpAny_pyIter_tuple g1, wpAny_pyIter_list g2
    exact ⟨_, rfl, h⟩
theorem zm_call {prog : Program} {w : World} {A : Around} {E : Value → Shared → Prop} {s : Shared} {l1 l2 : Addr} {xs ys : Array Value} {Q : Value → Shared → Prop} (h1 : s.heap.IsTuple l1 xs) (h2 : s.heap.IsList l2 ys)
    (q : ∀ h, Zm h (s.heap.objs.size + 4) (s.heap.objs.size + 2) (s.heap.objs.size + 3) s.heap.objs.size (s.heap.objs.size + 1) l1 l2 0 0 .none .none .none → (∀ c o, s.heap.get? c = some o → h.get? c = some o) → Q (.ref (s.heap.objs.size + 4)) { s with heap := h }) :
    wpAny (model prog w) A (call (.type "zip") [.ref l1, .ref l2]) Q E s := by
  refine callType_new F.called_zip (by decide) (F.typeCall_zip_2 _ _) (F.newCall_zip_2 _ _) (fun obj => F.args_object_init_3 obj _ _) F.entry_zip_new (zm_new l1 l2 xs ys) ⟨h1, h2, ?_⟩
  have e1 : (zmA s.heap l1).objs.size = s.heap.objs.size + 1 := Heap.size_push ..
  have e2 : (zmB s.heap l1 l2).objs.size = s.heap.objs.size + 2 := by rw [Heap.size_push, e1]
  have e3 : (zmC s.heap l1 l2).objs.size = s.heap.objs.size + 3 := by rw [Heap.size_push, e2]
  have e4 : (zmD s.heap l1 l2).objs.size = s.heap.objs.size + 4 := by rw [Heap.size_push, e3]
  have p5 : (zmE s.heap l1 l2).get? (zmD s.heap l1 l2).objs.size = some _ := Heap.get?_push_size _ rfl
  have p4 : (zmE s.heap l1 l2).get? (zmC s.heap l1 l2).objs.size = some _ := Heap.get?_push_of_some _ (Heap.get?_push_size _ rfl)
  have p3 : (zmE s.heap l1 l2).get? (zmB s.heap l1 l2).objs.size = some _ := Heap.get?_push_of_some _ (Heap.get?_push_of_some _ (Heap.get?_push_size _ rfl))
  have p2 : (zmE s.heap l1 l2).get? (zmA s.heap l1).objs.size = some _ := Heap.get?_push_of_some _ (Heap.get?_push_of_some _ (Heap.get?_push_of_some _ (Heap.get?_push_size _ rfl)))
  have p1 : (zmE s.heap l1 l2).get? s.heap.objs.size = some _ := Heap.get?_push_of_some _ (Heap.get?_push_of_some _ (Heap.get?_push_of_some _ (Heap.get?_push_of_some _ (Heap.get?_push_size _ rfl))))
  show _ ∧ _
  rw [e2, e3, e4] at p5; rw [e1, e2] at p3; rw [e3] at p4; rw [e1] at p2; rw [e4]
  exact ⟨⟨_, p5, rfl⟩, q _ ⟨p5, p3, p4, ⟨_, p1, rfl, rfl⟩, ⟨_, p2, rfl, rfl⟩⟩ fun c o u => Heap.get?_push_of_some _ (Heap.get?_push_of_some _ (Heap.get?_push_of_some _ (Heap.get?_push_of_some _ (Heap.get?_push_of_some _ u))))⟩
/-- the tuple at a, the list at b, turn by turn -/
def ItM (K : PySem.W.Frag) (a b : Addr) : It :=
  ⟨fun i H => ∃ (xs ys : List V) (x y : V), SqT K H a xs ∧ SqL K H b ys ∧ xs[i]? = some x ∧ ys[i]? = some y,
    fun i H v H' => ∃ T x y, v = .ref T ∧ H T = none ∧ H' = upd H T (.tup [x, y]) ∧ (∀ xs, SqT K H a xs → xs[i]? = some x) ∧ ∀ ys, SqL K H b ys → ys[i]? = some y,
    fun i H => ∃ xs ys : List V, SqT K H a xs ∧ SqL K H b ys ∧ (xs.length ≤ i ∨ ys.length ≤ i)⟩
theorem five {c z TI TO i1 i2 : Addr} (h : c ∈ [z, TI, TO, i1, i2]) : c = z ∨ c = TI ∨ c = TO ∨ c = i1 ∨ c = i2 := by simpa using h
theorem turn_M {P : Program} {w : World} {K : PySem.W.Frag} {elts : List Expr} {kk : Nat} {tpos : Pos} {a b z TI TO i1 i2 : Addr} (D : ZipApart z TI TO i1 i2 a b) :
    Turn P w K (.Tuple elts kk tpos) (ItM K a b) [z, TI, TO, i1, i2] z (fun i h => ∃ x y, Zm h z TI TO i1 i2 a b i i .none x y) where
  mem := by simp
  obj := fun i h ⟨x, y, Z⟩ c hc => by
    obtain ⟨o1, e1, _, d1⟩ := Z.a1
    obtain ⟨o2, e2, _, d2⟩ := Z.a2
    rcases five hc with q | q | q | q | q <;> rw [q]
    · exact ⟨_, Z.z, fun v u => nomatch u⟩
    · exact ⟨_, Z.ti, fun v u => nomatch u⟩
    · exact ⟨_, Z.td, fun v u => nomatch u⟩
    · exact ⟨o1, e1, fun v u => by rw [d1] at u; cases u⟩
    · exact ⟨o2, e2, fun v u => by rw [d2] at u; cases u⟩
  keep := fun i h h' ⟨x, y, Z⟩ k => ⟨x, y, k z (by simp) _ Z.z, k TI (by simp) _ Z.ti, k TO (by simp) _ Z.td, Z.a1.at fun o q => k i1 (by simp) o q, Z.a2.at fun o q => k i2 (by simp) o q⟩
  item := by
    intro X hP hw hK hc i pins s σ H E I hf st hg
    subst hP hw hK
    obtain ⟨x0, y0, Z⟩ := st
    obtain ⟨xs, ys, x, y, qx, qy, hx, hy⟩ := hg
    obtain ⟨its, rv, p, _⟩ := I.tuple qx
    obtain ⟨its2, rv2, p2, _⟩ := I.list qy
    obtain ⟨u, hu, ru⟩ := rv.get hx
    obtain ⟨u2, hu2, ru2⟩ := rv2.get hy
    have zl : z < s.heap.objs.size := Heap.lt_size Z.z
    refine zm_pyNext D Z p p2.isList (x := u) (y := u2) (by simpa using hu) (by simpa using hu2) fun h' Z' hT hsz hk => ⟨_, rfl, wpAny_letOwnedTupleGo_zip (s := { s with heap := h' }) Z'.z fun h'' z'' sb => ?_⟩
    have hT2 : h''.get? s.heap.objs.size = some { cls := .type "tuple", data := .seq #[u, u2] } := (sb.2 _ (Nat.ne_of_gt zl)).trans hT
    have nw : ObjOk X.prog X.w (upd H s.heap.objs.size (.tup [x, y])) h'' s.heap.objs.size (.tup [x, y]) := ⟨by show 2 ≤ sizeLine; decide, [u, u2], .cons ru (.cons ru2 .nil), ⟨_, hT2, rfl, _, rfl⟩⟩
    have out : ∀ {c : Addr}, c ∉ [z, TI, TO, i1, i2] → c ≠ z ∧ c ≠ TO ∧ c ≠ i1 ∧ c ≠ i2 := fun {c} hb => ⟨fun q => hb (by simp [q]), fun q => hb (by simp [q]), fun q => hb (by simp [q]), fun q => hb (by simp [q])⟩
    have I1 : Inv X pins σ (upd H s.heap.objs.size (.tup [x, y])) { s with heap := h'' } := I.turnedNew (t' := s.toks) (ch := [z, TI, TO, i1, i2]) (fun c o hb q => (sb.2 c (out hb).1).trans (hk c o (out hb).1 (out hb).2.1 (out hb).2.2.1 (out hb).2.2.2 q)) hf (Nat.le_refl _) nw
    refine ⟨.ref s.heap.objs.size, _, I1, rfl, ⟨_, x, y, rfl, I.hok.fresh (Nat.le_refl _), rfl, fun l hl => by rw [I.tuple_inj hl qx]; exact hx, fun l hl => by rw [I.list_inj hl qy]; exact hy⟩,
      ⟨u, u2, z'', (sb.2 _ D.TIz).trans Z'.ti, (sb.2 _ D.TOz).trans Z'.td, Z'.a1.at fun o q => (sb.2 _ D.i1z).trans q, Z'.a2.at fun o q => (sb.2 _ D.i2z).trans q⟩, fun c hcm => ?_⟩
    have hlt : c < s.heap.objs.size := by
      rcases five hcm with q | q | q | q | q <;> rw [q]
      · exact zl
      · exact Heap.lt_size Z.ti
      · exact Heap.lt_size Z.td
      · obtain ⟨_, e, _⟩ := Z.a1; exact Heap.lt_size e
      · obtain ⟨_, e, _⟩ := Z.a2; exact Heap.lt_size e
    rw [upd_ne (Nat.ne_of_lt hlt)]
    exact (hf c hcm).1
  done := by
    intro X hP hw hK hc i pins s σ H E I hf st hg
    subst hP hw hK
    obtain ⟨x0, y0, Z⟩ := st
    obtain ⟨xs, ys, qx, qy, hend⟩ := hg
    obtain ⟨its, rv, p, _⟩ := I.tuple qx
    obtain ⟨its2, rv2, p2, _⟩ := I.list qy
    have m1 := rv.length
    have m2 := rv2.length
    have he : its.toArray[i]? = none ∨ its2.toArray[i]? = none := hend.elim (fun q => .inl (by simp; omega)) fun q => .inr (by simp; omega)
    have out : ∀ {c : Addr}, c ∉ [z, TI, TO, i1, i2] → c ≠ z ∧ c ≠ TO ∧ c ≠ i1 ∧ c ≠ i2 := fun {c} hb => ⟨fun q => hb (by simp [q]), fun q => hb (by simp [q]), fun q => hb (by simp [q]), fun q => hb (by simp [q])⟩
    exact zm_pyEnd (I.ok.hd hc) D Z p p2.isList he fun h' hk => ⟨rfl, I.turnedL (t' := s.toks) (ch := [z, TI, TO, i1, i2]) (fun c o hb q => hk c o (out hb).1 (out hb).2.1 (out hb).2.2.1 (out hb).2.2.2 q) hf⟩
  self := fun A i s Q E ⟨x, y, Z⟩ h => wpAny_pyIter_zip Z.z h
def iZipM (K : PySem.W.Frag) (ta : TA) : TI := fun σ H R => ta σ H fun vs H1 => ∃ a b xs ys, vs = [.ref a, .ref b] ∧ SqT K H1 a xs ∧ SqL K H1 b ys ∧ R (ItM K a b) H1
theorem pi_zipM {X : Cx} {e e2 : Expr} {ta : TA} {p pos tpos : Pos} {elts : List Expr} {kk : Nat} (hg : Gl X "zip") (hm : X.mg "zip" = none) (ha : PA X [e, e2] ta)
    (hs : starEach [e, e2] X.env = (false, eval e X.env) :: starEach [e2] X.env) (hpl : (backTo pos (starEach [e2] X.env)).any (·.1) = false) : PI X (.Tuple elts kk tpos) (.Call (.Name "zip" p) [e, e2] [] pos) (iZipM X.K ta) := by
  refine ⟨fun pins s σ H R I h => Call_ (ld_blt I hg hm PyProof.Rows.boot_zip (PyProof.Rows.callWith_type1 (thn (ha.run pos pins s σ H _ I h) fun us s1 ⟨vs, H1, I1, r1, q1⟩ => ?_) hs hpl))⟩
  obtain ⟨a, b, xs, ys, ex, qx, qy, q⟩ := q1
  subst ex
  cases r1 with
  | cons r rr => cases rr with
   | cons r' rr =>
    cases rr
    cases r; cases r'
    obtain ⟨its, rv, p1, _⟩ := I1.tuple qx
    obtain ⟨its2, rv2, p2, _⟩ := I1.list qy
    obtain ⟨o1, ho1, _⟩ := id p1
    refine zm_call (show s1.heap.IsTuple a its.toArray from p1) p2.isList fun h' Z hk => wpAny_pyIter_zip Z.z ?_
    have I2 : Inv X pins σ H1 { s1 with heap := h' } := I1.kept (t' := s1.toks) hk
    refine ⟨s1.heap.objs.size + 4, [s1.heap.objs.size + 4, s1.heap.objs.size + 2, s1.heap.objs.size + 3, s1.heap.objs.size, s1.heap.objs.size + 1], _, _, H1, rfl, I2, turn_M (PySem.W.ktu_apart s1.heap.objs.size a b (Heap.lt_size ho1) p2.lt), ⟨_, _, Z⟩, fun c hcm => ?_, q⟩
    have le : s1.heap.objs.size ≤ c := by rcases five hcm with u | u | u | u | u <;> rw [u] <;> omega
    exact I1.fpOk le (I1.hok.fresh le)
end PD

set_option Elab.async false
set_option linter.all false
set_option maxRecDepth 100000
set_option maxHeartbeats 2000000
/-! PD, part tr: a tuple some times; repr of a truth, of None. -/
namespace PD
open PySem PySem.Spec PyProof.Rows L2
theorem tuple_mul1 (l : Addr) (items : Array Value) (n : Nat) (dd : Option Addr) (sl : Array (Option Value)) (x : Int) (u : Tok) (c0 : (decide (x < -(2 ^ 63)) || decide (x ≥ 2 ^ 63)) = false) (c1 : (items.isEmpty || x == 1) = true) :
    Meets (Builtin.«tuple.__mul__» ⟨[.ref l, .int x u], []⟩) (fun _ R s => s.heap.get? l = some { cls := .type "tuple", dict := dd, data := .seq items n, slots := sl } ∧
      R (.ok (.ret (Value.ref l))) s) :=
  .of_wp fun prog w A R s h => by
    obtain ⟨hp, g, d, tk, os⟩ := s
    obtain ⟨hl, h⟩ := h
    have f1 := AutoSeq1.idx_int
    wp_walk using wpAny_loadPart' hl
    refine wpAny_ite_false (decide_eq_false (by rw [c0]; exact Bool.false_ne_true)) ?_
    wp_walk using wpAny_loadPart' hl
    exact ⟨_, rfl, h⟩
theorem tuple_mul0 (l : Addr) (items : Array Value) (n : Nat) (dd : Option Addr) (sl : Array (Option Value)) (x : Int) (u : Tok) (c0 : (decide (x < -(2 ^ 63)) || decide (x ≥ 2 ^ 63)) = false) (c1 : (items.isEmpty || x == 1) = false) (c2 : (decide (x ≤ 0) || items.isEmpty) = true) :
    Meets (Builtin.«tuple.__mul__» ⟨[.ref l, .int x u], []⟩) (fun _ R s => s.heap.get? l = some { cls := .type "tuple", dict := dd, data := .seq items n, slots := sl } ∧
      R (.ok (.ret (Value.ref s.heap.objs.size))) { s with heap := s.heap.push { cls := Value.type "tuple", data := Data.seq #[] }, toks := s.toks }) :=
  .of_wp fun prog w A R s h => by
    obtain ⟨hp, g, d, tk, os⟩ := s
    obtain ⟨hl, h⟩ := h
    have f1 := AutoSeq1.idx_int
    wp_walk using wpAny_loadPart' hl
    refine wpAny_ite_false (decide_eq_false (by rw [c0]; exact Bool.false_ne_true)) ?_
    wp_walk using wpAny_loadPart' hl
    repeat (first
      | (refine wpAny_ite_false (decide_eq_false (by rw [c1]; exact Bool.false_ne_true)) ?_; wp_walk using wpAny_loadPart' hl)
      | (refine wpAny_ite_true (decide_eq_true (by rw [c2])) ?_; wp_walk using wpAny_loadPart' hl))
    exact ⟨_, rfl, h⟩
/-- a tuple of up to 1000 items, up to 1000 times -/
def rRepT (K : PySem.W.Frag) : R2 := fun x y H Q => ∃ l k xs, x = .ref l ∧ y = .int k ∧ SqT K H l xs ∧ 0 ≤ k ∧ k ≤ 1000 ∧ xs.length ≤ 1000 ∧ ((xs = [] ∨ k = 1) → Q (.ref l) H) ∧ ∀ p, H p = none → Q (.ref p) (upd H p (.tup (List.replicate k.toNat xs).flatten))
section
variable {X : Cx}
theorem op_repT1 : OpR X (binaryOp .Mult) (rRepT X.K) := by
  intro pins s σ H x y v u Q I rx ry h
  obtain ⟨l, k, xs, rfl, rfl, hT, h1, h2, hz, qs, q⟩ := h
  by_cases big : xs ≠ [] ∧ 2 ≤ k
  · exact op_repT pins s σ H _ _ v u Q I rx ry ⟨l, k, xs, rfl, rfl, hT, big.1, big.2, h2, hz, q⟩
  cases rx
  obtain ⟨t, rfl⟩ := ry
  obtain ⟨its, r, ⟨⟨cls, dd, data, sl⟩, ho, hc, n, hd⟩, hs⟩ := I.tuple hT
  simp only at hc hd
  subst hc hd
  have hle : its.length = xs.length := r.length.symm
  have c0 : (decide (k < -(2 ^ 63)) || decide (k ≥ 2 ^ 63)) = false := by
    rw [decide_eq_false (by omega), decide_eq_false (by omega)] <;> rfl
  by_cases hn : xs = [] ∨ k = 1
  · have c1 : (its.toArray.isEmpty || k == 1) = true := by
      rcases hn with hn | hn
      · rw [hn] at hle
        rw [List.eq_nil_of_length_eq_zero hle]; rfl
      · rw [hn]; simp
    refine wpAny_binaryOp_repeat_ref (T := "tuple") (U := "int") (by decide) ⟨_, ho, rfl⟩ (fun s' => typeIs_int s' k t) noFill_tuple_mul F.fills_int_mul F.slot_int_rmul repeat_tuple F.slot_int_index.lookup
      (call_meets F.slot_int_rmul (typeIs_int s k t) F.entry_int_rmul (F.args_int_rmul_2 _ _) (int_rmul_tuple k t l its.toArray n dd sl)
        ⟨ho, rfl, ⟨_, ho, rfl⟩, call_meets F.slot_tuple_mul ⟨_, ho, rfl⟩ F.entry_tuple_mul (F.args_tuple_mul_2 _ _) (tuple_mul1 l its.toArray n dd sl k t c0 c1) ⟨ho, ?_⟩⟩)
    exact ⟨.ref l, _, I, rfl, qs hn⟩
  · have hn1 : xs ≠ [] := fun z => hn (.inl z)
    have hk0 : k = 0 := by
      have a1 : k ≠ 1 := fun z => hn (.inr z)
      have a2 : ¬ 2 ≤ k := fun z => big ⟨hn1, z⟩
      omega
    subst hk0
    have hi : its.toArray.isEmpty = false := by
      cases its with
      | nil => exact absurd (List.eq_nil_of_length_eq_zero hle.symm) hn1
      | cons a b => rfl
    have c1 : (its.toArray.isEmpty || (0 : Int) == 1) = false := by rw [hi]; rfl
    have c2 : (decide ((0 : Int) ≤ 0) || its.toArray.isEmpty) = true := rfl
    refine wpAny_binaryOp_repeat_ref (T := "tuple") (U := "int") (by decide) ⟨_, ho, rfl⟩ (fun s' => typeIs_int s' 0 t) noFill_tuple_mul F.fills_int_mul F.slot_int_rmul repeat_tuple F.slot_int_index.lookup
      (call_meets F.slot_int_rmul (typeIs_int s 0 t) F.entry_int_rmul (F.args_int_rmul_2 _ _) (int_rmul_tuple 0 t l its.toArray n dd sl)
        ⟨ho, rfl, ⟨_, ho, rfl⟩, call_meets F.slot_tuple_mul ⟨_, ho, rfl⟩ F.entry_tuple_mul (F.args_tuple_mul_2 _ _) (tuple_mul0 l its.toArray n dd sl 0 t c0 c1 c2) ⟨ho, ?_⟩⟩)
    refine ⟨.ref s.heap.objs.size, _, I.laid (t' := s.toks) (o := .tup (List.replicate (0 : Int).toNat xs).flatten) (fun b ob q => Heap.get?_push_of_some _ q) (Nat.le_refl _) ?_, rfl, q _ (I.hok.fresh (Nat.le_refl _))⟩
    exact ⟨by show 0 ≤ sizeLine; exact Nat.zero_le _, [], .nil, IsTup.new _ _⟩
theorem gives_repr_bool (b : Bool) : Gives (Builtin.«bool.__repr__» ⟨[.bool b], []⟩) (.str (if b then "True" else "False")) := by cases b <;> exact .of_eq rfl
theorem gives_repr_none : Gives (Builtin.«NoneType.__repr__» ⟨[.none], []⟩) (.str "None") := .of_eq rfl
theorem call_repr_bool : CallR X (.builtin "repr") (fun xs H Q => ∃ b, xs = [.bl b] ∧ Q (.str (if b then "True" else "False")) H) := by
  intro pins s σ H xs us Q I r h
  obtain ⟨b, rfl, q⟩ := h
  cases r with
  | cons r1 r2 =>
    cases r2
    cases r1
    refine call_repr_gives (T := "bool") rfl F.slot_bool_repr F.entry_bool_repr (F.args_bool_repr_1 _) (gives_repr_bool b) ⟨.str _, H, I.tok _, ⟨_, rfl⟩, q⟩ rfl (by cases b <;> decide +kernel)
theorem call_repr_none : CallR X (.builtin "repr") (fun xs H Q => xs = [.non] ∧ Q (.str "None") H) := by
  intro pins s σ H xs us Q I r h
  obtain ⟨rfl, q⟩ := h
  cases r with
  | cons r1 r2 =>
    cases r2
    cases r1
    exact call_repr_gives (T := "NoneType") rfl F.slot_NoneType_repr F.entry_NoneType_repr (F.args_NoneType_repr_1 _) gives_repr_none ⟨.str _, H, I.tok _, ⟨_, rfl⟩, q⟩ rfl (by decide +kernel)
end
end PD

set_option Elab.async false
set_option linter.all false
set_option maxRecDepth 100000
set_option maxHeartbeats 4000000
/-! PD, part b: the small language and what it means. -/
namespace PD
open PySem PySem.Spec PyProof.Rows L2

inductive BO where | add | sub | mul | fdiv | mod | pow
  deriving DecidableEq
inductive CO where | lt | le | gt | ge | eq | ne | isN | notN | isin | notin
  deriving DecidableEq
inductive Bi where
  | len | abs | gcd | min2 | max2 | int1 | str1 | tuple | all | any | sum | divmod | repr | fact
  deriving DecidableEq

mutual
/-- expressions -/
inductive Xp where
  | nm (i : Nat) | gc (j : Nat) | lit (d : D)
  | bin (o : BO) (a b : Xp) | neg (a : Xp)
  | cmp (o : CO) (a b : Xp) | cmp2 (o o' : CO) (a b c : Xp)
  | and (a b : Xp) | or (a b : Xp) | not (a : Xp) | ife (c a b : Xp)
  | tup (es : Xps) | ix (a b : Xp) | slc (a : Xp) (lo hi : Xo)
  | call (j : Nat) (es ks : Xps) | bi (b : Bi) (es : Xps) | bic (b : Bi) (es : Xps) | isi (a : Xp) (t : String)
  | fr (f : Fx) | rev (a : Xp) | nwc (f : Fx) | cntI (i : Nat) (b : Xp)
inductive Xps where
  | nil | cons (e : Xp) (es : Xps) | star (e : Xp) (es : Xps)
inductive Xo where
  | none | some (e : Xp)
/-- expressions that make a new list -/
inductive Fx where
  | disp (es : Xps) | comp (elt : Xp) (t : Tg) (w : Wk) (c : Xo) (own : List Nat) | list (e : Xp) | cat (a b : Xp) | rep (f : Fx) (b : Xp) | slc (a : Xp) (lo hi : Xo)
  | comp2 (elt : Xp) (t : Tg) (w : Wk) (c : Xo) (t1 : Tg) (w1 : Wk) (c1 : Xo) (own own1 : List Nat)
  | compc (elt : Xp) (t : Tg) (e : Xp) (c : Xo) (own : List Nat)
/-- what is walked -/
inductive Wk where
  | seq (e : Xp) | bor (i : Nat) | range1 (a : Xp) | range2 (a b : Xp) | range3 (a b c : Xp)
  | enum (e : Xp) | enumB (i : Nat) | zip (a b : Xp) | rvd (e : Xp) | rvr (a : Xp)
/-- targets -/
inductive Tg where
  | nm (i : Nat) | tup (ts : Tgs) | sub (i : Nat) (b : Xp) | sbx (a b : Xp)
inductive Tgs where
  | nil | cons (t : Tg) (ts : Tgs)
end

mutual
/-- statements -/
inductive Sm where
  | asg (t : Tg) (e : Xp)
  | own (i : Nat) (f : Fx)
  | par (is : List Nat) (es : Xps)
  | aug (i : Nat) (o : BO) (e : Xp)
  | app (i : Nat) (e : Xp)
  | pop (i : Nat)
  | fz (i : Nat)
  | newc (i : Nat) (es : Xps)
  | retc (es : Xps)
  | ex (e : Xp) | ret (e : Xp) | ret0
  | ife (c : Xp) (a b : Sms)
  | for_ (t : Tg) (w : Wk) (b : Sms)
  | forc (t : Tg) (e : Xp) (b : Sms)
  | wh (c : Xp) (b : Sms)
  | brk | cnt | pass | never
inductive Sms where
  | nil | cons (s : Sm) (ss : Sms)
end

/-! ### data -/
mutual
def D.py : D → PyData
  | .non => .none | .bl b => .bool b | .int i => .int i | .str x => .str x | .ty _ => .none | .cell _ => .none
  | .tup xs => .tuple (D.pys xs) | .lst xs => .list (D.pys xs)
def D.pys : List D → List PyData
  | [] => [] | x :: xs => x.py :: D.pys xs
end
mutual
/-- no types, no cells within -/
def D.pure : D → Bool
  | .ty _ => false | .cell _ => false
  | .tup xs => D.pures xs | .lst xs => D.pures xs
  | _ => true
def D.pures : List D → Bool
  | [] => true | x :: xs => x.pure && D.pures xs
end
def Va.dat : Va → D
  | .d x => x | .b xs => .lst xs
def asL : Va → Option (List D)
  | .d (.lst xs) => some xs | .b xs => some xs | _ => none
def asT : Va → Option (List D)
  | .d (.tup xs) => some xs | _ => none

/-- may be compared, shown -/
def eqOk (d : D) : Bool := d.pure && SeqAt.shaped d.py
def shOk (d : D) : Bool := d.pure && d.py.showable && decide (d.py.depth ≤ 64) && decide (d.py.shown.length ≤ 16777216)
def eqD (a b : D) : Bool := PyData.eqv a.py b.py

abbrev line : Nat := 16777216
/-- sizes -/
def okMul (i j : Int) : Bool := decide (i.natAbs.log2 + j.natAbs.log2 < 4000000)
def okDiv (j : Int) : Bool := decide (j ≠ 0) && decide (j.natAbs.log2 < 9000)
def okPow (i j : Int) : Bool := decide (0 ≤ j) && decide (j ≤ 1000000) && decide (i.natAbs < 2 ^ 64)

def binV (o : BO) (x y : Va) : Option D :=
  match o, x, y with
  | .add, .d (.int i), .d (.int j) => some (.int (i + j))
  | .add, .d (.str x), .d (.str y) => if x.length + y.length ≤ line then some (.str (x ++ y)) else none
  | .add, .d (.tup x), .d (.tup y) => if x.length + y.length ≤ line then some (.tup (x ++ y)) else none
  | .sub, .d (.int i), .d (.int j) => some (.int (i - j))
  | .sub, .d (.bl i), .d (.bl j) => some (.int ((if i then 1 else 0) - (if j then 1 else 0)))
  | .mul, .d (.int i), .d (.int j) => if okMul i j then some (.int (i * j)) else none
  | .mul, .d (.tup x), .d (.int k) => if 0 ≤ k ∧ k ≤ 1000 ∧ x.length ≤ 1000 then some (.tup (List.replicate k.toNat x).flatten) else none
  | .fdiv, .d (.int i), .d (.int j) => if okDiv j then some (.int (i.fdiv j)) else none
  | .mod, .d (.int i), .d (.int j) => if j ≠ 0 then some (.int (i.fmod j)) else none
  | .pow, .d (.int i), .d (.int j) => if okPow i j then some (.int (i ^ j.toNat)) else none
  | _, _, _ => none

def cmpV (o : CO) (x y : Va) : Option Bool :=
  match o, x, y with
  | .lt, .d (.int i), .d (.int j) => some (decide (i < j))
  | .le, .d (.int i), .d (.int j) => some (decide (i ≤ j))
  | .gt, .d (.int i), .d (.int j) => some (decide (j < i))
  | .ge, .d (.int i), .d (.int j) => some (decide (j ≤ i))
  | .eq, .d (.str x), .d (.str y) => some (decide (x = y))
  | .ne, .d (.str x), .d (.str y) => some (!decide (x = y))
  | .eq, x, y => if eqOk x.dat && eqOk y.dat then some (eqD x.dat y.dat) else none
  | .ne, x, y => if eqOk x.dat && eqOk y.dat then some (!eqD x.dat y.dat) else none
  | .isN, .d .non, .d .non => some true
  | .isN, .d (.int _), .d .non => some false
  | .isN, .d (.bl _), .d .non => some false
  | .isN, .d (.str _), .d .non => some false
  | .isN, .d (.tup _), .d .non => some false
  | .isN, .d (.lst _), .d .non => some false
  | .isN, .d (.bl a), .d (.bl b) => some (decide (a = b))
  | .notN, .d .non, .d .non => some false
  | .notN, .d (.int _), .d .non => some true
  | .notN, .d (.bl _), .d .non => some true
  | .notN, .d (.str _), .d .non => some true
  | .notN, .d (.tup _), .d .non => some true
  | .notN, .d (.lst _), .d .non => some true
  | .notN, .d (.bl a), .d (.bl b) => some (!decide (a = b))
  | .isin, x, y => match asL y with
    | some ds => if eqOk x.dat && eqOk (.lst ds) then some (ds.any fun z => eqD z x.dat) else none
    | none => match asT y with
      | some ds => if eqOk x.dat && eqOk (.tup ds) then some (ds.any fun z => eqD z x.dat) else none
      | none => none
  | .notin, x, y => match asL y with
    | some ds => if eqOk x.dat && eqOk (.lst ds) then some (!ds.any fun z => eqD z x.dat) else none
    | none => match asT y with
      | some ds => if eqOk x.dat && eqOk (.tup ds) then some (!ds.any fun z => eqD z x.dat) else none
      | none => none
  | _, _, _ => none

def negV : Va → Option D
  | .d (.int i) => some (.int (-i)) | _ => none

/-- an item -/
def ixV (x y : Va) (S : Store) : Option D :=
  match y with
  | .d (.int i) => match x with
    | .d (.tup xs) => atI xs i
    | .d (.lst xs) => atI xs i
    | .b xs => atI xs i
    | .d (.cell n) => match S[n]? with | some xs => atI xs i | none => none
    | _ => none
  | _ => none

def cutD (xs : List D) (lo hi : Option Int) : List D :=
  (xs.drop (HT.sIx xs.length 0 lo)).take (HT.sIx xs.length xs.length hi - HT.sIx xs.length 0 lo)
def optI : Option Va → Option (Option Int)
  | none => some none | some (.d (.int i)) => some (some i) | _ => none
def slcT (x : Va) (lo hi : Option Int) : Option D :=
  match x with
  | .d (.tup xs) => some (.tup (cutD xs lo hi))
  | .d (.lst xs) => some (.lst (cutD xs lo hi))
  | .b xs => some (.lst (cutD xs lo hi))
  | _ => none
def slcT0 (x : Va) (lo hi : Option Int) : Option D :=
  match x with
  | .d (.tup xs) => some (.tup (cutD xs lo hi))
  | _ => none
def slcL (x : Va) (lo hi : Option Int) : Option (List D) := (asL x).map fun xs => cutD xs lo hi
/-- of a list that may be changed, too -/
def slcS (x : Va) (lo hi : Option Int) (S : Store) : Option D :=
  match x with
  | .d (.cell n) => (S[n]?).map fun xs => .lst (cutD xs lo hi)
  | x => slcT x lo hi
def slcLS (x : Va) (lo hi : Option Int) (S : Store) : Option (List D) :=
  match x with
  | .d (.cell n) => (S[n]?).map fun xs => cutD xs lo hi
  | x => slcL x lo hi

def revV : Va → Option D
  | .d (.tup xs) => some (.tup xs.reverse) | .d (.lst xs) => some (.lst xs.reverse) | .b xs => some (.lst xs.reverse) | _ => none
def intsOf : List D → Option (List Int)
  | [] => some []
  | .int i :: r => match intsOf r with | some l => some (i :: l) | none => none
  | _ :: _ => none
def boolsOf : List D → Option (List Bool)
  | [] => some []
  | .bl i :: r => match boolsOf r with | some l => some (i :: l) | none => none
  | _ :: _ => none

def biV (b : Bi) (xs : List Va) : Option D :=
  match b, xs with
  | .len, [.d (.tup xs)] => some (.int xs.length)
  | .len, [.d (.lst xs)] => some (.int xs.length)
  | .len, [.b xs] => some (.int xs.length)
  | .abs, [.d (.int i)] => some (.int (if i < 0 then -i else i))
  | .gcd, [.d (.int i), .d (.int j)] => some (.int ((Nat.gcd i.natAbs j.natAbs : Nat) : Int))
  | .min2, [.d (.int i), .d (.int j)] => some (.int (if j < i then j else i))
  | .max2, [.d (.int i), .d (.int j)] => some (.int (if j > i then j else i))
  | .int1, [.d (.int i)] => some (.int i)
  | .int1, [.d (.bl k)] => some (.int (if k then 1 else 0))
  | .str1, [.d (.int i)] => if i.natAbs.log2 < 1920 then some (.str (toString i)) else none
  | .tuple, [.d (.tup xs)] => some (.tup xs)
  | .tuple, [.d (.lst xs)] => some (.tup xs)
  | .tuple, [.b xs] => some (.tup xs)
  | .all, [x] => match asL x with | some ds => (boolsOf ds).map fun l => .bl (l.all id) | none => none
  | .any, [x] => match asL x with | some ds => (boolsOf ds).map fun l => .bl (l.any id) | none => none
  | .sum, [x] => match asL x with | some ds => (intsOf ds).map fun l => .int l.sum | none => none
  | .fact, [.d (.int i)] => if 0 ≤ i ∧ i ≤ 100 then some (.int ((Builtin.Math.factorialNat i.toNat : Nat) : Int)) else none
  | .divmod, [.d (.int i), .d (.int j)] => if 0 < j ∧ j < 1073741824 then some (.tup [.int (i / j), .int (i % j)]) else none
  | .repr, [.d (.tup xs)] => if shOk (.tup xs) then some (.str (D.tup xs).py.shown) else none
  | .repr, [.d (.lst xs)] => if shOk (.lst xs) then some (.str (D.lst xs).py.shown) else none
  | .repr, [.b xs] => if shOk (.lst xs) then some (.str (D.lst xs).py.shown) else none
  | .repr, [.d (.int i)] => if i.natAbs.log2 < 1920 then some (.str (toString i)) else none
  | .repr, [.d (.bl b)] => some (.str (if b then "True" else "False"))
  | .repr, [.d .non] => some (.str "None")
  | _, _ => none

/-- of a list that may be changed, as it is now -/
def bicV (b : Bi) (xs : List Va) (S : Store) : Option D :=
  match b, xs with
  | .len, [.d (.cell n)] => (S[n]?).map fun ds => .int ds.length
  | .tuple, [.d (.cell n)] => (S[n]?).map .tup
  | b, xs => biV b xs
def tyN : Va → Option String
  | .d .non => some "NoneType" | .d (.bl _) => some "bool" | .d (.int _) => some "int" | .d (.str _) => some "str"
  | .d (.tup _) => some "tuple" | .d (.lst _) => some "list" | .b _ => some "list" | _ => none
def isiV (x : Va) (t : String) : Option Bool := match tyN x with | some n => kitB n t | none => none

/-- strict data -/
def unV : Va → Option D
  | .d x => some x | .b _ => none
def unVs : List Va → Option (List D)
  | [] => some []
  | x :: r => match unV x with
    | some d => match unVs r with | some l => some (d :: l) | none => none
    | none => none

/-! ### the run -/
structure Ent where
  name : Str
  n : Nat
  ks : List Str
  sem : List D → Store → Option (D × Store)
structure Gam where
  ents : List Ent
  cons : List (Str × D)
  fre : List Str
  bfs : List (Str × String)

def bnd {α β : Type} (m : Option (α × Store)) (f : α → Store → Option (β × Store)) : Option (β × Store) :=
  match m with
  | some (a, S) => f a S
  | none => none
@[simp] theorem bnd_some {α β : Type} (a : α) (S : Store) (f : α → Store → Option (β × Store)) : bnd (some (a, S)) f = f a S := rfl
@[simp] theorem bnd_none {α β : Type} (f : α → Store → Option (β × Store)) : bnd none f = none := rfl
def lft {α : Type} (o : Option α) (S : Store) : Option (α × Store) :=
  match o with
  | some a => some (a, S)
  | none => none
@[simp] theorem lft_some {α : Type} (a : α) (S : Store) : lft (some a) S = some (a, S) := rfl
@[simp] theorem lft_none {α : Type} (S : Store) : lft (none : Option α) S = none := rfl
theorem of_bnd {α β : Type} {m : Option (α × Store)} {f : α → Store → Option (β × Store)} {r : β × Store} (h : bnd m f = some r) : ∃ a S, m = some (a, S) ∧ f a S = some r := by
  match m, h with
  | some (a, S), h => exact ⟨a, S, rfl, h⟩
theorem of_lft {α : Type} {o : Option α} {S S' : Store} {a : α} (h : lft o S = some (a, S')) : o = some a ∧ S' = S := by
  match o, h with
  | some b, h => cases h; exact ⟨rfl, rfl⟩

/-- the items of a list or a tuple -/
def seqV (x : Va) : Option (List D) := match asL x with | some l => some l | none => asT x
/-- the pairs of enumerate, of zip -/
def enumD (ds : List D) : List D := ds.mapIdx fun i d => .tup [.int (i : Nat), d]
def zipD (ds es : List D) : List D := List.zipWith (fun d e => .tup [d, e]) ds es
/-- a comprehension's turns, two fors -/
def compN (turn : D → Store → Option (List D × Store)) : List D → Store → Option (List D × Store)
  | [], S => some ([], S)
  | d :: ds, S => bnd (turn d S) fun r S1 => bnd (compN turn ds S1) fun rs S2 => some (r ++ rs, S2)
/-- a list that may be changed is as it was -/
noncomputable def sameC (S : Store) (n : Nat) (ds : List D) : Bool := @decide (S[n]? = some ds) (Classical.propDecidable _)
theorem sameC_of {S : Store} {n : Nat} {ds : List D} (h : S[n]? = some ds) : sameC S n ds = true := by unfold sameC; exact @decide_eq_true _ (Classical.propDecidable _) h
theorem of_sameC {S : Store} {n : Nat} {ds : List D} (h : sameC S n ds = true) : S[n]? = some ds := by unfold sameC at h; exact @of_decide_eq_true _ (Classical.propDecidable _) h
def cellOf (x : Va) (S : Store) : Option (Nat × List D) := match x with
  | .d (.cell n) => (S[n]?).map fun ds => (n, ds)
  | _ => none
/-- a comprehension's turns -/
def compL (turn : D → Store → Option (Option D × Store)) : List D → Store → Option (List D × Store)
  | [], S => some ([], S)
  | d :: ds, S => bnd (turn d S) fun r S1 => bnd (compL turn ds S1) fun rs S2 => some ((match r with | some x => x :: rs | none => rs), S2)

def wipeL (L : Loc) : List Nat → Loc
  | [] => L
  | v :: vs => (wipeL L vs).set v .un

def asB (x : Va) : Option Bool := match x with | .d (.bl b) => some b | _ => none

def Wk.isB : Wk → Bool
  | .bor _ => true | .enumB _ => true | _ => false
/-- pairs, to be taken apart by the target -/
def Wk.pair : Wk → Bool
  | .enum _ => true | .enumB _ => true | .zip _ _ => true | _ => false

variable (G : Gam)
mutual
noncomputable def evX : Xp → Loc → Store → Option (Va × Store)
  | .nm i, L, S => match L[i]? with
    | some (.dat d) => some (.d d, S)
    | some (.own xs) => some (.b xs, S)
    | _ => none
  | .gc j, _, S => match G.cons[j]? with | some p => some (.d p.2, S) | none => none
  | .lit d, _, S => some (.d d, S)
  | .bin o a b, L, S => bnd (evX a L S) fun x S1 => bnd (evX b L S1) fun y S2 => lft ((binV o x y).map .d) S2
  | .neg a, L, S => bnd (evX a L S) fun x S1 => lft ((negV x).map .d) S1
  | .cmp o a b, L, S => bnd (evX a L S) fun x S1 => bnd (evX b L S1) fun y S2 => lft ((cmpV o x y).map fun c => .d (.bl c)) S2
  | .cmp2 o o' a b c, L, S => bnd (evX a L S) fun x S1 => bnd (evX b L S1) fun y S2 => bnd (lft (cmpV o x y) S2) fun k S2 =>
      if k = true then bnd (evX c L S2) fun z S3 => lft ((cmpV o' y z).map fun c => .d (.bl c)) S3 else some (.d (.bl false), S2)
  | .and a b, L, S => bnd (evX a L S) fun x S1 => bnd (lft (asB x) S1) fun c S1 => if c = true then evX b L S1 else some (.d (.bl false), S1)
  | .or a b, L, S => bnd (evX a L S) fun x S1 => bnd (lft (asB x) S1) fun c S1 => if c = true then some (.d (.bl true), S1) else evX b L S1
  | .not a, L, S => bnd (evX a L S) fun x S1 => lft ((asB x).map fun c => .d (.bl (!c))) S1
  | .ife c a b, L, S => bnd (evX c L S) fun x S1 => bnd (lft (asB x) S1) fun c S1 => if c = true then evX a L S1 else evX b L S1
  | .tup es, L, S => bnd (evXs es L S) fun xs S1 => lft ((unVs xs).map fun ds => .d (.tup ds)) S1
  | .ix a b, L, S => bnd (evX a L S) fun x S1 => bnd (evX b L S1) fun y S2 => lft ((ixV x y S2).map .d) S2
  | .slc a lo hi, L, S => bnd (evX a L S) fun x S1 => bnd (evO lo L S1) fun l S2 => bnd (evO hi L S2) fun h S3 => lft ((slcS x l h S3).map .d) S3
  | .call j es ks, L, S => match G.ents[j]? with
    | some e => bnd (evXs es L S) fun xs S1 => bnd (evXs ks L S1) fun zs S2 => bnd (lft (unVs (xs ++ zs)) S2) fun ds S2 =>
        if xs.length = e.n ∧ zs.length = e.ks.length then bnd (e.sem ds S2) fun d S3 => some (.d d, S3) else none
    | none => none
  | .bi b es, L, S => bnd (evXs es L S) fun xs S1 => lft ((biV b xs).map .d) S1
  | .bic b es, L, S => bnd (evXs es L S) fun xs S1 => lft ((bicV b xs S1).map .d) S1
  | .isi a t, L, S => bnd (evX a L S) fun x S1 => lft ((isiV x t).map fun c => .d (.bl c)) S1
  | .fr f, L, S => bnd (evF f L S) fun xs S1 => some (.d (.lst xs), S1)
  | .rev a, L, S => bnd (evX a L S) fun x S1 => lft ((revV x).map .d) S1
  | .nwc f, L, S => bnd (evF f L S) fun xs S1 => some (.d (.cell S1.length), S1 ++ [xs])
  | .cntI i b, L, S => match L[i]? with
    | some (.dat (.lst ds)) => bnd (evX b L S) fun y S1 => lft (match y with | .d (.int k) => (intsOf ds).map fun l => .d (.int (l.count k : Nat)) | _ => none) S1
    | _ => none
noncomputable def evXs : Xps → Loc → Store → Option (List Va × Store)
  | .nil, _, S => some ([], S)
  | .cons e es, L, S => bnd (evX e L S) fun x S1 => bnd (evXs es L S1) fun xs S2 => some (x :: xs, S2)
  | .star e es, L, S => bnd (evX e L S) fun x S1 => bnd (lft (seqV x) S1) fun l S1 => bnd (evXs es L S1) fun xs S2 => if l.length ≤ 100000 then some (l.map .d ++ xs, S2) else none
noncomputable def evO : Xo → Loc → Store → Option (Option Int × Store)
  | .none, _, S => some (none, S)
  | .some e, L, S => bnd (evX e L S) fun x S1 => lft (optI (some x)) S1
noncomputable def evF : Fx → Loc → Store → Option (List D × Store)
  | .disp es, L, S => bnd (evXs es L S) fun xs S1 => lft (unVs xs) S1
  | .comp elt t w c own, L, S => bnd (evW w L S) fun ds S1 => if ds.length < line then
      compL (fun d S => bnd (evG t d (wipeL L own) S) fun L2 S => bnd (evC c L2 S) fun k S => if k = true then bnd (evX elt L2 S) fun x S => bnd (lft (unV x) S) fun y S => some (some y, S) else some (none, S)) ds S1
      else none
  | .list e, L, S => bnd (evX e L S) fun x S1 => lft (match asL x with | some l => some l | none => asT x) S1
  | .cat a b, L, S => bnd (evX a L S) fun x S1 => bnd (evX b L S1) fun y S2 => lft (match asL x, asL y with
      | some l, some m => if l.length + m.length ≤ line then some (l ++ m) else none
      | _, _ => none) S2
  | .rep f b, L, S => bnd (evF f L S) fun l S1 => bnd (evX b L S1) fun y S2 => lft (match y with
      | .d (.int k) => if 0 ≤ k ∧ k < 2 ^ 63 ∧ l.length * k.toNat ≤ line then some (List.replicate k.toNat l).flatten else none
      | _ => none) S2
  | .slc a lo hi, L, S => bnd (evX a L S) fun x S1 => bnd (evO lo L S1) fun l S2 => bnd (evO hi L S2) fun h S3 => lft (slcLS x l h S3) S3
  | .comp2 elt t w c t1 w1 c1 own own1, L, S => bnd (evW w L S) fun ds S1 => bnd (compN (fun d S => bnd (evG t d (wipeL L own) S) fun L2 S => bnd (evC c L2 S) fun k S => if k = true then
        bnd (evW w1 L2 S) fun es S => compL (fun d S => bnd (evG t1 d (wipeL L2 own1) S) fun L3 S => bnd (evC c1 L3 S) fun k S => if k = true then bnd (evX elt L3 S) fun x S => bnd (lft (unV x) S) fun y S => some (some y, S) else some (none, S)) es S
      else some ([], S)) ds S1) fun xs S2 => if xs.length ≤ line then some (xs, S2) else none
  | .compc elt t e c own, L, S => bnd (evX e L S) fun x S1 => bnd (lft (cellOf x S1) S1) fun p S1 => if p.2.length < line then
      bnd (compL (fun d S => if sameC S p.1 p.2 = true then bnd (evG t d (wipeL L own) S) fun L2 S => bnd (evC c L2 S) fun k S => if k = true then bnd (evX elt L2 S) fun x S => bnd (lft (unV x) S) fun y S => some (some y, S) else some (none, S) else none) p.2 S1) fun xs S2 =>
        if sameC S2 p.1 p.2 = true then some (xs, S2) else none
      else none
/-- a test of a comprehension -/
noncomputable def evC : Xo → Loc → Store → Option (Bool × Store)
  | .none, _, S => some (true, S)
  | .some e, L, S => bnd (evX e L S) fun x S1 => lft (asB x) S1
/-- the items that are walked -/
noncomputable def evW : Wk → Loc → Store → Option (List D × Store)
  | .seq e, L, S => bnd (evX e L S) fun x S1 => lft (match x with | .d (.lst l) => some l | .d (.tup l) => some l | _ => none) S1
  | .bor i, L, S => match L[i]? with
    | some (.own xs) => some (xs, S)
    | _ => none
  | .range1 a, L, S => bnd (evX a L S) fun x S1 => lft (match x with
      | .d (.int n) => if n < 2 ^ 62 ∧ -(2 ^ 62) ≤ n then some ((List.range n.toNat).map fun i => .int (i : Nat)) else none
      | _ => none) S1
  | .range2 a b, L, S => bnd (evX a L S) fun x S1 => bnd (evX b L S1) fun y S2 => lft (match x, y with
      | .d (.int m), .d (.int n) => if n < 2 ^ 62 ∧ -(2 ^ 62) ≤ n ∧ m < 2 ^ 62 ∧ -(2 ^ 62) ≤ m then some ((List.range (n - m).toNat).map fun i => .int (m + (i : Nat))) else none
      | _, _ => none) S2
  | .range3 a b c, L, S => bnd (evX a L S) fun x S1 => bnd (evX b L S1) fun y S2 => bnd (evX c L S2) fun z S3 => lft (match x, y, z with
      | .d (.int m), .d (.int n), .d (.int k) => if k = -1 ∧ n < 2 ^ 62 ∧ -(2 ^ 62) ≤ n ∧ m < 2 ^ 62 ∧ -(2 ^ 62) ≤ m then some ((List.range (m - n).toNat).map fun i => .int (m + (i : Nat) * (-1))) else none
      | _, _, _ => none) S3
  | .enum e, L, S => bnd (evX e L S) fun x S1 => lft ((match x with | .d (.lst l) => some l | .d (.tup l) => some l | _ => none).map enumD) S1
  | .enumB i, L, S => match L[i]? with
    | some (.own xs) => some (enumD xs, S)
    | _ => none
  | .zip a b, L, S => bnd (evX a L S) fun x S1 => bnd (evX b L S1) fun y S2 => lft (match x, y with
      | .d (.lst l), .d (.lst m) => some (zipD l m)
      | .d (.tup l), .d (.tup m) => some (zipD l m)
      | .d (.tup l), .d (.lst m) => some (zipD l m)
      | _, _ => none) S2
  | .rvd e, L, S => bnd (evX e L S) fun x S1 => lft (match x with | .d (.lst l) => some l.reverse | .d (.tup l) => some l.reverse | _ => none) S1
  | .rvr e, L, S => bnd (evX e L S) fun x S1 => lft (match x with
      | .d (.int n) => if n < 2 ^ 62 ∧ -(2 ^ 62) ≤ n then some ((List.range n.toNat).map fun i => .int (n - 1 - (i : Nat))) else none
      | _ => none) S1
/-- a datum is given to a target -/
noncomputable def evG : Tg → D → Loc → Store → Option (Loc × Store)
  | .nm i, d, L, S => some (L.set i (.dat d), S)
  | .tup ts, d, L, S => match d with
    | .tup ds => evGs ts ds L S
    | .lst ds => evGs ts ds L S
    | _ => none
  | .sub i b, d, L, S => bnd (evX b L S) fun y S1 => match y with
    | .d (.int k) => match L[i]? with
      | some (.own xs) => match ixN xs.length k with | some j => some (L.set i (.own (xs.set j d)), S1) | none => none
      | some (.dat (.cell n)) => match S1[n]? with
        | some xs => match ixN xs.length k with | some j => some (L, S1.set n (xs.set j d)) | none => none
        | none => none
      | _ => none
    | _ => none
  | .sbx a b, d, L, S => bnd (evX a L S) fun x S1 => bnd (evX b L S1) fun y S2 => match x, y with
    | .d (.cell n), .d (.int k) => match S2[n]? with
      | some xs => match ixN xs.length k with | some j => some (L, S2.set n (xs.set j d)) | none => none
      | none => none
    | _, _ => none
noncomputable def evGs : Tgs → List D → Loc → Store → Option (Loc × Store)
  | .nil, [], L, S => some (L, S)
  | .cons t ts, d :: ds, L, S => bnd (evG t d L S) fun L1 S1 => evGs ts ds L1 S1
  | _, _, _, _ => none
end
end PD

set_option Elab.async false
set_option linter.all false
set_option maxRecDepth 100000
set_option maxHeartbeats 4000000
/-! PD, part c: statements. -/
namespace PD
open PySem PySem.Spec PyProof.Rows L2

inductive Fl where | nx | brk | cnt | ret (d : D)

/-- a for loop over items -/
def forL (step : D → Loc → Store → Option ((Fl × Loc) × Store)) : List D → Loc → Store → Option ((Fl × Loc) × Store)
  | [], L, S => some ((.nx, L), S)
  | d :: ds, L, S => bnd (step d L S) fun r S1 => match r.1 with
    | .nx => forL step ds r.2 S1
    | .cnt => forL step ds r.2 S1
    | .brk => some ((.nx, r.2), S1)
    | .ret x => some ((.ret x, r.2), S1)
/-- a while loop, n turns at most -/
def whN (c : Loc → Store → Option (Bool × Store)) (body : Loc → Store → Option ((Fl × Loc) × Store)) : Nat → Loc → Store → Option ((Fl × Loc) × Store)
  | 0, _, _ => none
  | n + 1, L, S => bnd (c L S) fun k S1 => if k = true then bnd (body L S1) fun r S2 => match r.1 with
      | .nx => whN c body n r.2 S2
      | .cnt => whN c body n r.2 S2
      | .brk => some ((.nx, r.2), S2)
      | .ret x => some ((.ret x, r.2), S2)
    else some ((.nx, L), S1)
theorem whN_more {c : Loc → Store → Option (Bool × Store)} {body : Loc → Store → Option ((Fl × Loc) × Store)} : ∀ {n : Nat} {L : Loc} {S : Store} {r : (Fl × Loc) × Store}, whN c body n L S = some r → whN c body (n + 1) L S = some r
  | 0, _, _, _, h => by cases h
  | n + 1, L, S, r, h => by
    unfold whN at h ⊢
    obtain ⟨k, S1, h1, h2⟩ := of_bnd h
    rw [h1, bnd_some]
    cases k with
    | false => exact h2
    | true =>
      simp only [if_true] at h2 ⊢
      obtain ⟨⟨f, L2⟩, S2, h3, h4⟩ := of_bnd h2
      rw [h3, bnd_some]
      cases f with
      | nx => exact whN_more h4
      | cnt => exact whN_more h4
      | brk => exact h4
      | ret x => exact h4
theorem whN_le {c : Loc → Store → Option (Bool × Store)} {body : Loc → Store → Option ((Fl × Loc) × Store)} {n m : Nat} {L : Loc} {S : Store} {r : (Fl × Loc) × Store} (h : whN c body n L S = some r) (le : n ≤ m) : whN c body m L S = some r := by
  induction le with
  | refl => exact h
  | step _ ih => exact whN_more ih
open Classical in
/-- a while loop -/
noncomputable def whL (c : Loc → Store → Option (Bool × Store)) (body : Loc → Store → Option ((Fl × Loc) × Store)) (L : Loc) (S : Store) : Option ((Fl × Loc) × Store) :=
  if h : ∃ r n, whN c body n L S = some r then some h.choose else none
theorem of_whL {c : Loc → Store → Option (Bool × Store)} {body : Loc → Store → Option ((Fl × Loc) × Store)} {L : Loc} {S : Store} {r : (Fl × Loc) × Store} (h : whL c body L S = some r) : ∃ n, whN c body n L S = some r := by
  unfold whL at h
  split at h
  · rename_i hx
    cases h
    exact hx.choose_spec
  · cases h
theorem whL_of {c : Loc → Store → Option (Bool × Store)} {body : Loc → Store → Option ((Fl × Loc) × Store)} {L : Loc} {S : Store} {r : (Fl × Loc) × Store} {n : Nat} (h : whN c body n L S = some r) : whL c body L S = some r := by
  have hx : ∃ r n, whN c body n L S = some r := ⟨r, n, h⟩
  unfold whL
  rw [dif_pos hx]
  obtain ⟨m, hm⟩ := hx.choose_spec
  have h1 := whN_le h (Nat.le_max_left n m)
  have h2 := whN_le hm (Nat.le_max_right n m)
  rw [h1] at h2
  exact h2.symm
/-- one turn -/
theorem whL_eq (c : Loc → Store → Option (Bool × Store)) (body : Loc → Store → Option ((Fl × Loc) × Store)) (L : Loc) (S : Store) : whL c body L S = bnd (c L S) fun k S1 => if k = true then bnd (body L S1) fun r S2 => (match r.1 with
      | .nx => whL c body r.2 S2
      | .cnt => whL c body r.2 S2
      | .brk => some ((.nx, r.2), S2)
      | .ret x => some ((.ret x, r.2), S2) : Option ((Fl × Loc) × Store))
    else some ((.nx, L), S1) := by
  have go : ∀ r, whL c body L S = some r ↔ (bnd (c L S) fun k S1 => if k = true then bnd (body L S1) fun r S2 => (match r.1 with
      | .nx => whL c body r.2 S2
      | .cnt => whL c body r.2 S2
      | .brk => some ((.nx, r.2), S2)
      | .ret x => some ((.ret x, r.2), S2) : Option ((Fl × Loc) × Store))
    else some ((.nx, L), S1)) = some r := by
    intro r
    constructor
    · intro h
      obtain ⟨n, hn⟩ := of_whL h
      cases n with
      | zero => cases hn
      | succ n =>
        unfold whN at hn
        obtain ⟨k, S1, h1, h2⟩ := of_bnd hn
        rw [h1, bnd_some]
        cases k with
        | false => exact h2
        | true =>
          simp only [if_true] at h2 ⊢
          obtain ⟨⟨f, L2⟩, S2, h3, h4⟩ := of_bnd h2
          rw [h3, bnd_some]
          cases f with
          | nx => exact whL_of h4
          | cnt => exact whL_of h4
          | brk => exact h4
          | ret x => exact h4
    · intro h
      obtain ⟨k, S1, h1, h2⟩ := of_bnd h
      cases k with
      | false => exact whL_of (n := 1) (by unfold whN; rw [h1, bnd_some]; exact h2)
      | true =>
        simp only [if_true] at h2
        obtain ⟨⟨f, L2⟩, S2, h3, h4⟩ := of_bnd h2
        cases f with
        | nx =>
          obtain ⟨n, hn⟩ := of_whL (show whL c body L2 S2 = some r from h4)
          exact whL_of (n := n + 1) (by unfold whN; rw [h1, bnd_some, if_pos rfl, h3, bnd_some]; exact hn)
        | cnt =>
          obtain ⟨n, hn⟩ := of_whL (show whL c body L2 S2 = some r from h4)
          exact whL_of (n := n + 1) (by unfold whN; rw [h1, bnd_some, if_pos rfl, h3, bnd_some]; exact hn)
        | brk => exact whL_of (n := 1) (by unfold whN; rw [h1, bnd_some, if_pos rfl, h3, bnd_some]; exact h4)
        | ret x => exact whL_of (n := 1) (by unfold whN; rw [h1, bnd_some, if_pos rfl, h3, bnd_some]; exact h4)
  cases e : whL c body L S with
  | some r => exact ((go r).mp e).symm
  | none =>
    cases e2 : (bnd (c L S) fun k S1 => if k = true then bnd (body L S1) fun r S2 => (match r.1 with
      | .nx => whL c body r.2 S2
      | .cnt => whL c body r.2 S2
      | .brk => some ((.nx, r.2), S2)
      | .ret x => some ((.ret x, r.2), S2) : Option ((Fl × Loc) × Store))
    else some ((.nx, L), S1)) with
    | none => rfl
    | some r =>
      have := (go r).mpr e2
      rw [e] at this
      cases this

/-- several slots stored -/
def setAll : List Nat → List D → Loc → Loc
  | i :: is, d :: ds, L => setAll is ds (L.set i (.dat d))
  | _, _, L => L

def augV (o : BO) (x : D) (y : Va) : Option D :=
  match o, x, y with
  | .add, .int i, .d (.int j) => some (.int (i + j))
  | .sub, .int i, .d (.int j) => some (.int (i - j))
  | _, _, _ => none

variable (G : Gam)
mutual
noncomputable def evS : Sm → Loc → Store → Option ((Fl × Loc) × Store)
  | .asg t e, L, S => bnd (evX G e L S) fun x S1 => bnd (lft (unV x) S1) fun d S1 => bnd (evG G t d L S1) fun L2 S2 => some ((.nx, L2), S2)
  | .own i f, L, S => bnd (evF G f L S) fun xs S1 => some ((.nx, L.set i (.own xs)), S1)
  | .par is es, L, S => bnd (evXs G es L S) fun xs S1 => bnd (lft (unVs xs) S1) fun ds S1 => if ds.length = is.length then some ((.nx, setAll is.reverse ds.reverse L), S1) else none
  | .aug i o e, L, S => match L[i]? with
    | some (.dat d) => bnd (evX G e L S) fun y S1 => bnd (lft (augV o d y) S1) fun z S1 => some ((.nx, L.set i (.dat z)), S1)
    | _ => none
  | .app i e, L, S => bnd (evX G e L S) fun x S1 => bnd (lft (unV x) S1) fun d S1 => match L[i]? with
    | some (.own xs) => if xs.length < line then some ((.nx, L.set i (.own (xs ++ [d]))), S1) else none
    | some (.dat (.cell n)) => match S1[n]? with
      | some xs => if xs.length < line then some ((.nx, L), S1.set n (xs ++ [d])) else none
      | none => none
    | _ => none
  | .pop i, L, S => match L[i]? with
    | some (.own xs) => if xs.length = 0 then none else some ((.nx, L.set i (.own xs.dropLast)), S)
    | _ => none
  | .fz i, L, S => match L[i]? with
    | some (.own xs) => some ((.nx, L.set i (.dat (.lst xs))), S)
    | _ => some ((.nx, L), S)
  | .newc i es, L, S => bnd (evXs G es L S) fun xs S1 => bnd (lft (unVs xs) S1) fun ds S1 => some ((.nx, L.set i (.dat (.cell S1.length))), S1 ++ [ds])
  | .retc es, L, S => bnd (evXs G es L S) fun xs S1 => bnd (lft (unVs xs) S1) fun ds S1 => some ((.ret (.cell S1.length), L), S1 ++ [ds])
  | .ex e, L, S => bnd (evX G e L S) fun _ S1 => some ((.nx, L), S1)
  | .ret e, L, S => bnd (evX G e L S) fun x S1 => bnd (lft (unV x) S1) fun d S1 => some ((.ret d, L), S1)
  | .ret0, L, S => some ((.ret .non, L), S)
  | .ife c a b, L, S => bnd (evX G c L S) fun x S1 => bnd (lft (asB x) S1) fun k S1 => if k = true then evSs a L S1 else evSs b L S1
  | .for_ t w b, L, S => if w.isB then none else bnd (evW G w L S) fun ds S1 => forL (fun d L S => bnd (evG G t d L S) fun L2 S2 => evSs b L2 S2) ds L S1
  | .forc t e b, L, S => bnd (evX G e L S) fun x S1 => bnd (lft (cellOf x S1) S1) fun p S1 => bnd (forL (fun d L S => if sameC S p.1 p.2 = true then bnd (evG G t d L S) fun L2 S2 => evSs b L2 S2 else none) p.2 L S1) fun r S2 => if sameC S2 p.1 p.2 = true then some (r, S2) else none
  | .wh c b, L, S => whL (fun L S => bnd (evX G c L S) fun x S1 => lft (asB x) S1) (fun L S => evSs b L S) L S
  | .brk, L, S => some ((.brk, L), S)
  | .cnt, L, S => some ((.cnt, L), S)
  | .pass, L, S => some ((.nx, L), S)
  | .never, _, _ => none
noncomputable def evSs : Sms → Loc → Store → Option ((Fl × Loc) × Store)
  | .nil, L, S => some ((.nx, L), S)
  | .cons s ss, L, S => bnd (evS s L S) fun r S1 => match r.1 with
    | .nx => evSs ss r.2 S1
    | f => some ((f, r.2), S1)
end

/-- a def's run: n names, the parameters first -/
noncomputable def runF (n : Nat) (b : Sms) (ds : List D) (S : Store) : Option (D × Store) :=
  bnd (evSs G b (ds.map .dat ++ List.replicate (n - ds.length) .un) S) fun r S1 => match r.1 with
    | .ret d => some (d, S1)
    | .nx => some (.non, S1)
    | _ => none
end PD

set_option Elab.async false
set_option linter.all false
set_option maxRecDepth 100000
set_option maxHeartbeats 4000000
/-! PD, part d: each form of an expression keeps its meaning. -/
namespace PD
open PySem PySem.Spec PyProof.Rows L2
abbrev Ms (α : Type) := Loc → Store → Option (α × Store)

def tD (K : PySem.W.Frag) (m : Ms Va) : TE := fun σ H Q => ∃ g H0 L S x S', Cr K g H0 σ H L S ∧ m L S = some (x, S') ∧
  ∀ v g' H', Ext g H g' H' → Gs K g' H' S' → RpV K g' H' v x → Q v H'
def tDT (K : PySem.W.Frag) (m : Ms Bool) : TT := fun σ H Q => ∃ g H0 L S x S', Cr K g H0 σ H L S ∧ m L S = some (x, S') ∧
  ∀ g' H', Ext g H g' H' → Gs K g' H' S' → Q x H'
inductive RpVs (K : PySem.W.Frag) (g : Gh) (H : Hp) : List V → List Va → Prop
  | nil : RpVs K g H [] []
  | cons {v : V} {vs : List V} {d : Va} {ds : List Va} : RpV K g H v d → RpVs K g H vs ds → RpVs K g H (v :: vs) (d :: ds)
def tDA (K : PySem.W.Frag) (m : Ms (List Va)) : TA := fun σ H Q => ∃ g H0 L S xs S', Cr K g H0 σ H L S ∧ m L S = some (xs, S') ∧
  ∀ vs g' H', Ext g H g' H' → Gs K g' H' S' → RpVs K g' H' vs xs → Q vs H'
/-- a new list -/
def tDF (K : PySem.W.Frag) (m : Ms (List D)) : TE := fun σ H Q => ∃ g H0 L S xs S', Cr K g H0 σ H L S ∧ m L S = some (xs, S') ∧
  ∀ p vs g' H', Ext g H g' H' → Gs K g' H' S' → H' p = some (.lst vs) → Rps K g' H' vs xs → g'.W p → p ∉ g'.ca → H p = none → Q (.ref p) H'
/-- an end of a slice -/
def tDO (K : PySem.W.Frag) (m : Ms (Option Int)) : TO := fun σ H Q => ∃ g H0 L S x S', Cr K g H0 σ H L S ∧ m L S = some (x, S') ∧
  ∀ g' H', Ext g H g' H' → Gs K g' H' S' → Q x H'

section
variable {K : PySem.W.Frag} {g g' : Gh} {H H' : Hp}
theorem RpVs.ext (e : Ext g H g' H') (hc : ∀ c ∈ g.ca, g.W c) : ∀ {vs : List V} {ds : List Va}, RpVs K g H vs ds → RpVs K g' H' vs ds
  | _, _, .nil => .nil
  | _, _, .cons h r => .cons (h.ext e hc) (RpVs.ext e hc r)
theorem RpVs.strict : ∀ {vs : List V} {xs : List Va} {ds : List D}, RpVs K g H vs xs → unVs xs = some ds → Rps K g H vs ds
  | _, _, _, .nil, e => by cases e; exact .nil
  | _, _, _, .cons (d := x) h r, e => by
    unfold unVs at e
    cases x with
    | b xs => cases e
    | d x =>
      simp only [unV] at e
      split at e
      · rename_i l hl
        cases e
        exact .cons h (r.strict hl)
      · cases e
theorem RpV.seqL {v : V} {x : Va} {ds : List D} (h : RpV K g H v x) (e : asL x = some ds) : ∃ a xs, v = .ref a ∧ SqL K H a xs ∧ Rps K g H xs ds := by
  cases x with
  | b ys =>
    cases e
    obtain ⟨a, xs, rfl, ha, r, _⟩ := h
    exact ⟨a, xs, rfl, SqL.of ha, r⟩
  | d y =>
    cases y with
    | lst ys =>
      cases e
      have h' : Rp K g H v (.lst ds) := h
      cases h' with
      | lst l r => exact ⟨_, _, rfl, l.sq, r⟩
    | _ => cases e
theorem RpV.seqT {v : V} {x : Va} {ds : List D} (h : RpV K g H v x) (e : asT x = some ds) : ∃ a xs, v = .ref a ∧ TupAt K g H a xs ∧ Rps K g H xs ds := by
  cases x with
  | b ys => cases e
  | d y =>
    cases y with
    | tup ys =>
      cases e
      have h' : Rp K g H v (.tup ds) := h
      cases h' with
      | tup l r => exact ⟨_, _, rfl, l, r⟩
    | _ => cases e
theorem RpV.intV {v : V} {i : Int} (h : RpV K g H v (.d (.int i))) : v = .int i := by
  have h' : Rp K g H v (.int i) := h
  cases h'; rfl
theorem RpV.blV {v : V} {i : Bool} (h : RpV K g H v (.d (.bl i))) : v = .bl i := by
  have h' : Rp K g H v (.bl i) := h
  cases h'; rfl
theorem RpV.strV {v : V} {i : Str} (h : RpV K g H v (.d (.str i))) : v = .str i := by
  have h' : Rp K g H v (.str i) := h
  cases h'; rfl
theorem RpV.nonV {v : V} (h : RpV K g H v (.d .non)) : v = .non := by
  have h' : Rp K g H v .non := h
  cases h'; rfl
mutual
theorem Rp.dp : ∀ {v : V} {d : D}, Rp K g H v d → d.pure = true → Dp K H v d.py
  | _, _, .non, _ => .non
  | _, _, .bl b, _ => .bl b
  | _, _, .int i, _ => .int i
  | _, _, .str x, _ => .str x
  | _, _, .ty n, h => by simp [D.pure] at h
  | _, _, .tup l r, h => .tup l.sq (Rps.dp r (by simpa [D.pure] using h))
  | _, _, .lst l r, h => .lst l.sq (Rps.dp r (by simpa [D.pure] using h))
  | _, _, .cell _, h => by simp [D.pure] at h
theorem Rps.dp : ∀ {vs : List V} {ds : List D}, Rps K g H vs ds → D.pures ds = true → DpAll K H vs (D.pys ds)
  | _, _, .nil, _ => .nil
  | _, _, .cons h r, e => by
    simp only [D.pures, Bool.and_eq_true] at e
    exact .cons (h.dp e.1) (r.dp e.2)
end
theorem RpV.dp {v : V} {x : Va} (h : RpV K g H v x) (e : x.dat.pure = true) : Dp K H v x.dat.py := by
  cases x with
  | d y => exact Rp.dp h e
  | b ys =>
    obtain ⟨a, xs, rfl, ha, r, _⟩ := h
    exact .lst (SqL.of ha) (r.dp (by simpa [Va.dat, D.pure] using e))
end

/-! ### by weaker readings -/
theorem _root_.L2.PE.wk {X : Cx} {e : Expr} {t t' : TE} (h : PE X e t) (w : ∀ σ H Q, t' σ H Q → t σ H Q) : PE X e t' := ⟨fun pins s σ H Q I q => h.run pins s σ H Q I (w σ H Q q)⟩
theorem _root_.L2.PT.wk {X : Cx} {e : Expr} {t t' : TT} (h : PT X e t) (w : ∀ σ H Q, t' σ H Q → t σ H Q) : PT X e t' := ⟨fun pins s σ H Q I q => h.run pins s σ H Q I (w σ H Q q)⟩
theorem _root_.L2.PA.wk {X : Cx} {e : List Expr} {t t' : TA} (h : PA X e t) (w : ∀ σ H Q, t' σ H Q → t σ H Q) : PA X e t' := ⟨fun pos pins s σ H Q I q => h.run pos pins s σ H Q I (w σ H Q q)⟩
theorem _root_.L2.PO.wk {X : Cx} {e : Option Expr} {t t' : TO} (h : PO X e t) (w : ∀ σ H Q, t' σ H Q → t σ H Q) : PO X e t' := ⟨fun pins s σ H Q I q => h.run pins s σ H Q I (w σ H Q q)⟩

section
variable {X : Cx} {a b c : Expr} {es : List Expr} {ma mb mc : Ms Va} {pos : Pos}

/-- two expressions, then an operation on their values -/
theorem tD_two {f : Va → Va → Store → Option (Va × Store)} {r : R2} {K : PySem.W.Frag}
    (hr : ∀ g H S S' x y dx dy d (Q : VK), Gs K g H S → RpV K g H x dx → RpV K g H y dy → f dx dy S = some (d, S') →
      (∀ v g' H', Ext g H g' H' → Gs K g' H' S' → RpV K g' H' v d → Q v H') → r x y H Q) (σ : L2.St) (H : Hp) (Q : VK)
    (h : tD K (fun L S => bnd (ma L S) fun x S1 => bnd (mb L S1) fun y S2 => f x y S2) σ H Q) : tOp r (tD K ma) (tD K mb) σ H Q := by
  obtain ⟨g, H0, L, S, x, S', cr, e, q⟩ := h
  obtain ⟨dx, S1, e1, e⟩ := of_bnd e
  obtain ⟨dy, S2, e2, e⟩ := of_bnd e
  refine ⟨g, H0, L, S, dx, S1, cr, e1, fun v g1 H1 x1 s1 r1 => ⟨g1, H0, L, S1, dy, S2, cr.ext x1 s1, e2, fun u g2 H2 x2 s2 r2 => ?_⟩⟩
  exact hr g2 H2 S2 S' v u dx dy x Q s2 (r1.ext x2 s1.cw) r2 e fun w g3 H3 x3 s3 r3 => q w g3 H3 (x1.trans (x2.trans x3)) s3 r3
/-- one -/
theorem tD_one {f : Va → Store → Option (Va × Store)} {r : V → Hp → VK → Prop} {K : PySem.W.Frag}
    (hr : ∀ g H S S' x dx d (Q : VK), Gs K g H S → RpV K g H x dx → f dx S = some (d, S') →
      (∀ v g' H', Ext g H g' H' → Gs K g' H' S' → RpV K g' H' v d → Q v H') → r x H Q) (σ : L2.St) (H : Hp) (Q : VK)
    (h : tD K (fun L S => bnd (ma L S) fun x S1 => f x S1) σ H Q) : tUn r (tD K ma) σ H Q := by
  obtain ⟨g, H0, L, S, x, S', cr, e, q⟩ := h
  obtain ⟨dx, S1, e1, e⟩ := of_bnd e
  exact ⟨g, H0, L, S, dx, S1, cr, e1, fun v g1 H1 x1 s1 r1 => hr g1 H1 S1 S' v dx x Q s1 r1 e fun w g3 H3 x3 s3 r3 => q w g3 H3 (x1.trans x3) s3 r3⟩

/-! ### operators -/
theorem of_mapd {o : Option D} {S S' : Store} {x : Va} (h : lft (o.map Va.d) S = some (x, S')) : ∃ d, o = some d ∧ x = .d d ∧ S' = S := by
  match o, h with
  | some d, h => cases h; exact ⟨d, rfl, rfl, rfl⟩
theorem of_mapb {o : Option Bool} {S S' : Store} {x : Va} (h : lft (o.map fun c => Va.d (.bl c)) S = some (x, S')) : ∃ d, o = some d ∧ x = .d (.bl d) ∧ S' = S := by
  match o, h with
  | some d, h => cases h; exact ⟨d, rfl, rfl, rfl⟩
theorem op_sub_bb : OpR X (binaryOp .Sub) (fun x y H Q => ∃ i k, x = .bl i ∧ y = .bl k ∧ Q (.int ((if i then 1 else 0) - (if k then 1 else 0))) H) := by
  intro pins s σ H x y v u Q I rx ry h
  obtain ⟨i, k, rfl, rfl, q⟩ := h
  cases rx
  cases ry
  refine binaryOp_gives (op := .Sub) (T := "bool") (m := .int ((if i then 1 else 0) - (if k then 1 else 0))) rfl rfl PySem.F.fills_bool_sub PySem.F.slot_bool_sub PySem.F.entry_int_sub (PySem.F.args_int_sub_2 _ _) ?_ trivial ⟨.int _, H, I.tok _, ⟨_, rfl⟩, q⟩
  exact .of_wp fun M A E s Q h => by obtain ⟨hp, g, d, tk, os⟩ := s; wp_walk; exact ⟨_, rfl, h⟩
/-- * of two factors of together less than four million bits -/
def CMulX (i j : Int) : Prop := i.natAbs.log2 + j.natAbs.log2 < 4000000
theorem CMulX.ok {i j : Int} (h : CMulX i j) : IntMulOk i j := by
  have b : ∀ x : Int, Builtin.Int.intBits x ≤ x.natAbs.log2 + 1 := fun x => by
    unfold Builtin.Int.intBits
    split <;> omega
  have h1 := b i
  have h2 := b j
  have h3 : i.natAbs.log2 + j.natAbs.log2 < 4000000 := h
  have e : bitsLine = 134217728 := by decide
  unfold IntMulOk
  intro z
  rw [Bool.and_eq_true] at z
  have z2 := z.2
  unfold Builtin.Int.intTooBig at z2
  have z3 := of_decide_eq_true z2
  rw [e] at z3
  omega
theorem op_mulX : OpR X (binaryOp .Mult) (rI CMulX fun i j => .int (i * j)) := opI fun _ _ _ _ _ _ _ hc q => mul_int q hc.ok
theorem op_fdivA : OpR X (binaryOp .FloorDiv) (rI (fun _ j => j ≠ 0 ∧ j.natAbs.log2 < 9000) fun i j => .int (i.fdiv j)) :=
  opI fun i j _ _ _ _ _ hc q => floordiv_int hc.1 q (.inl (PyProof.noPylong_of_log2 hc.2))
/-- the operator of the text -/
def BO.op : BO → Operator
  | .add => .Add | .sub => .Sub | .mul => .Mult | .fdiv => .FloorDiv | .mod => .Mod | .pow => .Pow
def rB (K : PySem.W.Frag) : BO → R2
  | .add => fun x y H Q => rI0 (fun i j => .int (i + j)) x y H Q ∨ (∃ i j, x = .str i ∧ y = .str j ∧ i.length + j.length ≤ sizeLine ∧ Q (.str (i ++ j)) H) ∨ rCatA K x y H Q
  | .sub => fun x y H Q => rI0 (fun i j => .int (i - j)) x y H Q ∨ (∃ i k, x = .bl i ∧ y = .bl k ∧ Q (.int ((if i then 1 else 0) - (if k then 1 else 0))) H)
  | .mul => fun x y H Q => rI CMulX (fun i j => .int (i * j)) x y H Q ∨ rRepT K x y H Q
  | .fdiv => rI (fun _ j => j ≠ 0 ∧ j.natAbs.log2 < 9000) fun i j => .int (i.fdiv j)
  | .mod => rI (fun _ j => j ≠ 0) fun i j => .int (i.fmod j)
  | .pow => rI CPow fun i j => .int (i ^ j.toNat)
theorem op_B (o : BO) : OpR X (binaryOp o.op) (rB X.K o) := by
  cases o with
  | add => exact op_add.or (op_add_str.or op_catA)
  | sub => exact op_sub.or op_sub_bb
  | mul => exact op_mulX.or op_repT1
  | fdiv => exact op_fdivA
  | mod => exact op_modN
  | pow => exact op_pow
theorem rps_rep {K : PySem.W.Frag} {g : Gh} {H : Hp} {vs : List V} {ds : List D} (r : Rps K g H vs ds) : ∀ k : Nat, Rps K g H (List.replicate k vs).flatten (List.replicate k ds).flatten
  | 0 => .nil
  | k + 1 => by
    rw [List.replicate_succ, List.replicate_succ, List.flatten_cons, List.flatten_cons]
    exact r.append (rps_rep r k)
theorem line_eq : (sizeLine : Nat) = line := sizeLine_eq
theorem rB_ok {K : PySem.W.Frag} (o : BO) (g : Gh) (H : Hp) (S S' : Store) (x y : V) (dx dy : Va) (d : Va) (Q : VK) (s : Gs K g H S) (rx : RpV K g H x dx) (ry : RpV K g H y dy) (e : lft ((binV o dx dy).map Va.d) S = some (d, S'))
    (q : ∀ v g' H', Ext g H g' H' → Gs K g' H' S' → RpV K g' H' v d → Q v H') : rB K o x y H Q := by
  obtain ⟨d, e, rfl, rfl⟩ := of_mapd e
  unfold binV at e
  split at e
  · cases e
    rw [rx.intV, ry.intV]
    exact .inl ⟨_, _, rfl, rfl, q _ _ _ Ext.refl s (.int _)⟩
  · split at e
    · cases e
      rename_i h
      rw [rx.strV, ry.strV]
      exact .inr (.inl ⟨_, _, rfl, rfl, by rw [line_eq]; exact h, q _ _ _ Ext.refl s (.str _)⟩)
    · cases e
  · split at e
    · cases e
      rename_i h
      obtain ⟨a, xs, rfl, ta, ra⟩ := rx.seqT (ds := _) rfl
      obtain ⟨b, ys, rfl, tb, rb⟩ := ry.seqT (ds := _) rfl
      have l1 := ra.length
      have l2 := rb.length
      refine .inr (.inr ⟨a, b, xs, ys, rfl, rfl, ta.sq, tb.sq, by rw [line_eq, l1, l2]; exact h, fun z => ?_, fun _ z => ?_, fun _ _ p hp => ?_⟩)
      · have z2 := l1.symm
        rw [z] at z2
        rw [List.eq_nil_of_length_eq_zero z2] at q
        exact q _ _ _ Ext.refl s (.tup tb rb)
      · have z2 := l2.symm
        rw [z] at z2
        rw [List.eq_nil_of_length_eq_zero z2, List.append_nil] at q
        exact q _ _ _ Ext.refl s (.tup ta ra)
      · obtain ⟨x1, s1, r1⟩ := new_tup s hp (ra.append rb)
        exact q _ _ _ x1 s1 r1
    · cases e
  · cases e
    rw [rx.intV, ry.intV]
    exact .inl ⟨_, _, rfl, rfl, q _ _ _ Ext.refl s (.int _)⟩
  · cases e
    rw [rx.blV, ry.blV]
    exact .inr ⟨_, _, rfl, rfl, q _ _ _ Ext.refl s (.int _)⟩
  · split at e
    · cases e
      rename_i h
      rw [rx.intV, ry.intV]
      exact .inl ⟨_, _, rfl, rfl, (show CMulX _ _ from of_decide_eq_true (p := _ < _) h), q _ _ _ Ext.refl s (.int _)⟩
    · cases e
  · split at e
    · cases e
      rename_i h
      obtain ⟨a, xs, rfl, ta, ra⟩ := rx.seqT (ds := _) rfl
      rw [ry.intV]
      refine .inr ⟨a, _, xs, rfl, rfl, ta.sq, h.1, h.2.1, by rw [ra.length]; exact h.2.2, fun z => ?_, fun p hp => ?_⟩
      · rcases z with z | z
        · have l1 := ra.length
          rw [z] at l1
          rw [List.eq_nil_of_length_eq_zero l1.symm, List.flatten_replicate_nil] at q
          refine q _ _ _ Ext.refl s (show Rp K g H _ _ from ?_)
          rw [z, List.eq_nil_of_length_eq_zero l1.symm] at ra
          rw [z] at ta
          exact .tup ta ra
        · rw [z] at q
          simp at q
          exact q _ _ _ Ext.refl s (show Rp K g H _ _ from .tup ta ra)
      · obtain ⟨x1, s1, r1⟩ := new_tup s hp (rps_rep ra _)
        exact q _ _ _ x1 s1 r1
    · cases e
  · split at e
    · cases e
      rename_i h
      rw [rx.intV, ry.intV]
      simp only [okDiv, Bool.and_eq_true, decide_eq_true_eq] at h
      exact ⟨_, _, rfl, rfl, h, q _ _ _ Ext.refl s (.int _)⟩
    · cases e
  · split at e
    · cases e
      rename_i h
      rw [rx.intV, ry.intV]
      exact ⟨_, _, rfl, rfl, h, q _ _ _ Ext.refl s (.int _)⟩
    · cases e
  · split at e
    · cases e
      rename_i h
      rw [rx.intV, ry.intV]
      simp only [okPow, Bool.and_eq_true, decide_eq_true_eq] at h
      exact ⟨_, _, rfl, rfl, ⟨h.1.1, h.1.2, h.2⟩, q _ _ _ Ext.refl s (.int _)⟩
    · cases e
  · cases e
theorem pd_bin (o : BO) (ha : PE X a (tD X.K ma)) (hb : PE X b (tD X.K mb)) :
    PE X (.BinOp a o.op b pos) (tD X.K fun L S => bnd (ma L S) fun x S1 => bnd (mb L S1) fun y S2 => lft ((binV o x y).map .d) S2) :=
  (pe_op (op_B o) ha hb).wk (tD_two (rB_ok o))
theorem pd_neg (ha : PE X a (tD X.K ma)) : PE X (.UnaryOp .USub a pos) (tD X.K fun L S => bnd (ma L S) fun x S1 => lft ((negV x).map .d) S1) := by
  refine (pe_un un_neg ha).wk (tD_one fun g H S S' x dx d Q s rx e q => ?_)
  obtain ⟨d, e, rfl, rfl⟩ := of_mapd e
  unfold negV at e
  split at e
  · cases e
    rw [rx.intV]
    exact ⟨_, rfl, q _ _ _ Ext.refl s (.int _)⟩
  · cases e

/-! ### comparisons -/
theorem eqOk_of {d : D} (h : eqOk d = true) : d.pure = true ∧ SeqAt.shaped d.py = true := by
  simpa [eqOk, Bool.and_eq_true] using h
/-- in, of lists and tuples of data -/
def rInT (K : PySem.W.Frag) (neg : Bool) : R2 := fun x y H Q => ∃ d ds, Dp K H x d ∧ (Dp K H y (.list ds) ∨ Dp K H y (.tuple ds)) ∧ SeqAt.shaped d = true ∧ SeqAt.shaped (.list ds) = true ∧
  Q (.bl (if neg then !ds.any fun z => PyData.eqv z d else ds.any fun z => PyData.eqv z d)) H
theorem room_in {A : Around} {n : Nat} {d : PyData} (sd : SeqAt.shaped d = true) (hu : A.units + 65 < cLine) : A.units + 1 + min n d.depth < cLine := by
  have h1 := SeqAt.depth_of_shaped sd
  have h2 : min n d.depth ≤ d.depth := Nat.min_le_right _ _
  omega
theorem op_inT (hu : X.A.units + 65 < cLine) : OpR X (compareOp .In) (rInT X.K false) := by
  intro pins s σ H x y v u Q I rx ry h
  obtain ⟨d, ds, hd, he, sd, se, q⟩ := h
  obtain ⟨as, r1⟩ := Dp.reads I d x v hd rx
  have hl : PyData.canLayAll0 ds = true := SeqAt.canLay_of_shaped se
  rcases he with he | he
  · obtain ⟨bs, r2⟩ := Dp.reads I (.list ds) y u he ry
    exact SeqAt.in_list_reads r2 r1 hl (SeqAt.canLay_of_shaped sd) (room_in sd hu) ⟨.bl _, H, I, rfl, q⟩
  · obtain ⟨bs, r2⟩ := Dp.reads I (.tuple ds) y u he ry
    exact SeqAt.in_tuple_reads r2 r1 hl (SeqAt.canLay_of_shaped sd) (room_in sd hu) ⟨.bl _, H, I, rfl, q⟩
theorem op_notInT (hu : X.A.units + 65 < cLine) : OpR X (compareOp .NotIn) (rInT X.K true) := by
  intro pins s σ H x y v u Q I rx ry h
  obtain ⟨d, ds, hd, he, sd, se, q⟩ := h
  obtain ⟨as, r1⟩ := Dp.reads I d x v hd rx
  have hl : PyData.canLayAll0 ds = true := SeqAt.canLay_of_shaped se
  rcases he with he | he
  · obtain ⟨bs, r2⟩ := Dp.reads I (.list ds) y u he ry
    exact SeqAt.notIn_list_reads r2 r1 hl (SeqAt.canLay_of_shaped sd) (room_in sd hu) ⟨.bl _, H, I, rfl, q⟩
  · obtain ⟨bs, r2⟩ := Dp.reads I (.tuple ds) y u he ry
    exact SeqAt.notIn_tuple_reads r2 r1 hl (SeqAt.canLay_of_shaped sd) (room_in sd hu) ⟨.bl _, H, I, rfl, q⟩
def CO.op : CO → CmpOp
  | .lt => .Lt | .le => .LtE | .gt => .Gt | .ge => .GtE | .eq => .Eq | .ne => .NotEq | .isN => .Is | .notN => .IsNot | .isin => .In | .notin => .NotIn
def rC (K : PySem.W.Frag) : CO → R2
  | .lt => rI0 fun i j => .bl (decide (i < j))
  | .le => rI0 fun i j => .bl (decide (i ≤ j))
  | .gt => rI0 fun i j => .bl (decide (j < i))
  | .ge => rI0 fun i j => .bl (decide (j ≤ i))
  | .eq => fun x y H Q => rEq x y H Q ∨ rEqD K x y H Q
  | .ne => fun x y H Q => rNe x y H Q ∨ rNeD K x y H Q
  | .isN => fun x y H Q => (y = .non ∧ Q (.bl (decide (x = .non))) H) ∨ (∃ a b, x = .bl a ∧ y = .bl b ∧ Q (.bl (decide (a = b))) H)
  | .notN => fun x y H Q => (y = .non ∧ Q (.bl (!decide (x = .non))) H) ∨ (∃ a b, x = .bl a ∧ y = .bl b ∧ Q (.bl (!decide (a = b))) H)
  | .isin => rInT K false
  | .notin => rInT K true
theorem op_C (o : CO) (hu : X.A.units + 65 < cLine) : OpR X (compareOp o.op) (rC X.K o) := by
  cases o with
  | lt => exact op_lt
  | le => exact op_le
  | gt => exact op_gt
  | ge => exact op_ge
  | eq =>
    rintro pins s σ H x y v u Q I rx ry (h | h)
    · exact op_eq pins s σ H x y v u Q I rx ry h
    · exact op_eqD (by omega) pins s σ H x y v u Q I rx ry h
  | ne =>
    rintro pins s σ H x y v u Q I rx ry (h | h)
    · exact op_ne pins s σ H x y v u Q I rx ry h
    · exact op_neD (by omega) pins s σ H x y v u Q I rx ry h
  | isN => exact op_isN.or op_is_bl
  | notN => exact op_notN.or op_isnot_bl
  | isin => exact op_inT hu
  | notin => exact op_notInT hu
theorem pys_any (d : PyData) : ∀ ds : List D, ((D.pys ds).any fun z => PyData.eqv z d) = ds.any fun z => PyData.eqv z.py d
  | [] => rfl
  | x :: xs => by simp only [D.pys, List.any_cons, pys_any d xs]
theorem shaped_lt {ds : List PyData} (h : SeqAt.shaped (.tuple ds) = true) : SeqAt.shaped (.list ds) = true := by
  simpa [SeqAt.shaped, PyData.canLay0, PyData.depth] using h
theorem dec_strV {i j : Str} : decide (V.str i = V.str j) = decide (i = j) := by
  rw [Bool.eq_iff_iff]
  simp
theorem rC_ok {K : PySem.W.Frag} (o : CO) (g : Gh) (H : Hp) (S : Store) (x y : V) (dx dy : Va) (b : Bool) (Q : VK) (s : Gs K g H S) (rx : RpV K g H x dx) (ry : RpV K g H y dy) (e : cmpV o dx dy = some b)
    (q : Q (.bl b) H) : rC K o x y H Q := by
  unfold cmpV at e
  split at e
  · cases e; rw [rx.intV, ry.intV]; exact ⟨_, _, rfl, rfl, q⟩
  · cases e; rw [rx.intV, ry.intV]; exact ⟨_, _, rfl, rfl, q⟩
  · cases e; rw [rx.intV, ry.intV]; exact ⟨_, _, rfl, rfl, q⟩
  · cases e; rw [rx.intV, ry.intV]; exact ⟨_, _, rfl, rfl, q⟩
  · cases e
    rw [rx.strV, ry.strV]
    exact .inl ⟨rfl, by rw [dec_strV]; exact q⟩
  · cases e
    rw [rx.strV, ry.strV]
    exact .inl ⟨rfl, by rw [dec_strV]; exact q⟩
  · split at e
    · cases e
      rename_i h
      simp only [Bool.and_eq_true] at h
      obtain ⟨p1, h1⟩ := eqOk_of h.1
      obtain ⟨p2, h2⟩ := eqOk_of h.2
      exact .inr ⟨_, _, rx.dp p1, ry.dp p2, h1, h2, q⟩
    · cases e
  · split at e
    · cases e
      rename_i h
      simp only [Bool.and_eq_true] at h
      obtain ⟨p1, h1⟩ := eqOk_of h.1
      obtain ⟨p2, h2⟩ := eqOk_of h.2
      exact .inr ⟨_, _, rx.dp p1, ry.dp p2, h1, h2, q⟩
    · cases e
  · cases e; rw [rx.nonV, ry.nonV]; exact .inl ⟨rfl, q⟩
  · cases e; rw [rx.intV, ry.nonV]; exact .inl ⟨rfl, q⟩
  · cases e; rw [rx.blV, ry.nonV]; exact .inl ⟨rfl, q⟩
  · cases e; rw [rx.strV, ry.nonV]; exact .inl ⟨rfl, q⟩
  · cases e; rw [ry.nonV]; obtain ⟨a, xs, rfl, _⟩ := rx.seqT (ds := _) rfl; exact .inl ⟨rfl, q⟩
  · cases e; rw [ry.nonV]; obtain ⟨a, xs, rfl, _⟩ := rx.seqL (ds := _) rfl; exact .inl ⟨rfl, q⟩
  · cases e; rw [rx.blV, ry.blV]; exact .inr ⟨_, _, rfl, rfl, q⟩
  · cases e; rw [rx.nonV, ry.nonV]; exact .inl ⟨rfl, q⟩
  · cases e; rw [rx.intV, ry.nonV]; exact .inl ⟨rfl, q⟩
  · cases e; rw [rx.blV, ry.nonV]; exact .inl ⟨rfl, q⟩
  · cases e; rw [rx.strV, ry.nonV]; exact .inl ⟨rfl, q⟩
  · cases e; rw [ry.nonV]; obtain ⟨a, xs, rfl, _⟩ := rx.seqT (ds := _) rfl; exact .inl ⟨rfl, q⟩
  · cases e; rw [ry.nonV]; obtain ⟨a, xs, rfl, _⟩ := rx.seqL (ds := _) rfl; exact .inl ⟨rfl, q⟩
  · cases e; rw [rx.blV, ry.blV]; exact .inr ⟨_, _, rfl, rfl, q⟩
  · split at e
    · rename_i ds hds
      split at e
      · cases e
        rename_i h
        simp only [Bool.and_eq_true] at h
        obtain ⟨p1, h1⟩ := eqOk_of h.1
        obtain ⟨p2, h2⟩ := eqOk_of h.2
        obtain ⟨a, xs, rfl, sq, r⟩ := ry.seqL hds
        refine ⟨_, _, rx.dp p1, .inl (.lst sq (r.dp (by simpa [D.pure] using p2))), h1, by simpa [D.py] using h2, ?_⟩
        simp only [Bool.false_eq_true, if_false]
        rw [pys_any]
        exact q
      · cases e
    · split at e
      · rename_i ds hds
        split at e
        · cases e
          rename_i h
          simp only [Bool.and_eq_true] at h
          obtain ⟨p1, h1⟩ := eqOk_of h.1
          obtain ⟨p2, h2⟩ := eqOk_of h.2
          obtain ⟨a, xs, rfl, sq, r⟩ := ry.seqT hds
          refine ⟨_, _, rx.dp p1, .inr (.tup sq.sq (r.dp (by simpa [D.pure] using p2))), h1, shaped_lt (by simpa [D.py] using h2), ?_⟩
          simp only [Bool.false_eq_true, if_false]
          rw [pys_any]
          exact q
        · cases e
      · cases e
  · split at e
    · rename_i ds hds
      split at e
      · cases e
        rename_i h
        simp only [Bool.and_eq_true] at h
        obtain ⟨p1, h1⟩ := eqOk_of h.1
        obtain ⟨p2, h2⟩ := eqOk_of h.2
        obtain ⟨a, xs, rfl, sq, r⟩ := ry.seqL hds
        refine ⟨_, _, rx.dp p1, .inl (.lst sq (r.dp (by simpa [D.pure] using p2))), h1, by simpa [D.py] using h2, ?_⟩
        simp only [if_true]
        rw [pys_any]
        exact q
      · cases e
    · split at e
      · rename_i ds hds
        split at e
        · cases e
          rename_i h
          simp only [Bool.and_eq_true] at h
          obtain ⟨p1, h1⟩ := eqOk_of h.1
          obtain ⟨p2, h2⟩ := eqOk_of h.2
          obtain ⟨a, xs, rfl, sq, r⟩ := ry.seqT hds
          refine ⟨_, _, rx.dp p1, .inr (.tup sq.sq (r.dp (by simpa [D.pure] using p2))), h1, shaped_lt (by simpa [D.py] using h2), ?_⟩
          simp only [if_true]
          rw [pys_any]
          exact q
        · cases e
      · cases e
  · cases e
theorem pd_cmp (o : CO) (hu : X.A.units + 65 < cLine) (hm : behindInMarks o.op b = false) (ha : PE X a (tD X.K ma)) (hb : PE X b (tD X.K mb)) :
    PE X (.Compare a [o.op] [b] pos) (tD X.K fun L S => bnd (ma L S) fun x S1 => bnd (mb L S1) fun y S2 => lft ((cmpV o x y).map fun c => .d (.bl c)) S2) := by
  refine (pe_cmpR (op_C o hu) ha hb hm).wk (tD_two fun g H S S' x y dx dy d Q s rx ry e q => ?_)
  obtain ⟨k, e2, rfl, rfl⟩ := of_mapb e
  exact rC_ok o g H _ x y dx dy k Q s rx ry e2 (q _ _ _ Ext.refl s (.bl k))
/-- a value as a test: what is asked of it is a truth -/
def mT (m : Ms Va) : Ms Bool := fun L S => bnd (m L S) fun x S1 => lft (asB x) S1
theorem mT_val {K : PySem.W.Frag} {m : Ms Va} (σ : L2.St) (H : Hp) (Q : Bool → Hp → Prop) (h : tDT K (mT m) σ H Q) : tTest (tD K m) σ H Q := by
  obtain ⟨g, H0, L, S, x, S', cr, e, q⟩ := h
  obtain ⟨dx, S1, e1, e⟩ := of_bnd e
  obtain ⟨e, rfl⟩ := of_lft e
  refine ⟨g, H0, L, S, dx, _, cr, e1, fun v g1 H1 x1 s1 r1 => ⟨x, ?_, q g1 H1 x1 s1⟩⟩
  unfold asB at e
  split at e
  · cases e; exact r1.blV
  · cases e
theorem pt_of (h : PE X a (tD X.K ma)) (he : ∀ whole, isTrue a X.env whole = (do let v ← whole; standAt a.pos; holding [v] (truthy v))) : PT X a (tDT X.K (mT ma)) :=
  (pt_val h he).wk mT_val
theorem pt_cmpD (o : CO) (hu : X.A.units + 65 < cLine) (hm : behindInMarks o.op b = false) (ha : PE X a (tD X.K ma)) (hb : PE X b (tD X.K mb)) :
    PT X (.Compare a [o.op] [b] pos) (tDT X.K (mT fun L S => bnd (ma L S) fun x S1 => bnd (mb L S1) fun y S2 => lft ((cmpV o x y).map fun c => .d (.bl c)) S2)) := by
  refine (pt_cmpR (op_C o hu) ha hb hm).wk fun σ H Q h => ?_
  refine tD_two (K := X.K) (f := fun x y S2 => lft ((cmpV o x y).map fun c => Va.d (.bl c)) S2) (fun g H S S' x y dx dy d Q s rx ry e q => ?_) σ H _ (mT_val σ H Q h)
  obtain ⟨k, e2, rfl, rfl⟩ := of_mapb e
  exact rC_ok o g H _ x y dx dy k Q s rx ry e2 (q _ _ _ Ext.refl s (.bl k))

/-! ### names, constants -/
theorem pd_nm {i : Nat} {x : Str} (hN : X.N[i]? = some x) (hv : Vis X.env.scope x) (hd : (x == ("__debug__" : Str)) = false) (hcd : (x == ("__classdict__" : Str)) = false) :
    PE X (.Name x pos) (tD X.K fun L S => match L[i]? with | some (.dat d) => some (.d d, S) | some (.own xs) => some (.b xs, S) | _ => none) := by
  refine (pe_var hN hv hd hcd).wk fun σ H Q h => ?_
  obtain ⟨g, H0, L, S, x, S', cr, e, q⟩ := h
  dsimp only at e
  split at e
  · rename_i d hd
    cases e
    obtain ⟨v, h1, r⟩ := cr.l.dat i d hd
    exact ⟨v, h1, q v g H Ext.refl cr.s r⟩
  · rename_i ds hd
    cases e
    obtain ⟨a, xs, h1, h2, r, w, n, _⟩ := cr.l.own i ds hd
    exact ⟨_, h1, q _ g H Ext.refl cr.s ⟨a, xs, rfl, h2, r, w, n⟩⟩
  · cases e
theorem pd_const {v : V} {d : D} {e : Expr} (h : PE X e (tC v)) (r : ∀ g H, Rp X.K g H v d) : PE X e (tD X.K fun _ S => some (.d d, S)) := by
  refine h.wk fun σ H Q h => ?_
  obtain ⟨g, H0, L, S, x, S', cr, e, q⟩ := h
  cases e
  exact q v g H Ext.refl cr.s (r g H)

/-! ### and, or, not, if -/
variable {rest : List Expr}
theorem mB {x : Va} {S S' : Store} {c : Bool} (h : lft (asB x) S = some (c, S')) : x = .d (.bl c) ∧ S' = S := by
  obtain ⟨e, rfl⟩ := of_lft h
  unfold asB at e
  split at e
  · cases e; exact ⟨rfl, rfl⟩
  · cases e
theorem pd_and (ha : PE X a (tD X.K ma)) (hb : PE X (.BoolOp .And (b :: rest) pos) (tD X.K mb)) :
    PE X (.BoolOp .And (a :: b :: rest) pos) (tD X.K fun L S => bnd (ma L S) fun x S1 => bnd (lft (asB x) S1) fun c S1 => if c = true then mb L S1 else some (.d (.bl false), S1)) := by
  refine (pe_and ha hb).wk fun σ H Q h => ?_
  obtain ⟨g, H0, L, S, x, S', cr, e, q⟩ := h
  obtain ⟨dx, S1, e1, e⟩ := of_bnd e
  obtain ⟨k, S2, e2, e⟩ := of_bnd e
  obtain ⟨rfl, rfl⟩ := mB e2
  refine ⟨g, H0, L, S, _, _, cr, e1, fun v g1 H1 x1 s1 r1 => ⟨k, r1.blV, ?_⟩⟩
  cases k with
  | true => exact ⟨g1, H0, L, _, x, S', cr.ext x1 s1, e, fun u g2 H2 x2 s2 r2 => q u g2 H2 (x1.trans x2) s2 r2⟩
  | false =>
    cases e
    exact q _ g1 H1 x1 s1 (.bl false)
theorem pd_or (ha : PE X a (tD X.K ma)) (hb : PE X (.BoolOp .Or (b :: rest) pos) (tD X.K mb)) :
    PE X (.BoolOp .Or (a :: b :: rest) pos) (tD X.K fun L S => bnd (ma L S) fun x S1 => bnd (lft (asB x) S1) fun c S1 => if c = true then some (.d (.bl true), S1) else mb L S1) := by
  refine (pe_or ha hb).wk fun σ H Q h => ?_
  obtain ⟨g, H0, L, S, x, S', cr, e, q⟩ := h
  obtain ⟨dx, S1, e1, e⟩ := of_bnd e
  obtain ⟨k, S2, e2, e⟩ := of_bnd e
  obtain ⟨rfl, rfl⟩ := mB e2
  refine ⟨g, H0, L, S, _, _, cr, e1, fun v g1 H1 x1 s1 r1 => ⟨k, r1.blV, ?_⟩⟩
  cases k with
  | false => exact ⟨g1, H0, L, _, x, S', cr.ext x1 s1, e, fun u g2 H2 x2 s2 r2 => q u g2 H2 (x1.trans x2) s2 r2⟩
  | true =>
    cases e
    exact q _ g1 H1 x1 s1 (.bl true)
theorem pd_not (ha : PE X a (tD X.K ma)) : PE X (.UnaryOp .Not a pos) (tD X.K fun L S => bnd (ma L S) fun x S1 => lft ((asB x).map fun c => .d (.bl (!c))) S1) := by
  refine (pe_not ha).wk fun σ H Q h => ?_
  obtain ⟨g, H0, L, S, x, S', cr, e, q⟩ := h
  obtain ⟨dx, S1, e1, e⟩ := of_bnd e
  cases k : asB dx with
  | none => rw [k] at e; cases e
  | some c =>
    rw [k] at e
    cases e
    obtain ⟨rfl, _⟩ := mB (x := dx) (S := S) (S' := S) (c := c) (by rw [k]; rfl)
    exact ⟨g, H0, L, S, _, _, cr, e1, fun v g1 H1 x1 s1 r1 => ⟨c, r1.blV, q _ g1 H1 x1 s1 (.bl _)⟩⟩
theorem pt_notD (ha : PT X a (tDT X.K (mT ma))) : PT X (.UnaryOp .Not a pos) (tDT X.K (mT fun L S => bnd (ma L S) fun x S1 => lft ((asB x).map fun c => .d (.bl (!c))) S1)) := by
  refine (pt_not ha).wk fun σ H Q h => ?_
  obtain ⟨g, H0, L, S, x, S', cr, e, q⟩ := h
  obtain ⟨dy, S1, e1, e⟩ := of_bnd e
  obtain ⟨dx, S2, e0, e1⟩ := of_bnd e1
  cases k : asB dx with
  | none => rw [k] at e1; cases e1
  | some c =>
    rw [k] at e1
    cases e1
    cases e
    exact ⟨g, H0, L, S, c, _, cr, by show bnd _ _ = _; rw [e0, bnd_some, k]; rfl, q⟩
theorem pw_andD (ha : PT X a (tDT X.K (mT ma))) (hb : PW X (.BoolOp .And (b :: rest) pos) (tDT X.K (mT mb))) :
    PW X (.BoolOp .And (a :: b :: rest) pos) (tDT X.K (mT fun L S => bnd (ma L S) fun x S1 => bnd (lft (asB x) S1) fun c S1 => if c = true then mb L S1 else some (.d (.bl false), S1))) := by
  refine ⟨fun wh pins s σ H Q I h => (pw_and ha hb).run wh pins s σ H Q I ?_⟩
  obtain ⟨g, H0, L, S, x, S', cr, e, q⟩ := h
  obtain ⟨dy, S1, e1, e⟩ := of_bnd e
  obtain ⟨dx, S2, e0, e1⟩ := of_bnd e1
  obtain ⟨k, S3, e2, e1⟩ := of_bnd e1
  obtain ⟨rfl, rfl⟩ := mB e2
  refine ⟨g, H0, L, S, k, _, cr, by show bnd _ _ = _; rw [e0, bnd_some]; rfl, fun g1 H1 x1 s1 => ?_⟩
  cases k with
  | true => exact ⟨g1, H0, L, _, x, S', cr.ext x1 s1, by show bnd _ _ = _; rw [show mb L _ = _ from e1, bnd_some]; exact e, fun g2 H2 x2 s2 => q g2 H2 (x1.trans x2) s2⟩
  | false =>
    cases e1
    cases e
    exact q g1 H1 x1 s1
theorem pw_orD (ha : PT X a (tDT X.K (mT ma))) (hb : PW X (.BoolOp .Or (b :: rest) pos) (tDT X.K (mT mb))) :
    PW X (.BoolOp .Or (a :: b :: rest) pos) (tDT X.K (mT fun L S => bnd (ma L S) fun x S1 => bnd (lft (asB x) S1) fun c S1 => if c = true then some (.d (.bl true), S1) else mb L S1)) := by
  refine ⟨fun wh pins s σ H Q I h => (pw_or ha hb).run wh pins s σ H Q I ?_⟩
  obtain ⟨g, H0, L, S, x, S', cr, e, q⟩ := h
  obtain ⟨dy, S1, e1, e⟩ := of_bnd e
  obtain ⟨dx, S2, e0, e1⟩ := of_bnd e1
  obtain ⟨k, S3, e2, e1⟩ := of_bnd e1
  obtain ⟨rfl, rfl⟩ := mB e2
  refine ⟨g, H0, L, S, k, _, cr, by show bnd _ _ = _; rw [e0, bnd_some]; rfl, fun g1 H1 x1 s1 => ?_⟩
  cases k with
  | false => exact ⟨g1, H0, L, _, x, S', cr.ext x1 s1, by show bnd _ _ = _; rw [show mb L _ = _ from e1, bnd_some]; exact e, fun g2 H2 x2 s2 => q g2 H2 (x1.trans x2) s2⟩
  | true =>
    cases e1
    cases e
    exact q g1 H1 x1 s1
theorem pd_ife (hc : PT X c (tDT X.K (mT mc))) (ha : PE X a (tD X.K ma)) (hb : PE X b (tD X.K mb)) :
    PE X (.IfExp c a b pos) (tD X.K fun L S => bnd (mc L S) fun x S1 => bnd (lft (asB x) S1) fun c S1 => if c = true then ma L S1 else mb L S1) := by
  refine (pe_ifExp hc ha hb).wk fun σ H Q h => ?_
  obtain ⟨g, H0, L, S, x, S', cr, e, q⟩ := h
  obtain ⟨dx, S1, e0, e⟩ := of_bnd e
  obtain ⟨k, S3, e2, e⟩ := of_bnd e
  obtain ⟨rfl, rfl⟩ := mB e2
  refine ⟨g, H0, L, S, k, _, cr, by show bnd _ _ = _; rw [e0, bnd_some]; rfl, fun g1 H1 x1 s1 => ?_⟩
  cases k with
  | true => exact ⟨g1, H0, L, _, x, S', cr.ext x1 s1, e, fun u g2 H2 x2 s2 r2 => q u g2 H2 (x1.trans x2) s2 r2⟩
  | false => exact ⟨g1, H0, L, _, x, S', cr.ext x1 s1, e, fun u g2 H2 x2 s2 r2 => q u g2 H2 (x1.trans x2) s2 r2⟩
end
end PD

set_option Elab.async false
set_option linter.all false
set_option maxRecDepth 100000
set_option maxHeartbeats 4000000
/-! PD, part e: displays, items, slices, built-in calls. -/
namespace PD
open PySem PySem.Spec PyProof.Rows L2

mutual
theorem py_noDict : ∀ d : D, d.py.hasDict = false
  | .non => by simp [D.py, PyData.hasDict]
  | .bl _ => by simp [D.py, PyData.hasDict]
  | .int _ => by simp [D.py, PyData.hasDict]
  | .str _ => by simp [D.py, PyData.hasDict]
  | .ty _ => by simp [D.py, PyData.hasDict]
  | .cell _ => by simp [D.py, PyData.hasDict]
  | .tup xs => by simp [D.py, PyData.hasDict, pys_noDict xs]
  | .lst xs => by simp [D.py, PyData.hasDict, pys_noDict xs]
theorem pys_noDict : ∀ ds : List D, PyData.hasDictAll (D.pys ds) = false
  | [] => by simp [D.pys, PyData.hasDictAll]
  | x :: xs => by simp [D.pys, PyData.hasDictAll, py_noDict x, pys_noDict xs]
end

section
variable {X : Cx} {e a b c : Expr} {es : List Expr} {ma mb mc : Ms Va} {mes : Ms (List Va)} {pos : Pos}
theorem pda_nil : PA X [] (tDA X.K fun _ S => some ([], S)) := by
  refine pa_nil.wk fun σ H Q h => ?_
  obtain ⟨g, H0, L, S, x, S', cr, e, q⟩ := h
  cases e
  exact q [] g H Ext.refl cr.s .nil
theorem pda_cons (ha : PE X e (tD X.K ma)) (hr : PA X es (tDA X.K mes)) (hs : starEach (e :: es) X.env = (false, eval e X.env) :: starEach es X.env) :
    PA X (e :: es) (tDA X.K fun L S => bnd (ma L S) fun x S1 => bnd (mes L S1) fun xs S2 => some (x :: xs, S2)) := by
  refine (pa_cons ha hr hs).wk fun σ H Q h => ?_
  obtain ⟨g, H0, L, S, x, S', cr, e, q⟩ := h
  obtain ⟨dx, S1, e1, e⟩ := of_bnd e
  obtain ⟨dxs, S2, e2, e⟩ := of_bnd e
  cases e
  exact ⟨g, H0, L, S, dx, S1, cr, e1, fun v g1 H1 x1 s1 r1 => ⟨g1, H0, L, S1, dxs, _, cr.ext x1 s1, e2, fun vs g2 H2 x2 s2 r2 => q (v :: vs) g2 H2 (x1.trans x2) s2 (.cons (r1.ext x2 s1.cw) r2)⟩⟩
theorem RpVs.of {K : PySem.W.Frag} {g : Gh} {H : Hp} : ∀ {vs : List V} {ds : List D}, Rps K g H vs ds → RpVs K g H vs (ds.map .d)
  | _, _, .nil => .nil
  | _, _, .cons h r => .cons h (RpVs.of r)
theorem RpVs.app {K : PySem.W.Frag} {g : Gh} {H : Hp} : ∀ {vs ws : List V} {xs ys : List Va}, RpVs K g H vs xs → RpVs K g H ws ys → RpVs K g H (vs ++ ws) (xs ++ ys)
  | _, _, _, _, .nil, s => s
  | _, _, _, _, .cons h r, s => .cons h (RpVs.app r s)
/-- *e, .. -/
theorem pda_star (ha : PE X e (tD X.K ma)) (hr : PA X es (tDA X.K mes)) (hs : starEach (.Starred e p :: es) X.env = (true, eval e X.env) :: starEach es X.env) :
    PA X (.Starred e p :: es) (tDA X.K fun L S => bnd (ma L S) fun x S1 => bnd (lft (seqV x) S1) fun l S1 => bnd (mes L S1) fun xs S2 => if l.length ≤ 100000 then some (l.map .d ++ xs, S2) else none) := by
  refine (StX.pa_star ha hr hs).wk fun σ H Q h => ?_
  obtain ⟨g, H0, L, S, x, S', cr, e, q⟩ := h
  obtain ⟨dx, S1, e1, e⟩ := of_bnd e
  obtain ⟨l, S1', e3, e4⟩ := of_bnd e
  obtain ⟨k, eS⟩ := of_lft e3
  subst eS
  obtain ⟨dxs, S2, e2, e5⟩ := of_bnd e4
  clear e4 e
  have e := e5
  clear e5
  split at e
  · cases e
    refine ⟨g, H0, L, S, dx, _, cr, e1, fun v g1 H1 x1 s1 r1 => ?_⟩
    unfold seqV at k
    have fin : ∀ xs : List V, Rps X.K g1 H1 xs l → tDA X.K mes σ H1 fun ys H2 => Q (xs ++ ys) H2 := fun xs r => ⟨g1, H0, L, _, dxs, _, cr.ext x1 s1, e2, fun vs g2 H2 x2 s2 r2 =>
      q (xs ++ vs) g2 H2 (x1.trans x2) s2 ((RpVs.of (Rps.ext x2 s1.cw r)).app r2)⟩
    split at k
    · rename_i l' hl
      cases k
      obtain ⟨a, xs, rfl, t, r⟩ := r1.seqL hl
      exact ⟨a, xs, rfl, .inr t, fin xs r⟩
    · obtain ⟨a, xs, rfl, t, r⟩ := r1.seqT k
      exact ⟨a, xs, rfl, .inl t.sq, fin xs r⟩
  · cases e
theorem RpVs.length {K : PySem.W.Frag} {g : Gh} {H : Hp} : ∀ {vs : List V} {xs : List Va}, RpVs K g H vs xs → vs.length = xs.length
  | _, _, .nil => rfl
  | _, _, .cons _ r => by simp [RpVs.length r]
theorem unVs_len : ∀ {xs : List Va} {ds : List D}, unVs xs = some ds → ds.length = xs.length
  | [], _, e => by cases e; rfl
  | x :: r, ds, e => by
    unfold unVs at e
    split at e
    · split at e
      · cases e
        rename_i l hl
        simp [unVs_len hl]
      · cases e
    · cases e
/-- es written, n of them -/
theorem pd_tup {x1} (hl : ∀ L S xs S', mes L S = some (xs, S') → xs.length ≤ line) (h : PA X es (tDA X.K mes)) :
    PE X (.Tuple es x1 pos) (tD X.K fun L S => bnd (mes L S) fun xs S1 => lft ((unVs xs).map fun ds => .d (.tup ds)) S1) := by
  refine (pe_tup h).wk fun σ H Q h => ?_
  obtain ⟨g, H0, L, S, x, S', cr, e, q⟩ := h
  obtain ⟨xs, S1, e1, e⟩ := of_bnd e
  cases k : unVs xs with
  | none => rw [k] at e; cases e
  | some ds =>
    rw [k] at e
    cases e
    refine ⟨g, H0, L, S, xs, _, cr, e1, fun vs g1 H1 x1 s1 r1 => ⟨by rw [r1.length, line_eq]; exact hl _ _ _ _ e1, fun p hp => ?_⟩⟩
    obtain ⟨x2, s2, r2⟩ := new_tup s1 hp (r1.strict k)
    exact q _ g1 _ (x1.trans x2) s2 r2
theorem pf_disp (hl : ∀ L S xs S', mes L S = some (xs, S') → xs.length ≤ line) (h : PA X es (tDA X.K mes)) :
    PE X (.List es pos) (tDF X.K fun L S => bnd (mes L S) fun xs S1 => lft (unVs xs) S1) := by
  refine (pe_lst h).wk fun σ H Q h => ?_
  obtain ⟨g, H0, L, S, x, S', cr, e, q⟩ := h
  obtain ⟨xs, S1, e1, e⟩ := of_bnd e
  obtain ⟨k, rfl⟩ := of_lft e
  refine ⟨g, H0, L, S, xs, _, cr, e1, fun vs g1 H1 x1 s1 r1 => ⟨by rw [r1.length, line_eq]; exact hl _ _ _ _ e1, fun p hp => ?_⟩⟩
  obtain ⟨x2, s2⟩ := new_own (xs := vs) s1 hp
  refine q p vs _ _ (x1.trans x2) s2 upd_same (Rps.ext x2 s1.cw (r1.strict k)) (.inr rfl) (fun z => s1.nw hp (s1.cw p z)) ?_
  cases z : H p with
  | none => rfl
  | some o =>
    obtain ⟨o', z'⟩ := x1.there p o z
    rw [hp] at z'; cases z'
/-- a new list as a datum -/
theorem pd_fr {mf : Ms (List D)} (h : PE X e (tDF X.K mf)) : PE X e (tD X.K fun L S => bnd (mf L S) fun xs S1 => some (.d (.lst xs), S1)) := by
  refine h.wk fun σ H Q h => ?_
  obtain ⟨g, H0, L, S, x, S', cr, e, q⟩ := h
  obtain ⟨xs, S1, e1, e⟩ := of_bnd e
  cases e
  refine ⟨g, H0, L, S, xs, _, cr, e1, fun p vs g1 H1 x1 s1 hp r w n z => ?_⟩
  exact q _ (g1.minus p) H1 (x1.minus z) (s1.minus n) (Rp.lst (.inl ⟨.inl hp, fun w => w.2 rfl⟩) r.minus)

/-- a list of one's own is a cell from now on -/
theorem own_cell {K : PySem.W.Frag} {g : Gh} {H : Hp} {S : Store} {p : Addr} {vs : List V} {ds : List D} (s : Gs K g H S) (hp : H p = some (.lst vs)) (r : Rps K g H vs ds) (w : g.W p) (n : p ∉ g.ca) :
    Gs K ⟨g.ca ++ [p], g.W⟩ H (S ++ [ds]) ∧ Rp K ⟨g.ca ++ [p], g.W⟩ H (.ref p) (.cell S.length) := by
  have xw : ExtW g H ⟨g.ca ++ [p], g.W⟩ H := ⟨fun _ _ h w => ⟨h, w⟩, ⟨[p], rfl⟩⟩
  have sl := s.len
  refine ⟨⟨s.wi, fun a h => ?_, ?_, by simp [s.len], fun m a es h1 h2 => ?_⟩, .cell (by show (g.ca ++ [p])[S.length]? = some p; rw [← s.len, List.getElem?_append_right (Nat.le_refl _)]; simp)⟩
  · rcases List.mem_append.mp h with h | h
    · exact s.cw a h
    · rw [List.mem_singleton.mp h]; exact w
  · show (g.ca ++ [p]).Nodup
    rw [List.nodup_append]
    exact ⟨s.nd, by simp, fun a ha b hb z => by rw [List.mem_singleton.mp hb] at z; exact n (z ▸ ha)⟩
  · have h1 : (g.ca ++ [p])[m]? = some a := h1
    by_cases z : m < g.ca.length
    · rw [List.getElem?_append_left z] at h1
      rw [List.getElem?_append_left (by rw [← s.len]; exact z)] at h2
      obtain ⟨ys, h, r'⟩ := s.st m a es h1 h2
      exact ⟨ys, h, Rps.extW xw r'⟩
    · rw [List.getElem?_append_right (by omega)] at h1
      rw [List.getElem?_append_right (by omega)] at h2
      have z0 : m - g.ca.length = 0 := by
        have := (List.getElem?_eq_some_iff.mp h1).1
        simp at this
        omega
      rw [z0] at h1
      rw [show m - S.length = 0 by rw [← s.len]; exact z0] at h2
      cases h1; cases h2
      exact ⟨vs, hp, Rps.extW xw r⟩
/-- a new list as a new cell -/
theorem pd_nwc {mf : Ms (List D)} (h : PE X e (tDF X.K mf)) : PE X e (tD X.K fun L S => bnd (mf L S) fun xs S1 => some (.d (.cell S1.length), S1 ++ [xs])) := by
  refine h.wk fun σ H Q h => ?_
  obtain ⟨g, H0, L, S, x, S', cr, e, q⟩ := h
  obtain ⟨xs, S1, e1, e⟩ := of_bnd e
  cases e
  refine ⟨g, H0, L, S, xs, _, cr, e1, fun p vs g1 H1 x1 s1 hp r w n z => ?_⟩
  obtain ⟨s2, r2⟩ := own_cell s1 hp r w n
  obtain ⟨m, em⟩ := x1.ca
  refine q _ ⟨g1.ca ++ [p], g1.W⟩ H1 ⟨x1.keep, x1.there, x1.wk, ⟨m ++ [p], by show g1.ca ++ [p] = _; rw [em, List.append_assoc]⟩, fun c hc => ?_⟩ s2 r2
  rcases List.mem_append.mp (show c ∈ g1.ca ++ [p] from hc) with hc | hc
  · exact x1.new c hc
  · exact .inr (by rw [List.mem_singleton.mp hc]; exact z)

/-! ### items, slices -/
theorem atI_at {α : Type} {xs : List α} {i : Int} {x : α} (h : atI xs i = some x) : ∃ j, ixN xs.length i = some j ∧ xs[j]? = some x := by
  unfold atI at h
  cases e : ixN xs.length i with
  | none => rw [e] at h; cases h
  | some j => rw [e] at h; exact ⟨j, rfl, h⟩
theorem Rps.atI {K : PySem.W.Frag} {g : Gh} {H : Hp} {vs : List V} {ds : List D} {i : Int} {d : D} (r : Rps K g H vs ds) (h : L2.atI ds i = some d) : ∃ v, L2.atI vs i = some v ∧ Rp K g H v d := by
  obtain ⟨j, h1, h2⟩ := atI_at h
  obtain ⟨v, h3, h4⟩ := r.get h2
  refine ⟨v, ?_, h4⟩
  unfold L2.atI
  rw [r.length, h1]
  exact h3
theorem pd_ix (ha : PE X a (tD X.K ma)) (hb : PE X b (tD X.K mb)) (hs : PlainIx b) :
    PE X (.Subscript a b pos) (tD X.K fun L S => bnd (ma L S) fun x S1 => bnd (mb L S1) fun y S2 => lft ((ixV x y S2).map .d) S2) := by
  refine (pe_ix ix_seq ha hb hs).wk (tD_two fun g H S S' x y dx dy d Q s rx ry e q => ?_)
  obtain ⟨d, e2, rfl, rfl⟩ := of_mapd e
  unfold ixV at e2
  split at e2
  · rename_i i
    rw [ry.intV]
    split at e2
    · obtain ⟨p, xs, rfl, t, r⟩ := rx.seqT (ds := _) rfl
      obtain ⟨v, h1, h2⟩ := r.atI e2
      exact .inr (.inl ⟨p, xs, i, v, rfl, rfl, t.sq, h1, q _ _ _ Ext.refl s h2⟩)
    · obtain ⟨p, xs, rfl, t, r⟩ := rx.seqL (ds := _) rfl
      obtain ⟨v, h1, h2⟩ := r.atI e2
      exact .inl ⟨p, xs, i, v, rfl, rfl, t, h1, q _ _ _ Ext.refl s h2⟩
    · obtain ⟨p, xs, rfl, t, r⟩ := rx.seqL (ds := _) rfl
      obtain ⟨v, h1, h2⟩ := r.atI e2
      exact .inl ⟨p, xs, i, v, rfl, rfl, t, h1, q _ _ _ Ext.refl s h2⟩
    · rename_i n
      split at e2
      · rename_i ds hds
        have h' : Rp X.K g H x (.cell n) := rx
        cases h' with
        | @cell p _ hc =>
          obtain ⟨xs, h0, r⟩ := s.st n p ds hc hds
          obtain ⟨v, h1, h2⟩ := r.atI e2
          exact .inl ⟨p, xs, i, v, rfl, rfl, SqL.of h0, h1, q _ _ _ Ext.refl s h2⟩
      · cases e2
    · cases e2
  · cases e2
theorem po_noneD : PO X none (tDO X.K fun _ S => some (none, S)) := by
  refine po_none.wk fun σ H Q h => ?_
  obtain ⟨g, H0, L, S, x, S', cr, e, q⟩ := h
  cases e
  exact q g H Ext.refl cr.s
theorem po_someD (ha : PE X a (tD X.K ma)) : PO X (some a) (tDO X.K fun L S => bnd (ma L S) fun x S1 => lft (optI (some x)) S1) := by
  refine (po_some ha).wk fun σ H Q h => ?_
  obtain ⟨g, H0, L, S, x, S', cr, e, q⟩ := h
  obtain ⟨dx, S1, e1, e⟩ := of_bnd e
  obtain ⟨e2, rfl⟩ := of_lft e
  unfold optI at e2
  split at e2
  · rename_i z; cases z
  · rename_i i z
    cases z
    cases e2
    exact ⟨g, H0, L, S, _, _, cr, e1, fun v g1 H1 x1 s1 r1 => ⟨i, r1.intV, q g1 H1 x1 s1⟩⟩
  · cases e2
variable {lo hi : Option Expr} {ml mh : Ms (Option Int)}
theorem Rps.cut {K : PySem.W.Frag} {g : Gh} {H : Hp} {vs : List V} {ds : List D} (r : Rps K g H vs ds) (l h : Option Int) : Rps K g H (cutV vs l h) (cutD ds l h) := by
  unfold cutV cutD
  rw [r.length]
  exact (r.drop _).take _
theorem sIx_whole {α : Type} (xs : List α) (l h : Option Int) (z : HT.sIx xs.length 0 l = 0 ∧ HT.sIx xs.length xs.length h = xs.length) : (xs.drop (HT.sIx xs.length 0 l)).take (HT.sIx xs.length xs.length h - HT.sIx xs.length 0 l) = xs := by
  rw [z.1, z.2]
  simp
theorem pd_slc0 {p2} (ha : PE X a (tD X.K ma)) (hl : PO X lo (tDO X.K ml)) (hh : PO X hi (tDO X.K mh)) :
    PE X (.Subscript a (.Slice lo hi none p2) pos) (tD X.K fun L S => bnd (ma L S) fun x S1 => bnd (ml L S1) fun l S2 => bnd (mh L S2) fun h S3 => lft ((slcT0 x l h).map .d) S3) := by
  refine (pe_slice sl_tupA ha hl hh).wk fun σ H Q h => ?_
  obtain ⟨g, H0, L, S, x, S', cr, e, q⟩ := h
  obtain ⟨dx, S1, e1, e⟩ := of_bnd e
  obtain ⟨l, S2, e2, e⟩ := of_bnd e
  obtain ⟨u, S3, e3, e⟩ := of_bnd e
  obtain ⟨d, e4, rfl, rfl⟩ := of_mapd e
  refine ⟨g, H0, L, S, dx, S1, cr, e1, fun v g1 H1 x1 s1 r1 => ⟨g1, H0, L, S1, l, S2, cr.ext x1 s1, e2, fun g2 H2 x2 s2 => ⟨g2, H0, L, S2, u, _, (cr.ext x1 s1).ext x2 s2, e3, fun g3 H3 x3 s3 => ?_⟩⟩⟩
  have r3 := (r1.ext x2 s1.cw).ext x3 s2.cw
  have x13 := x1.trans (x2.trans x3)
  unfold slcT0 at e4
  split at e4
  · cases e4
    obtain ⟨p, xs, rfl, t, r⟩ := r3.seqT (ds := _) rfl
    refine ⟨p, xs, rfl, t.sq, fun z => ?_, fun _ p' hp => ?_⟩
    · refine q _ g3 H3 x13 s3 (.tup t ?_)
      have z2 := sIx_whole xs l u z
      have r4 := r.cut l u
      unfold cutV at r4
      rw [z2] at r4
      exact r4
    · obtain ⟨x4, s4, r4⟩ := new_tup s3 hp (r.cut l u)
      exact q _ g3 _ (x13.trans x4) s4 r4
  · cases e4
theorem slcLS_ok {K : PySem.W.Frag} {g : Gh} {H : Hp} {S : Store} {v : V} {dx : Va} {l u : Option Int} {x : List D} (s : Gs K g H S) (r : RpV K g H v dx) (e : slcLS dx l u S = some x) :
    ∃ ds, x = cutD ds l u ∧ ∃ p xs, v = .ref p ∧ SqL K H p xs ∧ Rps K g H xs ds := by
  unfold slcLS at e
  split at e
  · rename_i n
    cases k : S[n]? with
    | none => rw [k] at e; cases e
    | some ds =>
      rw [k] at e
      cases e
      have r : Rp K g H v (.cell n) := r
      cases r with
      | @cell a _ hc =>
        obtain ⟨xs, h2, rs⟩ := s.st n a ds hc k
        exact ⟨ds, rfl, a, xs, rfl, SqL.of h2, rs⟩
  · unfold slcL at e
    cases k : asL dx with
    | none => rw [k] at e; cases e
    | some ds =>
      rw [k] at e
      cases e
      obtain ⟨p, xs, e1, t, r⟩ := r.seqL k
      exact ⟨ds, rfl, p, xs, e1, t, r⟩
theorem pf_slc {p2} (ha : PE X a (tD X.K ma)) (hl : PO X lo (tDO X.K ml)) (hh : PO X hi (tDO X.K mh)) :
    PE X (.Subscript a (.Slice lo hi none p2) pos) (tDF X.K fun L S => bnd (ma L S) fun x S1 => bnd (ml L S1) fun l S2 => bnd (mh L S2) fun h S3 => lft (slcLS x l h S3) S3) := by
  refine (pe_slice sl_list ha hl hh).wk fun σ H Q h => ?_
  obtain ⟨g, H0, L, S, x, S', cr, e, q⟩ := h
  obtain ⟨dx, S1, e1, e⟩ := of_bnd e
  obtain ⟨l, S2, e2, e⟩ := of_bnd e
  obtain ⟨u, S3, e3, e⟩ := of_bnd e
  obtain ⟨e4, rfl⟩ := of_lft e
  refine ⟨g, H0, L, S, dx, S1, cr, e1, fun v g1 H1 x1 s1 r1 => ⟨g1, H0, L, S1, l, S2, cr.ext x1 s1, e2, fun g2 H2 x2 s2 => ⟨g2, H0, L, S2, u, _, (cr.ext x1 s1).ext x2 s2, e3, fun g3 H3 x3 s3 => ?_⟩⟩⟩
  have r3 := (r1.ext x2 s1.cw).ext x3 s2.cw
  have x13 := x1.trans (x2.trans x3)
  have key := slcLS_ok s3 r3 e4
  obtain ⟨ds, rfl, p, xs, rfl, t, r⟩ := key
  ·
    refine ⟨p, xs, rfl, t, fun p' hp => ?_⟩
    obtain ⟨x4, s4⟩ := new_own (xs := cutV xs l u) s3 hp
    refine q p' _ _ _ (x13.trans x4) s4 upd_same (Rps.ext x4 s3.cw (r.cut l u)) (.inr rfl) (fun z => s3.nw hp (s3.cw p' z)) ?_
    cases z : H p' with
    | none => rfl
    | some o =>
      obtain ⟨o', z'⟩ := x13.there p' o z
      rw [hp] at z'; cases z'
theorem _root_.L2.PE.or {X : Cx} {e : Expr} {t t' : TE} (h : PE X e t) (h' : PE X e t') : PE X e (fun σ H Q => t σ H Q ∨ t' σ H Q) :=
  ⟨fun pins s σ H Q I q => q.elim (h.run pins s σ H Q I) (h'.run pins s σ H Q I)⟩
theorem pd_slc {p2} (ha : PE X a (tD X.K ma)) (hl : PO X lo (tDO X.K ml)) (hh : PO X hi (tDO X.K mh)) :
    PE X (.Subscript a (.Slice lo hi none p2) pos) (tD X.K fun L S => bnd (ma L S) fun x S1 => bnd (ml L S1) fun l S2 => bnd (mh L S2) fun h S3 => lft ((slcS x l h S3).map .d) S3) := by
  refine (PE.or (pd_slc0 ha hl hh) (pd_fr (pf_slc ha hl hh))).wk fun σ H Q h => ?_
  obtain ⟨g, H0, L, S, x, S', cr, e, q⟩ := h
  obtain ⟨dx, S1, e1, e'⟩ := of_bnd e
  clear e
  obtain ⟨l, S2, e2, e''⟩ := of_bnd e'
  clear e'
  obtain ⟨u, S3, e3, e⟩ := of_bnd e''
  clear e''
  obtain ⟨d, e4, rfl, rfl⟩ := of_mapd e
  clear e
  unfold slcS at e4
  split at e4
  · rename_i n
    cases k : S'[n]? with
    | none => rw [k] at e4; cases e4
    | some ds =>
      rw [k] at e4
      cases e4
      refine .inr ⟨g, H0, L, S, _, _, cr, ?_, q⟩
      dsimp only
      rw [e1, bnd_some, e2, bnd_some, e3, bnd_some]
      show bnd (lft ((S'[n]?).map fun xs => cutD xs l u) S') _ = _
      rw [k]; rfl
  unfold slcT at e4
  split at e4
  · cases e4
    refine .inl ⟨g, H0, L, S, _, _, cr, ?_, q⟩
    dsimp only
    rw [e1, bnd_some, e2, bnd_some, e3, bnd_some]; rfl
  · cases e4
    refine .inr ⟨g, H0, L, S, _, _, cr, ?_, q⟩
    dsimp only
    rw [e1, bnd_some, e2, bnd_some, e3, bnd_some]; rfl
  · cases e4
    refine .inr ⟨g, H0, L, S, _, _, cr, ?_, q⟩
    dsimp only
    rw [e1, bnd_some, e2, bnd_some, e3, bnd_some]; rfl
  · cases e4

/-! ### built-in functions -/
theorem intsOf_eq : ∀ {ds : List D} {l : List Int}, intsOf ds = some l → ds = l.map D.int
  | [], _, h => by cases h; rfl
  | d :: r, l, h => by
    cases d with
    | int i =>
      unfold intsOf at h
      split at h
      · rename_i m hm
        cases h
        rw [intsOf_eq hm]; rfl
      · cases h
    | _ => cases h
theorem boolsOf_eq : ∀ {ds : List D} {l : List Bool}, boolsOf ds = some l → ds = l.map D.bl
  | [], _, h => by cases h; rfl
  | d :: r, l, h => by
    cases d with
    | bl i =>
      unfold boolsOf at h
      split at h
      · rename_i m hm
        cases h
        rw [boolsOf_eq hm]; rfl
      · cases h
    | _ => cases h
theorem Rps.bools {K : PySem.W.Frag} {g : Gh} {H : Hp} : ∀ {vs : List V} {ns : List Bool}, Rps K g H vs (ns.map D.bl) → vs = ns.map V.bl
  | _, [], .nil => rfl
  | _, _ :: _, .cons (.bl _) r => by rw [Rps.bools r]; rfl
/-- repr of what may be shown -/
def rRepr (K : PySem.W.Frag) : List V → Hp → VK → Prop := fun xs H Q => ∃ a d, xs = [.ref a] ∧ Dp K H (.ref a) d ∧ d.showable = true ∧ d.hasDict = false ∧ d.depth ≤ 64 ∧ d.shown.length ≤ sizeLine ∧ Q (.str d.shown) H
theorem call_reprD (hg : X.A.guards = some []) (hu : X.A.units + 66 < cLine) : CallR X (.builtin "repr") (rRepr X.K) := by
  intro pins s σ H vs us Q I r h
  obtain ⟨a, d, rfl, hd, hs, hn, hp, hz, q⟩ := h
  cases r with
  | cons r1 r2 =>
    cases r2
    cases r1
    obtain ⟨as, rd⟩ := Dp.reads I d (.ref a) (.ref a) hd rfl
    refine repr_of_reads' rd hs (fun z => by rw [hn] at z; cases z) hg (by omega) (fun _ _ z => z) (fun h' u tk hk => ?_) hz
    exact ⟨.str d.shown, H, I.kept (h' := h') (t' := tk) hk, ⟨u, rfl⟩, q⟩
def rFact : List V → Hp → VK → Prop := fun vs H Q => ∃ a : Int, vs = [.int a] ∧ 0 ≤ a ∧ a ≤ 100 ∧ Q (.int ((Builtin.Math.factorialNat a.toNat : Nat) : Int)) H
theorem fact_small : ∀ n : Nat, n ≤ 100 → (Builtin.Math.factorialNat n).log2 < bitsLine := by decide +kernel
theorem cr_fact : CallR X (.builtin "math.factorial") rFact := by
  intro pins s σ H vs us Q I r h
  obtain ⟨a, rfl, h0, h1, q⟩ := h
  cases r with
  | cons r1 r2 =>
  cases r2
  obtain ⟨t, rfl⟩ := r1
  have k1 : (100 : Int) ≤ Builtin.Math.maxSsize := by decide +kernel
  have k2 : (100 : Int) ≤ Builtin.Math.manyFactors := by decide +kernel
  exact PySem.W.mg_factorial (by omega) (by omega) (by omega) (by rw [Int.natAbs_natCast]; exact fact_small _ (by omega)) ⟨.int _, H, I.tok _, ⟨_, rfl⟩, q⟩
/-- the names of the built-in functions -/
def Bi.id : Bi → String
  | .len => "len" | .abs => "abs" | .gcd => "math.gcd" | .min2 => "min" | .max2 => "max" | .int1 => "int" | .str1 => "str" | .tuple => "tuple" | .all => "all" | .any => "any" | .sum => "sum" | .divmod => "divmod" | .repr => "repr" | .fact => "math.factorial"
def Bi.val : Bi → Value
  | .int1 => .type "int" | .str1 => .type "str" | .tuple => .type "tuple" | b => .builtin b.id
def rBi (K : PySem.W.Frag) : Bi → List V → Hp → VK → Prop
  | .len => fun xs H Q => ∃ p ys, xs = [.ref p] ∧ (SqL K H p ys ∨ SqT K H p ys) ∧ Q (.int ys.length) H
  | .abs => fun xs H Q => ∃ i, xs = [.int i] ∧ Q (.int (if i < 0 then -i else i)) H
  | .gcd => rGcd
  | .min2 => fun xs H Q => ∃ i j, xs = [.int i, .int j] ∧ Q (.int (if j < i then j else i)) H
  | .max2 => fun xs H Q => ∃ i j, xs = [.int i, .int j] ∧ Q (.int (if j > i then j else i)) H
  | .int1 => fun xs H Q => (∃ i, xs = [.int i] ∧ Q (.int i) H) ∨ ∃ k, xs = [.bl k] ∧ Q (.int (if k then 1 else 0)) H
  | .str1 => fun xs H Q => ∃ i, xs = [.int i] ∧ i.natAbs.log2 < 1920 ∧ Q (.str (toString i)) H
  | .tuple => fun xs H Q => ∃ p ys, xs = [.ref p] ∧ ((SqL K H p ys ∧ ∀ l, H l = none → Q (.ref l) (upd H l (.tup ys))) ∨ (SqT K H p ys ∧ Q (.ref p) H))
  | .all => rAll K
  | .any => rAny K
  | .sum => rSum K
  | .fact => rFact
  | .divmod => fun xs H Q => ∃ i j, xs = [.int i, .int j] ∧ CDiv i j ∧ ∀ p, H p = none → Q (.ref p) (upd H p (.tup [.int (i / j), .int (i % j)]))
  | .repr => fun xs H Q => rRepr K xs H Q ∨ (∃ i, xs = [.int i] ∧ i.natAbs.log2 < 1920 ∧ Q (.str (toString i)) H) ∨ (∃ b, xs = [.bl b] ∧ Q (.str (if b then "True" else "False")) H) ∨ (xs = [.non] ∧ Q (.str "None") H)
theorem call_bi (b : Bi) (hc : X.calm = true) (hg : X.A.guards = some []) (hu : X.A.units + 66 < cLine) : CallR X b.val (rBi X.K b) := by
  cases b with
  | len => exact call_len_seq
  | abs => exact call_abs
  | gcd => exact cr_gcd
  | min2 => exact call_min2 hc
  | max2 => exact call_max2 hc
  | int1 => exact call_int1
  | str1 => exact call_str_int
  | tuple => exact call_tuple_of
  | all => exact cr_all hc
  | any => exact cr_any hc
  | sum => exact cr_sum hc
  | divmod => exact call_divmod
  | fact => exact cr_fact
  | repr => exact (call_reprD hg hu).or (SkE.call_repr_int.or (call_repr_bool.or call_repr_none))
theorem RpVs.one {K : PySem.W.Frag} {g : Gh} {H : Hp} {vs : List V} {x : Va} (h : RpVs K g H vs [x]) : ∃ v, vs = [v] ∧ RpV K g H v x := by
  cases h with
  | cons r t => cases t; exact ⟨_, rfl, r⟩
theorem RpVs.two {K : PySem.W.Frag} {g : Gh} {H : Hp} {vs : List V} {x y : Va} (h : RpVs K g H vs [x, y]) : ∃ v u, vs = [v, u] ∧ RpV K g H v x ∧ RpV K g H u y := by
  cases h with
  | cons r t => cases t with
    | cons r' t => cases t; exact ⟨_, _, rfl, r, r'⟩
theorem shOk_of {d : D} (h : shOk d = true) : d.pure = true ∧ d.py.showable = true ∧ d.py.depth ≤ 64 ∧ d.py.shown.length ≤ sizeLine := by
  simp only [shOk, Bool.and_eq_true, decide_eq_true_eq] at h
  exact ⟨h.1.1.1, h.1.1.2, h.1.2, by rw [line_eq]; exact h.2⟩
theorem rBi_ok {K : PySem.W.Frag} (b : Bi) (g : Gh) (H : Hp) (S : Store) (vs : List V) (xs : List Va) (d : D) (Q : VK) (s : Gs K g H S) (r : RpVs K g H vs xs) (e : biV b xs = some d)
    (q : ∀ v g' H', Ext g H g' H' → Gs K g' H' S → Rp K g' H' v d → Q v H') : rBi K b vs H Q := by
  unfold biV at e
  split at e
  · cases e
    obtain ⟨v, rfl, rv⟩ := r.one
    obtain ⟨p, ys, rfl, t, rs⟩ := rv.seqT (ds := _) rfl
    exact ⟨p, ys, rfl, .inr t.sq, by rw [rs.length]; exact q _ _ _ Ext.refl s (.int _)⟩
  · cases e
    obtain ⟨v, rfl, rv⟩ := r.one
    obtain ⟨p, ys, rfl, t, rs⟩ := rv.seqL (ds := _) rfl
    exact ⟨p, ys, rfl, .inl t, by rw [rs.length]; exact q _ _ _ Ext.refl s (.int _)⟩
  · cases e
    obtain ⟨v, rfl, rv⟩ := r.one
    obtain ⟨p, ys, rfl, t, rs⟩ := rv.seqL (ds := _) rfl
    exact ⟨p, ys, rfl, .inl t, by rw [rs.length]; exact q _ _ _ Ext.refl s (.int _)⟩
  · cases e
    obtain ⟨v, rfl, rv⟩ := r.one
    rw [rv.intV]
    exact ⟨_, rfl, q _ _ _ Ext.refl s (.int _)⟩
  · cases e
    obtain ⟨v, u, rfl, rv, ru⟩ := r.two
    rw [rv.intV, ru.intV]
    exact ⟨_, _, rfl, q _ _ _ Ext.refl s (.int _)⟩
  · cases e
    obtain ⟨v, u, rfl, rv, ru⟩ := r.two
    rw [rv.intV, ru.intV]
    exact ⟨_, _, rfl, q _ _ _ Ext.refl s (.int _)⟩
  · cases e
    obtain ⟨v, u, rfl, rv, ru⟩ := r.two
    rw [rv.intV, ru.intV]
    exact ⟨_, _, rfl, q _ _ _ Ext.refl s (.int _)⟩
  · cases e
    obtain ⟨v, rfl, rv⟩ := r.one
    rw [rv.intV]
    exact .inl ⟨_, rfl, q _ _ _ Ext.refl s (.int _)⟩
  · cases e
    obtain ⟨v, rfl, rv⟩ := r.one
    rw [rv.blV]
    exact .inr ⟨_, rfl, q _ _ _ Ext.refl s (.int _)⟩
  · split at e
    · cases e
      rename_i h
      obtain ⟨v, rfl, rv⟩ := r.one
      rw [rv.intV]
      exact ⟨_, rfl, h, q _ _ _ Ext.refl s (.str _)⟩
    · cases e
  · cases e
    obtain ⟨v, rfl, rv⟩ := r.one
    obtain ⟨p, ys, rfl, t, rs⟩ := rv.seqT (ds := _) rfl
    exact ⟨p, ys, rfl, .inr ⟨t.sq, q _ _ _ Ext.refl s (.tup t rs)⟩⟩
  · cases e
    obtain ⟨v, rfl, rv⟩ := r.one
    obtain ⟨p, ys, rfl, t, rs⟩ := rv.seqL (ds := _) rfl
    refine ⟨p, ys, rfl, .inl ⟨t, fun l hl => ?_⟩⟩
    obtain ⟨x2, s2, r2⟩ := new_tup s hl rs
    exact q _ _ _ x2 s2 r2
  · cases e
    obtain ⟨v, rfl, rv⟩ := r.one
    obtain ⟨p, ys, rfl, t, rs⟩ := rv.seqL (ds := _) rfl
    refine ⟨p, ys, rfl, .inl ⟨t, fun l hl => ?_⟩⟩
    obtain ⟨x2, s2, r2⟩ := new_tup s hl rs
    exact q _ _ _ x2 s2 r2
  · split at e
    · rename_i ds hds
      cases k : boolsOf ds with
      | none => rw [k] at e; cases e
      | some l =>
        rw [k] at e
        cases e
        obtain ⟨v, rfl, rv⟩ := r.one
        obtain ⟨p, ys, rfl, t, rs⟩ := rv.seqL hds
        rw [boolsOf_eq k] at rs
        rw [rs.bools] at t
        exact ⟨p, l, rfl, t, q _ _ _ Ext.refl s (.bl _)⟩
    · cases e
  · split at e
    · rename_i ds hds
      cases k : boolsOf ds with
      | none => rw [k] at e; cases e
      | some l =>
        rw [k] at e
        cases e
        obtain ⟨v, rfl, rv⟩ := r.one
        obtain ⟨p, ys, rfl, t, rs⟩ := rv.seqL hds
        rw [boolsOf_eq k] at rs
        rw [rs.bools] at t
        exact ⟨p, l, rfl, t, q _ _ _ Ext.refl s (.bl _)⟩
    · cases e
  · split at e
    · rename_i ds hds
      cases k : intsOf ds with
      | none => rw [k] at e; cases e
      | some l =>
        rw [k] at e
        cases e
        obtain ⟨v, rfl, rv⟩ := r.one
        obtain ⟨p, ys, rfl, t, rs⟩ := rv.seqL hds
        rw [intsOf_eq k] at rs
        rw [rs.ints] at t
        exact ⟨p, l, rfl, t, q _ _ _ Ext.refl s (.int _)⟩
    · cases e
  · split at e
    · cases e
      rename_i h
      obtain ⟨v, rfl, rv⟩ := r.one
      rw [rv.intV]
      exact ⟨_, rfl, h.1, h.2, q _ _ _ Ext.refl s (.int _)⟩
    · cases e
  · split at e
    · cases e
      rename_i h
      obtain ⟨v, u, rfl, rv, ru⟩ := r.two
      rw [rv.intV, ru.intV]
      refine ⟨_, _, rfl, h, fun p hp => ?_⟩
      obtain ⟨x2, s2, r2⟩ := new_tup s hp (Rps.cons (.int _) (.cons (.int _) .nil))
      exact q _ _ _ x2 s2 r2
    · cases e
  · split at e
    · cases e
      rename_i h
      obtain ⟨p1, p2, p3, p4⟩ := shOk_of h
      obtain ⟨v, rfl, rv⟩ := r.one
      obtain ⟨p, ys, rfl, t, rs⟩ := rv.seqT (ds := _) rfl
      exact .inl ⟨p, _, rfl, rv.dp p1, p2, py_noDict _, p3, p4, q _ _ _ Ext.refl s (.str _)⟩
    · cases e
  · split at e
    · cases e
      rename_i h
      obtain ⟨p1, p2, p3, p4⟩ := shOk_of h
      obtain ⟨v, rfl, rv⟩ := r.one
      obtain ⟨p, ys, rfl, t, rs⟩ := rv.seqL (ds := _) rfl
      exact .inl ⟨p, _, rfl, rv.dp p1, p2, py_noDict _, p3, p4, q _ _ _ Ext.refl s (.str _)⟩
    · cases e
  · split at e
    · cases e
      rename_i h
      obtain ⟨p1, p2, p3, p4⟩ := shOk_of h
      obtain ⟨v, rfl, rv⟩ := r.one
      obtain ⟨p, ys, rfl, t, rs⟩ := rv.seqL (ds := _) rfl
      exact .inl ⟨p, _, rfl, rv.dp p1, p2, py_noDict _, p3, p4, q _ _ _ Ext.refl s (.str _)⟩
    · cases e
  · split at e
    · cases e
      rename_i h
      obtain ⟨v, rfl, rv⟩ := r.one
      rw [rv.intV]
      exact .inr (.inl ⟨_, rfl, h, q _ _ _ Ext.refl s (.str _)⟩)
    · cases e
  · cases e
    obtain ⟨v, rfl, rv⟩ := r.one
    rw [rv.blV]
    exact .inr (.inr (.inl ⟨_, rfl, q _ _ _ Ext.refl s (.str _)⟩))
  · cases e
    obtain ⟨v, rfl, rv⟩ := r.one
    rw [rv.nonV]
    exact .inr (.inr (.inr ⟨rfl, q _ _ _ Ext.refl s (.str _)⟩))
  · cases e
end
end PD

set_option Elab.async false
set_option linter.all false
set_option maxRecDepth 100000
set_option maxHeartbeats 1000000
/-! PD, part et: enumerate of a tuple. -/
namespace PD
open PySem PySem.Spec PyProof.Rows L2
section
variable {prog : Program} {w : World} {A : Around} {E : Value → Shared → Prop} {s : Shared}
theorem tupIter_ne {h : Heap} {it t : Addr} {i : Nat} {items : Array Value} (h1 : h.IsTupleIter it t i) (h2 : h.IsTuple t items) : t ≠ it := by
  rintro rfl
  obtain ⟨o, e, c, d⟩ := h1
  obtain ⟨o', e', c', _⟩ := h2
  rw [e] at e'
  cases e'
  rw [c] at c'
  exact absurd c' (by decide)
theorem draws_tup (hh : A.handled = none) (it t : Addr) (items : Array Value) : Draws prog w A it [it, t] items.size (fun i x => items[i]? = some x) (fun i h => h.IsTupleIter it t i ∧ h.IsTuple t items) where
  live := fun i h st => let ⟨⟨o, e, _⟩, _⟩ := st; ⟨o, e⟩
  frame := fun i h h' st k => ⟨st.1.at fun o e => k it (by simp) o e, let ⟨o, e, r⟩ := st.2; ⟨o, k t (by simp) o e, r⟩⟩
  item := fun i s Q E hi st hQ => by
    refine RZ.nextOf_tuple_item st.1 st.2 (x := items[i]) (by simp [hi]) fun h' it' sb => ?_
    have ne := tupIter_ne st.1 st.2
    exact hQ _ h' s.toks (by simp [hi]) ⟨it', let ⟨o, e, r⟩ := st.2; ⟨o, (sb.2 t ne).trans e, r⟩⟩ sb
  done := fun s Q E st hE => RZ.nextOf_tuple_end hh st.1 st.2 (by simp) hE

theorem pyNext_enum_endT {e it a : Addr} {i : Nat} {c : Int} {items : Array Value} {old : Value} {Q : Option Value → Shared → Prop} (hh : A.handled = none) (he : IsEnum s.heap e it c old) (hit : s.heap.IsTupleIter it a i) (ht : s.heap.IsTuple a items) (hx : items[i]? = none)
    (hQ : ∀ h', Heap.ExtBut it s.heap h' → Q none { s with heap := h' }) : wpAny (model prog w) A (pyNext (.ref e)) Q E s := by
  have hT : s.TypeIs (.ref e) "enumerate" := ⟨_, he, rfl⟩
  unfold pyNext
  refine wpAny_bind (wpAny_attempt (wpAny_callSpecial?_slot (name := Str.ofString "__next__") hT F.slot_enumerate_next
    (wpAny_call_entry F.slot_enumerate_next hT F.entry_enumerate_next ?_ (F.args_enumerate_next_1 _))))
  show wpAny _ _ (field (.ref e) 2 >>= _) _ _ _
  refine wpAny_bind (wpAny_field he rfl (x := .ref it) rfl ?_)
  refine wpAny_bind (RZ.nextOf_tuple_end hh hit ht hx fun h' x he' hx' => ?_)
  obtain ⟨o, ho, hc⟩ := hx'
  refine wpAny_bind (wpAny_isInstance (T := "StopIteration") (b := true) ⟨o, ho, hc⟩ isSubtype_stop ?_)
  exact wpAny_pure (hQ _ he')
theorem meets_enum_tup (l : Addr) (items : Array Value) :
    Meets (Builtin.«enumerate.__new__» ⟨[.type "enumerate", .ref l], []⟩) (fun _ R s => s.heap.IsTuple l items ∧
      R (.ok (.ret (.ref (s.heap.push { cls := .type "tuple_iterator", data := .fields #[.ref l, .int 0 0] }).objs.size)))
        { s with heap := (s.heap.push { cls := .type "tuple_iterator", data := .fields #[.ref l, .int 0 0] }).push { cls := .type "enumerate", data := .fields #[.none, .bool false, .ref s.heap.objs.size, rawInt 0, .none, .none] } }) :=
  .of_wp fun prog w A R s h => by
    obtain ⟨hp, g, d, tk, os⟩ := s; obtain ⟨hL, h⟩ := h
    have hsub := sub_enumerate
    obtain ⟨⟨c, dct, dt, sl⟩, hl, hc, n, hd⟩ := id hL
    replace hc : c = .type "tuple" := hc
    replace hd : dt = .seq items n := hd
    subst hc hd
    replace hl : Heap.get? hp l = some ⟨.type "tuple", dct, .seq items n, sl⟩ := hl
    wp_walk using AutoSeq1.wpAny_loadPart' hl
    refine wpAny_stack_any fun st => wpAny_pure ?_
    split
    · rename_i c _ _ _ _ _
      cases (c == Value.type "enumerate")
      · wp_walk using AutoSeq1.wpAny_loadPart' hl, wpAny_pyIter_tuple hL
        exact ⟨_, rfl, h⟩
      · wp_walk using AutoSeq1.wpAny_loadPart' hl, wpAny_pyIter_tuple hL
        exact ⟨_, rfl, h⟩
    · wp_walk using AutoSeq1.wpAny_loadPart' hl, wpAny_pyIter_tuple hL
      exact ⟨_, rfl, h⟩
theorem call_enum_tup {l : Addr} {items : Array Value} {Q : Value → Shared → Prop} (hL : s.heap.IsTuple l items)
    (h : ∀ h', IsEnum h' (s.heap.objs.size + 1) s.heap.objs.size 0 .none → h'.IsTupleIter s.heap.objs.size l 0 → h'.objs.size = s.heap.objs.size + 2 →
      (∀ b o, s.heap.get? b = some o → h'.get? b = some o) → Q (.ref (s.heap.objs.size + 1)) { s with heap := h' }) :
    wpAny (model prog w) A (call (.type "enumerate") [.ref l]) Q E s := by
  refine callType_new F.called_enumerate (by decide) (F.typeCall_enumerate_1 _) (F.newCall_enumerate_1 _) (fun obj => F.args_object_init_2 obj _) F.entry_enumerate_new
    (meets_enum_tup l items) ⟨hL, ?_⟩
  have hz : (s.heap.push { cls := .type "tuple_iterator", data := .fields #[.ref l, .int 0 0] }).objs.size = s.heap.objs.size + 1 := Heap.size_push ..
  show _ ∧ _
  rw [hz]
  have he : IsEnum ((s.heap.push { cls := .type "tuple_iterator", data := .fields #[.ref l, .int 0 0] }).push
      { cls := .type "enumerate", data := .fields #[.none, .bool false, .ref s.heap.objs.size, rawInt 0, .none, .none] }) (s.heap.objs.size + 1) s.heap.objs.size 0 .none := by
    have := Heap.get?_push_size (s.heap.push { cls := .type "tuple_iterator", data := .fields #[.ref l, .int 0 0] })
      (o := { cls := .type "enumerate", data := .fields #[.none, .bool false, .ref s.heap.objs.size, rawInt 0, .none, .none] }) rfl
    rw [hz] at this; exact this
  refine ⟨⟨_, he, rfl⟩, h _ he ⟨_, Heap.get?_push_of_some _ (Heap.get?_push_size _ rfl), rfl, rfl⟩ (by rw [Heap.size_push, hz]) fun b o x => Heap.get?_push_of_some _ (Heap.get?_push_of_some _ x)⟩
end
/-- the tuple at a, each item in a new pair -/
def IteT (K : PySem.W.Frag) (a : Addr) : It :=
  ⟨fun i H => ∃ (xs : List V) (x : V), SqT K H a xs ∧ xs[i]? = some x, fun i H v H' => ∃ T x, v = .ref T ∧ H T = none ∧ H' = upd H T (.tup [.int (i : Nat), x]) ∧ ∀ xs, SqT K H a xs → xs[i]? = some x, fun i H => ∃ xs : List V, SqT K H a xs ∧ xs.length ≤ i⟩
theorem turn_enumT {P : Program} {w : World} {K : PySem.W.Frag} {elts : List Expr} {kk : Nat} {tpos : Pos} (a e it : Addr) :
    Turn P w K (.Tuple elts kk tpos) (IteT K a) [e, it] e (fun i h => (∃ old, IsEnum h e it ((i : Nat) : Int) old) ∧ h.IsTupleIter it a i ∧ e ≠ it) where
  mem := by simp
  obj := fun i h st b hb => by
    obtain ⟨⟨old, he⟩, ⟨o, ho, hc, hd⟩, _⟩ := st
    have e' : b = e ∨ b = it := by simpa using hb
    rcases e' with z | z
    · rw [z]; exact ⟨_, he, fun v q => nomatch q⟩
    · rw [z]; exact ⟨o, ho, fun v q => by rw [hd] at q; cases q⟩
  keep := fun i h h' st k => let ⟨⟨old, he⟩, hi, hne⟩ := st; ⟨⟨old, k e (by simp) _ he⟩, hi.at fun o q => k it (by simp) o q, hne⟩
  item := by
    intro X hP hw hK hc i pins s σ H E I hf st hg
    subst hP hw hK
    obtain ⟨⟨old, he⟩, hit, hne⟩ := st
    obtain ⟨xs, x, hq, hx⟩ := hg
    obtain ⟨its, rv, p, hz⟩ := I.tuple hq
    obtain ⟨u, hu, ru⟩ := rv.get hx
    have hel : e < s.heap.objs.size := Heap.lt_size he
    have hil : it < s.heap.objs.size := by obtain ⟨_, q, _⟩ := hit; exact Heap.lt_size q
    have hea : e ≠ a := by
      rintro rfl
      obtain ⟨o', e', c', _⟩ := p
      rw [show s.heap.get? e = _ from he] at e'
      cases e'
      have z : ("enumerate" : String) = "tuple" := by injection c'
      exact absurd z (by decide)
    refine wpAny_pyNext_enum_itemD (draws_tup (A := X.A.in1) (show X.A.in1.handled = none from I.ok.hd hc) it a its.toArray) he ⟨hit, p⟩ (i := i) (by have := (List.getElem?_eq_some_iff.mp hu).1; simpa using this) hne (by simp [hne, hea]) fun x' h' tk px ho hit' hT hsz hk => ?_
    have ex : x' = u := by
      have px : its.toArray[i]? = some x' := px
      rw [List.getElem?_toArray, hu] at px
      cases px; rfl
    subst ex
    refine ⟨_, rfl, wpAny_letOwnedTupleGo_enum (s := { s with heap := h', toks := tk + 1 }) ho fun h'' he' sb => ?_⟩
    have hT2 : h''.get? s.heap.objs.size = some { cls := .type "tuple", data := .seq #[.int i tk, x'] } := (sb.2 _ (Nat.ne_of_gt hel)).trans hT
    have new : ObjOk X.prog X.w (upd H s.heap.objs.size (.tup [.int (i : Nat), x])) h'' s.heap.objs.size (.tup [.int (i : Nat), x]) :=
      ⟨by show 2 ≤ sizeLine; decide, [.int i tk, x'], .cons ⟨_, rfl⟩ (.cons ru .nil), ⟨_, hT2, rfl, _, rfl⟩⟩
    have I1 : Inv X pins σ (upd H s.heap.objs.size (.tup [.int (i : Nat), x])) { s with heap := h'', toks := tk + 1 } :=
      I.turnedNew (ch := [e, it]) (fun b ob hb q => (sb.2 b (fun z => hb (by simp [z]))).trans (hk b ob (fun z => hb (by simp [z])) (fun z => hb (by simp [z])) q)) hf (Nat.le_refl _) new
    refine ⟨.ref s.heap.objs.size, _, I1, rfl, ⟨_, x, rfl, I.hok.fresh (Nat.le_refl _), rfl, fun ys hy => by rw [I.tuple_inj hy hq]; exact hx⟩, ⟨⟨x', ?_⟩, hit'.1.at fun o q => (sb.2 it (Ne.symm hne)).trans q, hne⟩, fun b hb => ?_⟩
    · have e1 : ((i + 1 : Nat) : Int) = (i : Int) + 1 := by omega
      rw [e1]; exact he'
    · have hb' : b < s.heap.objs.size := by
        have e' : b = e ∨ b = it := by simpa using hb
        rcases e' with z | z
        · rw [z]; exact hel
        · rw [z]; exact hil
      rw [upd_ne (Nat.ne_of_lt hb')]
      exact (hf b hb).1
  done := by
    intro X hP hw hK hc i pins s σ H E I hf st hg
    subst hP hw hK
    obtain ⟨⟨old, he⟩, hit, hne⟩ := st
    obtain ⟨xs, hq, hx⟩ := hg
    obtain ⟨its, rv, p, hz⟩ := I.tuple hq
    obtain ⟨f0, f1, f2, f3, f4, f5⟩ := hf it (by simp)
    have hl := rv.length
    refine pyNext_enum_endT (it := it) (a := a) (i := i) (items := its.toArray) (I.ok.hd hc) he hit p (by simp; omega) fun h' eb => ⟨rfl, I.turned (t' := s.toks) (fun b o hb q => eb b o hb q) f0 f1 f3 f4 f5⟩
  self := fun A i s Q E st h => let ⟨⟨_, he⟩, _⟩ := st; wpAny_pyIter_enum he h
def iEnumT (K : PySem.W.Frag) (ta : TA) : TI := fun σ H R => ta σ H fun vs H1 => ∃ a xs, vs = [.ref a] ∧ SqT K H1 a xs ∧ R (IteT K a) H1
theorem pi_enumT {X : Cx} {e : Expr} {ta : TA} {p pos tpos : Pos} {elts : List Expr} {kk : Nat} (hg : Gl X "enumerate") (hm : X.mg "enumerate" = none) (ha : PA X [e] ta) (hs : starEach [e] X.env = [(false, eval e X.env)] := by rfl) :
    PI X (.Tuple elts kk tpos) (.Call (.Name "enumerate" p) [e] [] pos) (iEnumT X.K ta) := by
  refine ⟨fun pins s σ H R I h => ?_⟩
  refine Call_ (ld_blt I hg hm boot_enumerate (PyProof.Rows.callWith_type1 (thn (ha.run pos pins s σ H _ I h) fun us s1 ⟨vs, H1, I1, r1, q1⟩ => ?_) hs rfl))
  obtain ⟨a, xs, ex, hq, q⟩ := q1
  subst ex
  cases r1 with
  | cons r rr =>
    cases rr
    cases r
    obtain ⟨its, rv, p', hz⟩ := I1.tuple hq
    refine call_enum_tup p' fun h' he hit hsz hk => wpAny_pyIter_enum he ?_
    have I2 : Inv X pins σ H1 { s1 with heap := h' } := I1.kept (t' := s1.toks) hk
    refine ⟨s1.heap.objs.size + 1, [s1.heap.objs.size + 1, s1.heap.objs.size], _, _, H1, rfl, I2, turn_enumT a (s1.heap.objs.size + 1) s1.heap.objs.size, ⟨⟨.none, he⟩, hit, Nat.succ_ne_self _⟩, fun b hb => ?_, q⟩
    have e' : b = s1.heap.objs.size + 1 ∨ b = s1.heap.objs.size := by simpa using hb
    have hle : s1.heap.objs.size ≤ b := by
      rcases e' with z | z
      · rw [z]; exact Nat.le_add_right _ _
      · rw [z]; exact Nat.le_refl _
    exact I1.fpOk hle (I1.hok.fresh hle)
end PD

set_option Elab.async false
set_option linter.all false
set_option maxRecDepth 100000
set_option maxHeartbeats 4000000
/-! PD, part f: calls, lists made, what is walked, targets. -/
namespace PD
open PySem PySem.Spec PyProof.Rows L2

section
variable {X : Cx} {e a b c : Expr} {es : List Expr} {ma mb mc : Ms Va} {mes : Ms (List Va)} {mf : Ms (List D)} {pos p : Pos} {x : Str}

/-! ### calls of built-in functions -/
theorem tDA_bi {K : PySem.W.Frag} {f : List Va → Option D} {r : List V → Hp → VK → Prop}
    (hr : ∀ g H S vs xs d (Q : VK), Gs K g H S → RpVs K g H vs xs → f xs = some d → (∀ v g' H', Ext g H g' H' → Gs K g' H' S → Rp K g' H' v d → Q v H') → r vs H Q)
    (σ : L2.St) (H : Hp) (Q : VK) (h : tD K (fun L S => bnd (mes L S) fun xs S1 => lft ((f xs).map .d) S1) σ H Q) : tCB r (tDA K mes) σ H Q := by
  obtain ⟨g, H0, L, S, x, S', cr, e, q⟩ := h
  obtain ⟨xs, S1, e1, e⟩ := of_bnd e
  obtain ⟨d, e2, rfl, rfl⟩ := of_mapd e
  exact ⟨g, H0, L, S, xs, _, cr, e1, fun vs g1 H1 x1 s1 r1 => hr g1 H1 _ vs xs d Q s1 r1 e2 fun w g3 H3 x3 s3 r3 => q w g3 H3 (x1.trans x3) s3 r3⟩
theorem pd_bi (bi : Bi) (hc : X.calm = true) (hg : X.A.guards = some []) (hu : X.A.units + 66 < cLine) (hgl : Gl X x)
    (hm : (X.mg x = none ∧ bootBuiltins x = some bi.val ∧ x ≠ "__name__") ∨ (X.mg x = some (.builtin bi.id) ∧ bi.val = .builtin bi.id)) (ha : PA X (e :: es) (tDA X.K mes)) (hdb : (x == ("__debug__" : Str)) = false)
    (he : starEach (e :: es) X.env = (false, eval e X.env) :: starEach es X.env) (hpl : (backTo pos (starEach es X.env)).any (·.1) = false) :
    PE X (.Call (.Name x p) (e :: es) [] pos) (tD X.K fun L S => bnd (mes L S) fun xs S1 => lft ((biV bi xs).map .d) S1) := by
  have hcall := call_bi (X := X) bi hc hg hu
  have w := tDA_bi (mes := mes) (K := X.K) (f := biV bi) (r := rBi X.K bi) (fun g H S vs xs d Q s r e q => rBi_ok bi g H S vs xs d Q s r e q)
  rcases hm with ⟨h1, h2, h3⟩ | ⟨h1, h2⟩
  · cases bi with
    | int1 => exact (pe_callTy hcall hgl h1 h2 ha h3 hdb he hpl).wk w
    | str1 => exact (pe_callTy hcall hgl h1 h2 ha h3 hdb he hpl).wk w
    | tuple => exact (pe_callTy hcall hgl h1 h2 ha h3 hdb he hpl).wk w
    | _ => exact (pe_callB hcall hgl h1 h2 ha h3 hdb he hpl).wk w
  · rw [h2] at hcall
    exact (pe_callBfun hcall hgl h1 ha hdb he hpl).wk w
theorem tDA_bic {K : PySem.W.Frag} {f : List Va → Store → Option D} {r : List V → Hp → VK → Prop}
    (hr : ∀ g H S vs xs d (Q : VK), Gs K g H S → RpVs K g H vs xs → f xs S = some d → (∀ v g' H', Ext g H g' H' → Gs K g' H' S → Rp K g' H' v d → Q v H') → r vs H Q)
    (σ : L2.St) (H : Hp) (Q : VK) (h : tD K (fun L S => bnd (mes L S) fun xs S1 => lft ((f xs S1).map .d) S1) σ H Q) : tCB r (tDA K mes) σ H Q := by
  obtain ⟨g, H0, L, S, x, S', cr, e, q⟩ := h
  obtain ⟨xs, S1, e1, e⟩ := of_bnd e
  obtain ⟨d, e2, rfl, rfl⟩ := of_mapd e
  exact ⟨g, H0, L, S, xs, _, cr, e1, fun vs g1 H1 x1 s1 r1 => hr g1 H1 _ vs xs d Q s1 r1 e2 fun w g3 H3 x3 s3 r3 => q w g3 H3 (x1.trans x3) s3 r3⟩
theorem rBic_ok {K : PySem.W.Frag} (b : Bi) (g : Gh) (H : Hp) (S : Store) (vs : List V) (xs : List Va) (d : D) (Q : VK) (s : Gs K g H S) (r : RpVs K g H vs xs) (e : bicV b xs S = some d)
    (q : ∀ v g' H', Ext g H g' H' → Gs K g' H' S → Rp K g' H' v d → Q v H') : rBi K b vs H Q := by
  unfold bicV at e
  split at e
  · rename_i n
    cases k : S[n]? with
    | none => rw [k] at e; cases e
    | some ds =>
      rw [k] at e
      cases e
      obtain ⟨v, rfl, rv⟩ := r.one
      have rv : Rp K g H v (.cell n) := rv
      cases rv with
      | @cell a _ hc =>
        obtain ⟨ys, h2, rs⟩ := s.st n a ds hc k
        exact ⟨a, ys, rfl, .inl (SqL.of h2), by rw [rs.length]; exact q _ _ _ Ext.refl s (.int _)⟩
  · rename_i n
    cases k : S[n]? with
    | none => rw [k] at e; cases e
    | some ds =>
      rw [k] at e
      cases e
      obtain ⟨v, rfl, rv⟩ := r.one
      have rv : Rp K g H v (.cell n) := rv
      cases rv with
      | @cell a _ hc =>
        obtain ⟨ys, h2, rs⟩ := s.st n a ds hc k
        refine ⟨a, ys, rfl, .inl ⟨SqL.of h2, fun l hl => ?_⟩⟩
        obtain ⟨x2, s2, r2⟩ := new_tup s hl rs
        exact q _ _ _ x2 s2 r2
  · exact rBi_ok _ g H S vs _ d Q s r e q
theorem pd_bic (bi : Bi) (hc : X.calm = true) (hg : X.A.guards = some []) (hu : X.A.units + 66 < cLine) (hgl : Gl X x)
    (hm : (X.mg x = none ∧ bootBuiltins x = some bi.val ∧ x ≠ "__name__") ∨ (X.mg x = some (.builtin bi.id) ∧ bi.val = .builtin bi.id)) (ha : PA X (e :: es) (tDA X.K mes)) (hdb : (x == ("__debug__" : Str)) = false)
    (he : starEach (e :: es) X.env = (false, eval e X.env) :: starEach es X.env) (hpl : (backTo pos (starEach es X.env)).any (·.1) = false) :
    PE X (.Call (.Name x p) (e :: es) [] pos) (tD X.K fun L S => bnd (mes L S) fun xs S1 => lft ((bicV bi xs S1).map .d) S1) := by
  have hcall := call_bi (X := X) bi hc hg hu
  have w := tDA_bic (mes := mes) (K := X.K) (f := bicV bi) (r := rBi X.K bi) (fun g H S vs xs d Q s r e q => rBic_ok bi g H S vs xs d Q s r e q)
  rcases hm with ⟨h1, h2, h3⟩ | ⟨h1, h2⟩
  · cases bi with
    | int1 => exact (pe_callTy hcall hgl h1 h2 ha h3 hdb he hpl).wk w
    | str1 => exact (pe_callTy hcall hgl h1 h2 ha h3 hdb he hpl).wk w
    | tuple => exact (pe_callTy hcall hgl h1 h2 ha h3 hdb he hpl).wk w
    | _ => exact (pe_callB hcall hgl h1 h2 ha h3 hdb he hpl).wk w
  · rw [h2] at hcall
    exact (pe_callBfun hcall hgl h1 ha hdb he hpl).wk w
theorem few_ok {e : Expr} {p : Pos} {env : PySem.Env} (hs : starEach (e :: []) env = (false, eval e env) :: starEach [] env) : ((backTo p (starEach (e :: []) env)).all (fun x => !x.1) && (backToKw p (keywordEach [] env)).all (fun x => x.1.isSome)
      && decide ((e :: ([] : List Expr)).length + ([] : List Keyword).length + (if ([] : List Keyword).isEmpty then 0 else 1) < 30)) = true := by
  rw [hs]; rfl
/-- x.count(e), a list of whole numbers -/
theorem pd_cntI {i : Nat} {ap p' : Pos} (hN : X.N[i]? = some x) (hv : Vis X.env.scope x) (hd : (x == ("__debug__" : Str)) = false) (hcd : (x == ("__classdict__" : Str)) = false) (he : PE X e (tD X.K ma))
    (hs : starEach (e :: []) X.env = (false, eval e X.env) :: starEach [] X.env) (hline : (ap.endLine == p'.line) = true)
    (hfew : ((backTo p' (starEach (e :: []) X.env)).all (fun x => !x.1) && (backToKw p' (keywordEach [] X.env)).all (fun x => x.1.isSome)
      && decide ((e :: ([] : List Expr)).length + ([] : List Keyword).length + (if ([] : List Keyword).isEmpty then 0 else 1) < 30)) = true) :
    PE X (.Call (.Attribute (.Name x p) "count" ap) [e] [] p') (tD X.K fun L S => match L[i]? with
      | some (.dat (.lst ds)) => bnd (ma L S) fun y S1 => lft (match y with | .d (.int k) => (intsOf ds).map fun l => .d (.int (l.count k : Nat)) | _ => none) S1
      | _ => none) := by
  refine (pe_bm PySem.F.plainAttrs_list PySem.F.slot_list_count PySem.F.type_list_count mt_lcount (pe_var hN hv hd hcd) (pa_cons he pa_nil hs) rfl hfew hline hs rfl).wk fun σ H Q h => ?_
  obtain ⟨g, H0, L, S, x, S', cr, e, q⟩ := h
  dsimp only at e
  split at e
  · rename_i ds hi
    obtain ⟨dx, S1, e1, e2⟩ := of_bnd e
    obtain ⟨e3, rfl⟩ := of_lft e2
    obtain ⟨v0, k1, rc⟩ := cr.l.dat i _ hi
    cases rc with
    | @lst a xs _ t r =>
      refine ⟨_, k1, Or.inl ⟨rfl, _, t.sq⟩, g, H0, L, S, dx, _, cr, e1, fun v g1 H1 x1 s1 r1 => ?_⟩
      have rl : Rp X.K g1 H1 (.ref a) (.lst ds) := Rp.ext x1 cr.s.cw (.lst t r)
      split at e3
      · rename_i k
        cases hk : intsOf ds with
        | none => rw [hk] at e3; cases e3
        | some l =>
          rw [hk] at e3
          cases e3
          have hl := intsOf_eq hk
          subst hl
          cases rl with
          | @lst _ ys _ t2 r2 =>
            have hy := r2.ints
            subst hy
            have rk : v = .int k := RpV.intV r1
            subst rk
            exact ⟨a, l, k, rfl, rfl, t2.sq, q _ g1 H1 x1 s1 (.int _)⟩
      · cases e3
  · cases e
theorem tyX_of {K : PySem.W.Frag} {g : Gh} {H : Hp} {v : V} {x : Va} {n : String} (r : RpV K g H v x) (h : tyN x = some n) : TyX K H v (.type n) := by
  cases x with
  | b xs =>
    cases h
    obtain ⟨a, ys, rfl, ha, _⟩ := r
    exact .base (.lst ha)
  | d y =>
    cases y with
    | non => cases h; rw [r.nonV]; exact .base .non
    | bl k => cases h; rw [r.blV]; exact .base (.bl k)
    | int k => cases h; rw [r.intV]; exact .base (.int k)
    | str k => cases h; rw [r.strV]; exact .base (.str k)
    | ty k => cases h
    | cell k => cases h
    | tup xs =>
      cases h
      obtain ⟨a, ys, rfl, t, _⟩ := r.seqT (ds := xs) rfl
      rcases t with ⟨t | ⟨o, t⟩, _⟩ | ⟨o, its, n, h1, h2, _⟩
      · exact .base (.tup t)
      · exact .fTuple t
      · exact .kTuple h1 h2
    | lst xs =>
      cases h
      have r' : Rp K g H v (.lst xs) := r
      cases r' with
      | lst t _ =>
        rcases t with ⟨t | ⟨o, t⟩, _⟩ | ⟨its, n, h1, _⟩
        · exact .base (.lst t)
        · exact .base (.frz t)
        · exact .kList h1 rfl
theorem pd_isi {t : String} {y : Str} {p2 : Pos} (hgl : Gl X x) (hm : X.mg x = none) (hb : bootBuiltins x = some (.builtin "isinstance")) (hx : x ≠ "__name__") (hgy : Gl X y) (hmy : X.mg y = none) (hby : bootBuiltins y = some (.type t)) (hy : y ≠ "__name__")
    (hdb : (x == ("__debug__" : Str)) = false) (hdy : (y == ("__debug__" : Str)) = false) (ha : PE X a (tD X.K ma))
    (he : starEach (a :: [.Name y p2]) X.env = (false, eval a X.env) :: starEach [.Name y p2] X.env) :
    PE X (.Call (.Name x p) (a :: [.Name y p2]) [] pos) (tD X.K fun L S => bnd (ma L S) fun x S1 => lft ((isiV x t).map fun c => .d (.bl c)) S1) := by
  refine (pe_callB call_isi hgl hm hb (pa_cons ha (pa_cons (pe_bltn (v := .ty t) hgy hmy hby rfl hy hdy) pa_nil rfl) he) hx hdb he rfl).wk fun σ H Q h => ?_
  obtain ⟨g, H0, L, S, x, S', cr, e, q⟩ := h
  obtain ⟨dx, S1, e1, e⟩ := of_bnd e
  obtain ⟨k, e2, rfl, rfl⟩ := of_mapb e
  refine ⟨g, H0, L, S, dx, _, cr, e1, fun v g1 H1 x1 s1 r1 => ?_⟩
  unfold isiV at e2
  split at e2
  · rename_i n hn
    exact ⟨v, .ty t, .type n, .type t, k, rfl, .ty t, tyX_of r1 hn, kit_ty e2, q _ g1 H1 x1 s1 (.bl k)⟩
  · cases e2

/-! ### lists made -/
theorem new_fresh {K : PySem.W.Frag} {g g1 : Gh} {H H1 : Hp} {S1 : Store} {xs : List V} {ds : List D} {Q : VK} (x1 : Ext g H g1 H1) (s1 : Gs K g1 H1 S1) (r : Rps K g1 H1 xs ds) {p : Addr} (hp : H1 p = none)
    (q : ∀ p vs g' H', Ext g H g' H' → Gs K g' H' S1 → H' p = some (.lst vs) → Rps K g' H' vs ds → g'.W p → p ∉ g'.ca → H p = none → Q (.ref p) H') : Q (.ref p) (upd H1 p (.lst xs)) := by
  obtain ⟨x2, s2⟩ := new_own (xs := xs) s1 hp
  refine q p xs _ _ (x1.trans x2) s2 upd_same (Rps.ext x2 s1.cw r) (.inr rfl) (fun z => s1.nw hp (s1.cw p z)) ?_
  cases z : H p with
  | none => rfl
  | some o =>
    obtain ⟨o', z'⟩ := x1.there p o z
    rw [hp] at z'; cases z'
theorem pf_list (hgl : Gl X "list") (hm : X.mg "list" = none) (ha : PE X a (tD X.K ma)) (he : starEach (a :: []) X.env = (false, eval a X.env) :: starEach [] X.env) :
    PE X (.Call (.Name "list" p) [a] [] pos) (tDF X.K fun L S => bnd (ma L S) fun x S1 => lft (match asL x with | some l => some l | none => asT x) S1) := by
  refine (pe_callTy call_list_of hgl hm (by decide +kernel) (pa_cons ha pa_nil he) (by decide) (by decide) he rfl).wk fun σ H Q h => ?_
  obtain ⟨g, H0, L, S, x, S', cr, e, q⟩ := h
  obtain ⟨dx, S1, e1, e⟩ := of_bnd e
  obtain ⟨e2, rfl⟩ := of_lft e
  refine ⟨g, H0, L, S, dx, _, cr, e1, fun v g1 H1 x1 s1 r1 => ?_⟩
  split at e2
  · rename_i l hl
    cases e2
    obtain ⟨p, xs, rfl, t, r⟩ := r1.seqL hl
    exact ⟨p, xs, rfl, .inl t, fun l hl => new_fresh x1 s1 r hl q⟩
  · obtain ⟨p, xs, rfl, t, r⟩ := r1.seqT e2
    exact ⟨p, xs, rfl, .inr t.sq, fun l hl => new_fresh x1 s1 r hl q⟩
theorem RpV.lx {K : PySem.W.Frag} {g : Gh} {H : Hp} {v : V} {x : Va} {ds : List D} (h : RpV K g H v x) (e : asL x = some ds) : ∃ a xs, v = .ref a ∧ LX K H a xs ∧ Rps K g H xs ds := by
  cases x with
  | b ys =>
    cases e
    obtain ⟨a, xs, rfl, ha, r, _⟩ := h
    exact ⟨a, xs, rfl, .inl (.inl ha), r⟩
  | d y =>
    cases y with
    | lst ys =>
      cases e
      have h' : Rp K g H v (.lst ds) := h
      cases h' with
      | lst l r => exact ⟨_, _, rfl, l.elim (fun z => .inl z.1) .inr, r⟩
    | _ => cases e
def rCatX (K : PySem.W.Frag) : R2 := fun x y H Q => ∃ l b xs zs, x = .ref l ∧ y = .ref b ∧ LX K H l xs ∧ LX K H b zs ∧ xs.length + zs.length ≤ sizeLine ∧ ∀ p, H p = none → Q (.ref p) (upd H p (.lst (xs ++ zs)))
theorem op_catX : OpR X (binaryOp .Add) (rCatX X.K) := by
  intro pins s σ H x y v u Q I rx ry h
  obtain ⟨l, b, xs, zs, rfl, rfl, h1, h2, hz, q⟩ := h
  cases rx
  cases ry
  obtain ⟨z1, ts, n, r1, e1⟩ := h1.obj I
  obtain ⟨z2, us, m, r2, e2⟩ := h2.obj I
  have l1 := r1.length
  have l2 := r2.length
  refine PySem.P.add_list e1 e2 ?_ (by simp only [List.size_toArray]; omega)
  rw [show ts.toArray ++ us.toArray = (ts ++ us).toArray by simp]
  exact ⟨.ref _, _, I.lnew (t' := s.toks) (r1.append r2) (by simp only [List.length_append]; omega), rfl, q _ I.fresh⟩
theorem pf_cat (ha : PE X a (tD X.K ma)) (hb : PE X b (tD X.K mb)) :
    PE X (.BinOp a .Add b pos) (tDF X.K fun L S => bnd (ma L S) fun x S1 => bnd (mb L S1) fun y S2 => lft (match asL x, asL y with
      | some l, some m => if l.length + m.length ≤ line then some (l ++ m) else none
      | _, _ => none) S2) := by
  refine (pe_op op_catX ha hb).wk fun σ H Q h => ?_
  obtain ⟨g, H0, L, S, x, S', cr, e, q⟩ := h
  obtain ⟨dx, S1, e1, e⟩ := of_bnd e
  obtain ⟨dy, S2, e2, e⟩ := of_bnd e
  obtain ⟨e3, rfl⟩ := of_lft e
  refine ⟨g, H0, L, S, dx, S1, cr, e1, fun v g1 H1 x1 s1 r1 => ⟨g1, H0, L, S1, dy, _, cr.ext x1 s1, e2, fun u g2 H2 x2 s2 r2 => ?_⟩⟩
  have r1' := r1.ext x2 s1.cw
  split at e3
  · rename_i l m hl hm
    split at e3
    · rename_i hz
      cases e3
      obtain ⟨p1, xs, rfl, t1, q1⟩ := r1'.lx hl
      obtain ⟨p2, ys, rfl, t2, q2⟩ := r2.lx hm
      exact ⟨p1, p2, xs, ys, rfl, rfl, t1, t2, by rw [q1.length, q2.length, line_eq]; exact hz, fun p hp => new_fresh (x1.trans x2) s2 (q1.append q2) hp q⟩
    · cases e3
  · cases e3
theorem Rps.rep {K : PySem.W.Frag} {g : Gh} {H : Hp} {vs : List V} {ds : List D} (r : Rps K g H vs ds) : ∀ k : Nat, Rps K g H (List.replicate k vs).flatten (List.replicate k ds).flatten
  | 0 => .nil
  | k + 1 => by
    rw [List.replicate_succ, List.replicate_succ, List.flatten_cons, List.flatten_cons]
    exact r.append (Rps.rep r k)
theorem pf_rep (ha : PE X a (tDF X.K mf)) (hb : PE X b (tD X.K mb)) :
    PE X (.BinOp a .Mult b pos) (tDF X.K fun L S => bnd (mf L S) fun l S1 => bnd (mb L S1) fun y S2 => lft (match y with
      | .d (.int k) => if 0 ≤ k ∧ k < 2 ^ 63 ∧ l.length * k.toNat ≤ line then some (List.replicate k.toNat l).flatten else none
      | _ => none) S2) := by
  refine (pe_op op_rep ha hb).wk fun σ H Q h => ?_
  obtain ⟨g, H0, L, S, x, S', cr, e, q⟩ := h
  obtain ⟨ds, S1, e1, e⟩ := of_bnd e
  obtain ⟨dy, S2, e2, e⟩ := of_bnd e
  obtain ⟨e3, rfl⟩ := of_lft e
  refine ⟨g, H0, L, S, ds, S1, cr, e1, fun p vs g1 H1 x1 s1 hp r1 w n z => ⟨g1, H0, L, S1, dy, _, cr.ext x1 s1, e2, fun u g2 H2 x2 s2 r2 => ?_⟩⟩
  split at e3
  · rename_i k
    split at e3
    · rename_i hz
      cases e3
      rw [r2.intV]
      have r1' := Rps.ext x2 s1.cw r1
      exact ⟨p, k, vs, rfl, rfl, x2.keep _ _ hp n, by omega, hz.2.1, by rw [r1.length, line_eq]; exact hz.2.2, fun p hp => new_fresh (x1.trans x2) s2 (r1'.rep _) hp q⟩
    · cases e3
  · cases e3

/-! ### what is walked -/
/-- the iterator goes through ds, as long as what is told stands (B: and nothing but cells is written) -/
def JSeq (K : PySem.W.Frag) (B : Bool) (g : Gh) (H : Hp) (J : L2.It) (ds : List D) : Prop :=
  ∀ g' H' S', (if B = true then Ext g H g' H' else ExtW g H g' H') → Gs K g' H' S' →
    (∀ (i : Nat) d, ds[i]? = some d → J.go i H' ∧ ∀ x H'', J.yld i H' x H'' → Ext g' H' g' H'' ∧ Gs K g' H'' S' ∧ Rp K g' H'' x d) ∧ J.stop ds.length H'
def tDI (K : PySem.W.Frag) (B : Bool) (m : Ms (List D)) : TI := fun σ H R => ∃ g H0 L S ds S', Cr K g H0 σ H L S ∧ m L S = some (ds, S') ∧
  ∀ J g' H', Ext g H g' H' → Gs K g' H' S' → JSeq K B g' H' J ds → R J H'
theorem PI.or {tg : Expr} {t t' : TI} (h : PI X tg e t) (h' : PI X tg e t') : PI X tg e (fun σ H R => t σ H R ∨ t' σ H R) :=
  ⟨fun pins s σ H R I q => q.elim (h.run pins s σ H R I) (h'.run pins s σ H R I)⟩
theorem PI.wk {tg : Expr} {t t' : TI} (h : PI X tg e t) (w : ∀ σ H R, t' σ H R → t σ H R) : PI X tg e t' := ⟨fun pins s σ H R I q => h.run pins s σ H R I (w σ H R q)⟩
theorem jseq_list {K : PySem.W.Frag} {g : Gh} {H : Hp} {a : Addr} {xs : List V} {ds : List D} (t : LstAt K g H a xs) (r : Rps K g H xs ds) : JSeq K false g H (Itl K a) ds := by
  intro g' H' S' w s
  have w : ExtW g H g' H' := by simpa using w
  have t' : SqL K H' a xs := (show LstAt K g' H' a xs from t.elim (fun z => .inl (Rd.extW w z.1 z.2)) .inr).sq
  have r' := Rps.extW w r
  refine ⟨fun i d hd => ?_, ⟨xs, t', by rw [r.length]; exact Nat.le_refl _⟩⟩
  obtain ⟨v, h1, h2⟩ := r'.get hd
  exact ⟨⟨xs, v, t', h1⟩, fun x H'' y => by
    obtain ⟨rfl, y⟩ := y
    have := y xs t'
    rw [h1] at this
    cases this
    exact ⟨Ext.refl, s, h2⟩⟩
theorem jseq_tup {K : PySem.W.Frag} {g : Gh} {H : Hp} {a : Addr} {xs : List V} {ds : List D} (t : TupAt K g H a xs) (r : Rps K g H xs ds) : JSeq K false g H (Itt K a) ds := by
  intro g' H' S' w s
  have w : ExtW g H g' H' := by simpa using w
  have t' : SqT K H' a xs := (show TupAt K g' H' a xs from t.elim (fun z => .inl (Rd.extW w z.1 z.2)) .inr).sq
  have r' := Rps.extW w r
  refine ⟨fun i d hd => ?_, ⟨xs, t', by rw [r.length]; exact Nat.le_refl _⟩⟩
  obtain ⟨v, h1, h2⟩ := r'.get hd
  exact ⟨⟨xs, v, t', h1⟩, fun x H'' y => by
    obtain ⟨rfl, y⟩ := y
    have := y xs t'
    rw [h1] at this
    cases this
    exact ⟨Ext.refl, s, h2⟩⟩
theorem jseq_own {K : PySem.W.Frag} {g : Gh} {H : Hp} {a : Addr} {xs : List V} {ds : List D} {S : Store} (s0 : Gs K g H S) (t : H a = some (.lst xs)) (n : a ∉ g.ca) (r : Rps K g H xs ds) : JSeq K true g H (Itl K a) ds := by
  intro g' H' S' w s
  have w : Ext g H g' H' := by simpa using w
  have t' : SqL K H' a xs := SqL.of (w.keep _ _ t n)
  have r' := Rps.ext w s0.cw r
  refine ⟨fun i d hd => ?_, ⟨xs, t', by rw [r.length]; exact Nat.le_refl _⟩⟩
  obtain ⟨v, h1, h2⟩ := r'.get hd
  exact ⟨⟨xs, v, t', h1⟩, fun x H'' y => by
    obtain ⟨rfl, y⟩ := y
    have := y xs t'
    rw [h1] at this
    cases this
    exact ⟨Ext.refl, s, h2⟩⟩
theorem jseq_range {K : PySem.W.Frag} {g : Gh} {H : Hp} (lo : Int) (n : Nat) (B : Bool) : JSeq K B g H (Itr lo n) ((List.range n).map fun i => D.int (lo + (i : Nat))) := by
  intro g' H' S' w s
  refine ⟨fun i d hd => ?_, by show n ≤ _; simp⟩
  rw [List.getElem?_map] at hd
  have hi : i < n := by
    cases q : (List.range n)[i]? with
    | none => rw [q] at hd; cases hd
    | some j => simpa using (List.getElem?_eq_some_iff.mp q).1
  rw [List.getElem?_range hi] at hd
  cases hd
  exact ⟨hi, fun x H'' y => by
    obtain ⟨rfl, rfl⟩ := y
    exact ⟨Ext.refl, s, .int _⟩⟩
theorem JSeq.weak {K : PySem.W.Frag} {g : Gh} {H : Hp} {J : L2.It} {ds : List D} {S : Store} (s0 : Gs K g H S) (j : JSeq K false g H J ds) : JSeq K true g H J ds := by
  intro g' H' S' w s
  have w : Ext g H g' H' := by simpa using w
  exact j g' H' S' (by simpa using w.w s0.cw) s
theorem tDI_weak {K : PySem.W.Frag} {m : Ms (List D)} (σ : L2.St) (H : Hp) (R : L2.It → Hp → Prop) (h : tDI K true m σ H R) : tDI K false m σ H R := by
  obtain ⟨g, H0, L, S, ds, S', cr, e, q⟩ := h
  exact ⟨g, H0, L, S, ds, S', cr, e, fun J g' H' x s j => q J g' H' x s (j.weak s)⟩
variable {tg : Expr}
theorem pi_seq (ha : PE X a (tD X.K ma)) :
    PI X tg a (tDI X.K false fun L S => bnd (ma L S) fun x S1 => lft (match x with | .d (.lst l) => some l | .d (.tup l) => some l | _ => none) S1) := by
  refine PI.wk (PI.or (pi_list ha) (pi_tup ha)) fun σ H R h => ?_
  obtain ⟨g, H0, L, S, ds, S', cr, e, q⟩ := h
  obtain ⟨dx, S1, e1, e⟩ := of_bnd e
  obtain ⟨e2, rfl⟩ := of_lft e
  split at e2
  · cases e2
    refine .inl ⟨g, H0, L, S, _, _, cr, e1, fun v g1 H1 x1 s1 r1 => ?_⟩
    have r' : Rp X.K g1 H1 v (.lst ds) := r1
    cases r' with
    | lst t r => exact ⟨_, rfl, ⟨_, t.sq⟩, q _ g1 H1 x1 s1 (jseq_list t r)⟩
  · cases e2
    refine .inr ⟨g, H0, L, S, _, _, cr, e1, fun v g1 H1 x1 s1 r1 => ?_⟩
    have r' : Rp X.K g1 H1 v (.tup ds) := r1
    cases r' with
    | tup t r => exact ⟨_, rfl, ⟨_, t.sq⟩, q _ g1 H1 x1 s1 (jseq_tup t r)⟩
  · cases e2
theorem pi_bor {i : Nat} {x : Str} (hN : X.N[i]? = some x) (hv : Vis X.env.scope x) (hd : (x == ("__debug__" : Str)) = false) (hcd : (x == ("__classdict__" : Str)) = false) :
    PI X tg (.Name x pos) (tDI X.K true fun L S => match L[i]? with | some (.own xs) => some (xs, S) | _ => none) := by
  refine PI.wk (pi_list (pe_var hN hv hd hcd)) fun σ H R h => ?_
  obtain ⟨g, H0, L, S, ds, S', cr, e, q⟩ := h
  dsimp only at e
  split at e
  · rename_i ds hd
    cases e
    obtain ⟨a, xs, h1, h2, r, w, n, _⟩ := cr.l.own i ds hd
    exact ⟨_, h1, a, rfl, ⟨xs, SqL.of h2⟩, q _ g H Ext.refl cr.s (jseq_own cr.s h2 n r)⟩
  · cases e
theorem pi_rng1 (hg : Gl X "range") (hm : X.mg "range" = none) (ha : PE X a (tD X.K ma)) (he : starEach [a] X.env = (false, eval a X.env) :: starEach [] X.env) :
    PI X tg (.Call (.Name "range" p) [a] [] pos) (tDI X.K false fun L S => bnd (ma L S) fun x S1 => lft (match x with
      | .d (.int n) => if n < 2 ^ 62 ∧ -(2 ^ 62) ≤ n then some ((List.range n.toNat).map fun i => .int (i : Nat)) else none
      | _ => none) S1) := by
  refine PI.wk (pi_range1 hg hm (pa_cons ha pa_nil he) he) fun σ H R h => ?_
  obtain ⟨g, H0, L, S, ds, S', cr, e, q⟩ := h
  obtain ⟨dx, S1, e1, e⟩ := of_bnd e
  obtain ⟨e2, rfl⟩ := of_lft e
  refine ⟨g, H0, L, S, dx, _, cr, e1, fun v g1 H1 x1 s1 r1 => ?_⟩
  split at e2
  · rename_i n
    split at e2
    · rename_i hz
      cases e2
      have j := jseq_range (K := X.K) (g := g1) (H := H1) 0 n.toNat false
      simp only [Int.zero_add] at j
      exact ⟨n, by rw [r1.intV], hz.2, hz.1, q _ g1 H1 x1 s1 j⟩
    · cases e2
  · cases e2
theorem pi_rng2 (hg : Gl X "range") (hm : X.mg "range" = none) (ha : PE X a (tD X.K ma)) (hb : PE X b (tD X.K mb)) (he : starEach [a, b] X.env = (false, eval a X.env) :: starEach [b] X.env) (he2 : starEach [b] X.env = (false, eval b X.env) :: starEach [] X.env) :
    PI X tg (.Call (.Name "range" p) [a, b] [] pos) (tDI X.K false fun L S => bnd (ma L S) fun x S1 => bnd (mb L S1) fun y S2 => lft (match x, y with
      | .d (.int m), .d (.int n) => if n < 2 ^ 62 ∧ -(2 ^ 62) ≤ n ∧ m < 2 ^ 62 ∧ -(2 ^ 62) ≤ m then some ((List.range (n - m).toNat).map fun i => .int (m + (i : Nat))) else none
      | _, _ => none) S2) := by
  refine PI.wk (pi_range2 hg hm (pa_cons ha (pa_cons hb pa_nil he2) he) (by rw [he, he2]; rfl) he2) fun σ H R h => ?_
  obtain ⟨g, H0, L, S, ds, S', cr, e, q⟩ := h
  obtain ⟨dx, S1, e1, e⟩ := of_bnd e
  obtain ⟨dy, S2, e2, e⟩ := of_bnd e
  obtain ⟨e3, rfl⟩ := of_lft e
  refine ⟨g, H0, L, S, dx, S1, cr, e1, fun v g1 H1 x1 s1 r1 => ⟨g1, H0, L, S1, dy, _, cr.ext x1 s1, e2, fun u g2 H2 x2 s2 r2 => ?_⟩⟩
  split at e3
  · split at e3
    · rename_i hz
      cases e3
      exact ⟨_, _, by rw [(r1.ext x2 s1.cw).intV, r2.intV], ⟨hz.2.2.2, hz.2.2.1, hz.2.1, hz.1⟩, q _ g2 H2 (x1.trans x2) s2 (jseq_range _ _ false)⟩
    · cases e3
  · cases e3
theorem jseq_rangeC {K : PySem.W.Frag} {g : Gh} {H : Hp} (lo c : Int) (n : Nat) (B : Bool) : JSeq K B g H (Itc lo c n) ((List.range n).map fun i => D.int (lo + (i : Nat) * c)) := by
  intro g' H' S' w s
  refine ⟨fun i d hd => ?_, by show n ≤ _; simp⟩
  rw [List.getElem?_map] at hd
  have hi : i < n := by
    cases q : (List.range n)[i]? with
    | none => rw [q] at hd; cases hd
    | some j => simpa using (List.getElem?_eq_some_iff.mp q).1
  rw [List.getElem?_range hi] at hd
  cases hd
  exact ⟨hi, fun x H'' y => by
    obtain ⟨rfl, rfl⟩ := y
    exact ⟨Ext.refl, s, .int _⟩⟩
theorem pi_rng3 (hg : Gl X "range") (hm : X.mg "range" = none) (ha : PE X a (tD X.K ma)) (hb : PE X b (tD X.K mb)) (hc : PE X c (tD X.K mc)) (he : starEach [a, b, c] X.env = (false, eval a X.env) :: starEach [b, c] X.env) (he2 : starEach [b, c] X.env = (false, eval b X.env) :: starEach [c] X.env) (he3 : starEach [c] X.env = (false, eval c X.env) :: starEach [] X.env) :
    PI X tg (.Call (.Name "range" p) [a, b, c] [] pos) (tDI X.K false fun L S => bnd (ma L S) fun x S1 => bnd (mb L S1) fun y S2 => bnd (mc L S2) fun z S3 => lft (match x, y, z with
      | .d (.int m), .d (.int n), .d (.int k) => if k = -1 ∧ n < 2 ^ 62 ∧ -(2 ^ 62) ≤ n ∧ m < 2 ^ 62 ∧ -(2 ^ 62) ≤ m then some ((List.range (m - n).toNat).map fun i => .int (m + (i : Nat) * (-1))) else none
      | _, _, _ => none) S3) := by
  refine PI.wk (pi_range3 hg hm (pa_cons ha (pa_cons hb (pa_cons hc pa_nil he3) he2) he) he (by rw [he2, he3]; rfl)) fun σ H R h => ?_
  obtain ⟨g, H0, L, S, ds, S', cr, e, q⟩ := h
  obtain ⟨dx, S1, e1, e⟩ := of_bnd e
  obtain ⟨dy, S2, e2, e⟩ := of_bnd e
  obtain ⟨dz, S3, e3, e⟩ := of_bnd e
  obtain ⟨e4, rfl⟩ := of_lft e
  refine ⟨g, H0, L, S, dx, S1, cr, e1, fun v g1 H1 x1 s1 r1 => ⟨g1, H0, L, S1, dy, S2, cr.ext x1 s1, e2, fun u g2 H2 x2 s2 r2 => ⟨g2, H0, L, S2, dz, _, (cr.ext x1 s1).ext x2 s2, e3, fun w g3 H3 x3 s3 r3 => ?_⟩⟩⟩
  split at e4
  · split at e4
    · rename_i hz
      obtain ⟨rfl, z1, z2, z3, z4⟩ := hz
      cases e4
      exact ⟨_, _, _, _, by rw [((r1.ext x2 s1.cw).ext x3 s2.cw).intV, (r2.ext x3 s2.cw).intV, r3.intV], RgC.neg z4 z3 z2 z1, q _ g3 H3 (x1.trans (x2.trans x3)) s3 (jseq_rangeC _ _ _ false)⟩
    · cases e4
  · cases e4

/-! ### enumerate, zip, reversed -/
theorem mapIdx_get {ds : List D} {i : Nat} {d : D} (h : (enumD ds)[i]? = some d) : ∃ x, ds[i]? = some x ∧ d = .tup [.int (i : Nat), x] := by
  unfold enumD at h
  rw [List.getElem?_mapIdx] at h
  cases q : ds[i]? with
  | none => rw [q] at h; cases h
  | some x => rw [q] at h; cases h; exact ⟨x, rfl, rfl⟩
theorem enumD_len (ds : List D) : (enumD ds).length = ds.length := by simp [enumD]
theorem zip_get {ds es : List D} {i : Nat} {d : D} (h : (zipD ds es)[i]? = some d) : ∃ x y, ds[i]? = some x ∧ es[i]? = some y ∧ d = .tup [x, y] := by
  unfold zipD at h
  rw [List.getElem?_zipWith] at h
  cases q : ds[i]? with
  | none => rw [q] at h; cases h
  | some x =>
    cases q2 : es[i]? with
    | none => rw [q, q2] at h; cases h
    | some y => rw [q, q2] at h; cases h; exact ⟨x, y, rfl, rfl, rfl⟩
theorem pair_laid {K : PySem.W.Frag} {g : Gh} {H : Hp} {S : Store} {p : Addr} {v u : V} {d e : D} (s : Gs K g H S) (hp : H p = none) (r : Rp K g H v d) (r' : Rp K g H u e) :
    Ext g H g (upd H p (.tup [v, u])) ∧ Gs K g (upd H p (.tup [v, u])) S ∧ Rp K g (upd H p (.tup [v, u])) (.ref p) (.tup [d, e]) := new_tup s hp (.cons r (.cons r' .nil))
/-- the core: at each later moment the list at a has items that are ds -/
theorem jseq_enum {K : PySem.W.Frag} {g : Gh} {H : Hp} {a : Addr} {ds : List D} {B : Bool}
    (st : ∀ g' H' S', (if B = true then Ext g H g' H' else ExtW g H g' H') → Gs K g' H' S' → ∃ xs, SqL K H' a xs ∧ Rps K g' H' xs ds) : JSeq K B g H (Ite K a) (enumD ds) := by
  intro g' H' S' w s
  obtain ⟨xs, t', r'⟩ := st g' H' S' w s
  refine ⟨fun i d hd => ?_, ⟨xs, t', by rw [r'.length, enumD_len]; exact Nat.le_refl _⟩⟩
  obtain ⟨x0, h0, rfl⟩ := mapIdx_get hd
  obtain ⟨v, h1, h2⟩ := r'.get h0
  refine ⟨⟨xs, v, t', h1⟩, fun x H'' y => ?_⟩
  obtain ⟨T, z, rfl, hT, rfl, y⟩ := y
  have := y xs t'
  rw [h1] at this
  cases this
  exact pair_laid s hT (.int _) h2
theorem jseq_enumT {K : PySem.W.Frag} {g : Gh} {H : Hp} {a : Addr} {xs : List V} {ds : List D} (t : TupAt K g H a xs) (r : Rps K g H xs ds) : JSeq K false g H (IteT K a) (enumD ds) := by
  intro g' H' S' w s
  have w : ExtW g H g' H' := by simpa using w
  have t' : SqT K H' a xs := (show TupAt K g' H' a xs from t.elim (fun z => .inl (Rd.extW w z.1 z.2)) .inr).sq
  have r' := Rps.extW w r
  refine ⟨fun i d hd => ?_, ⟨xs, t', by rw [r'.length, enumD_len]; exact Nat.le_refl _⟩⟩
  obtain ⟨x0, h0, rfl⟩ := mapIdx_get hd
  obtain ⟨v, h1, h2⟩ := r'.get h0
  refine ⟨⟨xs, v, t', h1⟩, fun x H'' y => ?_⟩
  obtain ⟨T, z, rfl, hT, rfl, y⟩ := y
  have := y xs t'
  rw [h1] at this
  cases this
  exact pair_laid s hT (.int _) h2
variable {elts : List Expr} {kk : Nat} {tpos : Pos}
theorem pi_enumD (hg : Gl X "enumerate") (hm : X.mg "enumerate" = none) (ha : PE X a (tD X.K ma)) (he : starEach [a] X.env = (false, eval a X.env) :: starEach [] X.env) :
    PI X (.Tuple elts kk tpos) (.Call (.Name "enumerate" p) [a] [] pos) (tDI X.K false fun L S => bnd (ma L S) fun x S1 => lft ((match x with | .d (.lst l) => some l | .d (.tup l) => some l | _ => none).map enumD) S1) := by
  refine PI.wk (PI.or (pi_enum hg hm (pa_cons ha pa_nil he) he) (pi_enumT hg hm (pa_cons ha pa_nil he) he)) fun σ H R h => ?_
  obtain ⟨g, H0, L, S, ds, S', cr, e, q⟩ := h
  obtain ⟨dx, S1, e1, e'⟩ := of_bnd e
  clear e
  obtain ⟨e2, rfl⟩ := of_lft e'
  clear e'
  split at e2
  · cases e2
    refine .inl ⟨g, H0, L, S, _, _, cr, e1, fun v g1 H1 x1 s1 r1 => ?_⟩
    rename_i l
    have r' : Rp X.K g1 H1 v (.lst l) := r1
    cases r' with
    | lst t r => exact ⟨_, _, rfl, t.sq, q _ g1 H1 x1 s1 (jseq_enum (B := false) fun g' H' S' w s => by
        have w : ExtW g1 H1 g' H' := by simpa using w
        exact ⟨_, (show LstAt X.K g' H' _ _ from t.elim (fun z => .inl (Rd.extW w z.1 z.2)) .inr).sq, Rps.extW w r⟩)⟩
  · cases e2
    refine .inr ⟨g, H0, L, S, _, _, cr, e1, fun v g1 H1 x1 s1 r1 => ?_⟩
    rename_i l
    have r' : Rp X.K g1 H1 v (.tup l) := r1
    cases r' with
    | tup t r => exact ⟨_, _, rfl, t.sq, q _ g1 H1 x1 s1 (jseq_enumT t r)⟩
  · cases e2
theorem pi_enumB {i : Nat} {x : Str} (hg : Gl X "enumerate") (hm : X.mg "enumerate" = none) (hN : X.N[i]? = some x) (hv : Vis X.env.scope x) (hd : (x == ("__debug__" : Str)) = false) (hcd : (x == ("__classdict__" : Str)) = false)
    (he : starEach [.Name x p'] X.env = (false, eval (.Name x p') X.env) :: starEach [] X.env) :
    PI X (.Tuple elts kk tpos) (.Call (.Name "enumerate" p) [.Name x p'] [] pos) (tDI X.K true fun L S => match L[i]? with | some (.own xs) => some (enumD xs, S) | _ => none) := by
  refine PI.wk (pi_enum hg hm (pa_cons (pe_var hN hv hd hcd) pa_nil he) he) fun σ H R h => ?_
  obtain ⟨g, H0, L, S, ds, S', cr, e, q⟩ := h
  dsimp only at e
  split at e
  · rename_i ds hd
    cases e
    obtain ⟨a, xs, h1, h2, r, w, n, _⟩ := cr.l.own i ds hd
    exact ⟨_, h1, a, xs, rfl, SqL.of h2, q _ g H Ext.refl cr.s (jseq_enum (B := true) fun g' H' S' w s => by
      have w : Ext g H g' H' := by simpa using w
      exact ⟨xs, SqL.of (w.keep _ _ h2 n), Rps.ext w cr.s.cw r⟩)⟩
  · cases e
theorem zipD_end {ds es : List D} : ds.length ≤ (zipD ds es).length ∨ es.length ≤ (zipD ds es).length := by
  unfold zipD
  rw [List.length_zipWith]
  omega
theorem pi_zipD (hg : Gl X "zip") (hm : X.mg "zip" = none) (ha : PE X a (tD X.K ma)) (hb : PE X b (tD X.K mb)) (he : starEach [a, b] X.env = (false, eval a X.env) :: starEach [b] X.env) (he2 : starEach [b] X.env = (false, eval b X.env) :: starEach [] X.env) :
    PI X (.Tuple elts kk tpos) (.Call (.Name "zip" p) [a, b] [] pos) (tDI X.K false fun L S => bnd (ma L S) fun x S1 => bnd (mb L S1) fun y S2 => lft (match x, y with
      | .d (.lst l), .d (.lst m) => some (zipD l m)
      | .d (.tup l), .d (.tup m) => some (zipD l m)
      | .d (.tup l), .d (.lst m) => some (zipD l m)
      | _, _ => none) S2) := by
  refine PI.wk (PI.or (RZ.pi_zipA hg hm (pa_cons ha (pa_cons hb pa_nil he2) he) he (by rw [he2]; rfl)) (pi_zipM hg hm (pa_cons ha (pa_cons hb pa_nil he2) he) he (by rw [he2]; rfl))) fun σ H R h => ?_
  obtain ⟨g, H0, L, S, ds, S', cr, e, q⟩ := h
  obtain ⟨dx, S1, e1, e'⟩ := of_bnd e
  clear e
  obtain ⟨dy, S2, e2, e''⟩ := of_bnd e'
  clear e'
  obtain ⟨e3, rfl⟩ := of_lft e''
  clear e''
  split at e3
  · rename_i l m
    cases e3
    refine .inl ⟨g, H0, L, S, _, S1, cr, e1, fun v g1 H1 x1 s1 r1 => ⟨g1, H0, L, S1, _, _, cr.ext x1 s1, e2, fun u g2 H2 x2 s2 r2 => ?_⟩⟩
    have r1' := r1.ext x2 s1.cw
    have q1 : Rp X.K g2 H2 v (.lst l) := r1'
    have q2 : Rp X.K g2 H2 u (.lst m) := r2
    cases q1 with
    | lst t r => cases q2 with
      | lst t' r' =>
        refine ⟨_, _, _, _, rfl, .inl ⟨t.sq, t'.sq, q _ g2 H2 (x1.trans x2) s2 ?_⟩⟩
        intro g' H' S' w s
        have w : ExtW g2 H2 g' H' := by simpa using w
        have y1 := (show LstAt X.K g' H' _ _ from t.elim (fun z => .inl (Rd.extW w z.1 z.2)) .inr).sq
        have y2 := (show LstAt X.K g' H' _ _ from t'.elim (fun z => .inl (Rd.extW w z.1 z.2)) .inr).sq
        have z1 := Rps.extW w r
        have z2 := Rps.extW w r'
        refine ⟨fun i d hd => ?_, ⟨_, _, y1, y2, by rw [z1.length, z2.length]; exact zipD_end⟩⟩
        obtain ⟨x0, y0, h0, h0', rfl⟩ := zip_get hd
        obtain ⟨v, h1, h2⟩ := z1.get h0
        obtain ⟨v', h1', h2'⟩ := z2.get h0'
        refine ⟨⟨_, _, v, v', y1, y2, h1, h1'⟩, fun x H'' y => ?_⟩
        obtain ⟨T, z, z', rfl, hT, rfl, ya, yb⟩ := y
        have ya := ya _ y1
        have yb := yb _ y2
        rw [h1] at ya
        rw [h1'] at yb
        cases ya; cases yb
        exact pair_laid s hT h2 h2'
  · rename_i l m
    cases e3
    refine .inl ⟨g, H0, L, S, _, S1, cr, e1, fun v g1 H1 x1 s1 r1 => ⟨g1, H0, L, S1, _, _, cr.ext x1 s1, e2, fun u g2 H2 x2 s2 r2 => ?_⟩⟩
    have r1' := r1.ext x2 s1.cw
    have q1 : Rp X.K g2 H2 v (.tup l) := r1'
    have q2 : Rp X.K g2 H2 u (.tup m) := r2
    cases q1 with
    | tup t r => cases q2 with
      | tup t' r' =>
        refine ⟨_, _, _, _, rfl, .inr ⟨t.sq, t'.sq, q _ g2 H2 (x1.trans x2) s2 ?_⟩⟩
        intro g' H' S' w s
        have w : ExtW g2 H2 g' H' := by simpa using w
        have y1 := (show TupAt X.K g' H' _ _ from t.elim (fun z => .inl (Rd.extW w z.1 z.2)) .inr).sq
        have y2 := (show TupAt X.K g' H' _ _ from t'.elim (fun z => .inl (Rd.extW w z.1 z.2)) .inr).sq
        have z1 := Rps.extW w r
        have z2 := Rps.extW w r'
        refine ⟨fun i d hd => ?_, ⟨_, _, y1, y2, by rw [z1.length, z2.length]; exact zipD_end⟩⟩
        obtain ⟨x0, y0, h0, h0', rfl⟩ := zip_get hd
        obtain ⟨v, h1, h2⟩ := z1.get h0
        obtain ⟨v', h1', h2'⟩ := z2.get h0'
        refine ⟨⟨_, _, v, v', y1, y2, h1, h1'⟩, fun x H'' y => ?_⟩
        obtain ⟨T, z, z', rfl, hT, rfl, ya, yb⟩ := y
        have ya := ya _ y1
        have yb := yb _ y2
        rw [h1] at ya
        rw [h1'] at yb
        cases ya; cases yb
        exact pair_laid s hT h2 h2'
  · rename_i l m
    cases e3
    refine .inr ⟨g, H0, L, S, _, S1, cr, e1, fun v g1 H1 x1 s1 r1 => ⟨g1, H0, L, S1, _, _, cr.ext x1 s1, e2, fun u g2 H2 x2 s2 r2 => ?_⟩⟩
    have r1' := r1.ext x2 s1.cw
    have q1 : Rp X.K g2 H2 v (.tup l) := r1'
    have q2 : Rp X.K g2 H2 u (.lst m) := r2
    cases q1 with
    | tup t r => cases q2 with
      | lst t' r' =>
        refine ⟨_, _, _, _, rfl, t.sq, t'.sq, q _ g2 H2 (x1.trans x2) s2 ?_⟩
        intro g' H' S' w s
        have w : ExtW g2 H2 g' H' := by simpa using w
        have y1 := (show TupAt X.K g' H' _ _ from t.elim (fun z => .inl (Rd.extW w z.1 z.2)) .inr).sq
        have y2 := (show LstAt X.K g' H' _ _ from t'.elim (fun z => .inl (Rd.extW w z.1 z.2)) .inr).sq
        have z1 := Rps.extW w r
        have z2 := Rps.extW w r'
        refine ⟨fun i d hd => ?_, ⟨_, _, y1, y2, by rw [z1.length, z2.length]; exact zipD_end⟩⟩
        obtain ⟨x0, y0, h0, h0', rfl⟩ := zip_get hd
        obtain ⟨v, h1, h2⟩ := z1.get h0
        obtain ⟨v', h1', h2'⟩ := z2.get h0'
        refine ⟨⟨_, _, v, v', y1, y2, h1, h1'⟩, fun x H'' y => ?_⟩
        obtain ⟨T, z, z', rfl, hT, rfl, ya, yb⟩ := y
        have ya := ya _ y1
        have yb := yb _ y2
        rw [h1] at ya
        rw [h1'] at yb
        cases ya; cases yb
        exact pair_laid s hT h2 h2'
  · cases e3
theorem rev_get {ds : List D} {i : Nat} {d : D} (h : ds.reverse[i]? = some d) : i < ds.length ∧ ds[ds.length - 1 - i]? = some d := by
  have hi : i < ds.length := by
    have := (List.getElem?_eq_some_iff.mp h).1
    simpa using this
  rw [List.getElem?_reverse hi] at h
  exact ⟨hi, h⟩
theorem pi_rvd (hg : Gl X "reversed") (hm : X.mg "reversed" = none) (ha : PE X a (tD X.K ma)) (he : starEach [a] X.env = (false, eval a X.env) :: starEach [] X.env) :
    PI X tg (.Call (.Name "reversed" p) [a] [] pos) (tDI X.K false fun L S => bnd (ma L S) fun x S1 => lft (match x with | .d (.lst l) => some l.reverse | .d (.tup l) => some l.reverse | _ => none) S1) := by
  refine PI.wk (RT.pi_revA hg hm ha he) fun σ H R h => ?_
  obtain ⟨g, H0, L, S, ds, S', cr, e, q⟩ := h
  obtain ⟨dx, S1, e1, e'⟩ := of_bnd e
  clear e
  obtain ⟨e2, rfl⟩ := of_lft e'
  clear e'
  refine ⟨g, H0, L, S, _, _, cr, e1, fun v g1 H1 x1 s1 r1 => ?_⟩
  split at e2
  · cases e2
    rename_i l
    have r' : Rp X.K g1 H1 v (.lst l) := r1
    cases r' with
    | @lst a xs ds t r =>
      refine ⟨a, xs, rfl, .inl ⟨t.sq, q _ g1 H1 x1 s1 ?_⟩⟩
      intro g' H' S' w s
      have w : ExtW g1 H1 g' H' := by simpa using w
      have t' := (show LstAt X.K g' H' _ _ from t.elim (fun z => .inl (Rd.extW w z.1 z.2)) .inr).sq
      have r' := Rps.extW w r
      refine ⟨fun i d hd => ?_, ?_⟩
      · obtain ⟨hi, hd⟩ := rev_get hd
        obtain ⟨v, h1, h2⟩ := r'.get hd
        rw [← r.length] at h1 hi
        exact ⟨⟨hi, xs, v, t', h1⟩, fun x H'' y => by
          obtain ⟨rfl, y⟩ := y
          have := y xs t'
          rw [h1] at this
          cases this
          exact ⟨Ext.refl, s, h2⟩⟩
      · show xs.length ≤ l.reverse.length
        rw [r.length, List.length_reverse]; exact Nat.le_refl _
  · cases e2
    rename_i l
    have r' : Rp X.K g1 H1 v (.tup l) := r1
    cases r' with
    | @tup a xs ds t r =>
      refine ⟨a, xs, rfl, .inr ⟨t.sq, q _ g1 H1 x1 s1 ?_⟩⟩
      intro g' H' S' w s
      have w : ExtW g1 H1 g' H' := by simpa using w
      have t' := (show TupAt X.K g' H' _ _ from t.elim (fun z => .inl (Rd.extW w z.1 z.2)) .inr).sq
      have r' := Rps.extW w r
      refine ⟨fun i d hd => ?_, ?_⟩
      · obtain ⟨hi, hd⟩ := rev_get hd
        obtain ⟨v, h1, h2⟩ := r'.get hd
        rw [← r.length] at h1 hi
        exact ⟨⟨hi, xs, v, t', h1⟩, fun x H'' y => by
          obtain ⟨rfl, y⟩ := y
          have := y xs t'
          rw [h1] at this
          cases this
          exact ⟨Ext.refl, s, h2⟩⟩
      · show xs.length ≤ l.reverse.length
        rw [r.length, List.length_reverse]; exact Nat.le_refl _
  · cases e2
end
end PD

set_option Elab.async false
set_option linter.all false
set_option maxRecDepth 100000
set_option maxHeartbeats 1000000
namespace PD
open PySem PySem.Spec PyProof.Rows L2 HT
section
variable {prog : Program} {w : World} {A : Around} {E : Value → Shared → Prop} {s : Shared}
theorem rev_places (n : Nat) : Builtin.Slice.slicePlaces ((n : Int) - 1) (-1) (-1) = n := by
  unfold Builtin.Slice.slicePlaces
  rw [if_neg (by decide)]
  split
  · simp
  · omega
theorem sliceApplied_rev {sl : Addr} {vl vu vs : Value} {n : Nat} {Q : Int × Int × Nat → Shared → Prop} (hs : s.heap.IsSliceOf sl vl vu vs) (pl : IsPart vl none) (pu : IsPart vu none) (ps : IsPart vs (some (-1)))
    (h : Q ((n : Int) - 1, -1, n) s) : wpAny (model prog w) A (Builtin.Slice.sliceApplied (.ref sl) (pure (n : Int))) Q E s := by
  obtain ⟨os, hos, hcs, hds⟩ := id hs
  unfold Builtin.Slice.sliceApplied Builtin.Slice.sliceFields
  refine wpAny_bind (wpAny_bind (wpAny_field hos hds (x := vl) rfl (wpAny_bind (wpAny_field hos hds (x := vu) rfl (wpAny_bind (wpAny_field hos hds (x := vs) rfl (wpAny_pure ?_)))))))
  refine wpAny_bind (slicePart_ ps ?_)
  show wpAny _ _ (if ((-1 : Int) == 0) = true then _ else _) _ _ s
  rw [if_neg (by decide)]
  refine wpAny_bind (slicePart_ pl (wpAny_bind (slicePart_ pu (wpAny_bind (wpAny_pure ?_)))))
  show wpAny _ _ (pure ((n : Int) - 1, (-1 : Int), Builtin.Slice.slicePlaces ((n : Int) - 1) (-1) (-1))) _ _ s
  rw [rev_places]
  exact wpAny_pure h
theorem rev_range (n : Nat) : (List.range n).reverse = (List.range n).map fun k => n - 1 - k := by
  refine List.ext_getElem (by simp) fun i h1 h2 => ?_
  simp [List.getElem_reverse]
theorem all_items (xs : Array Value) : (List.range xs.size).filterMap (fun i => xs[i]?) = xs.toList := by
  have e : (List.range xs.size).filterMap (fun i => xs[i]?) = (List.range xs.size).filterMap (fun i => xs.toList[i]?) := by simp
  rw [e]
  have : ∀ (l : List Value), (List.range l.length).filterMap (fun i => l[i]?) = l := by
    intro l
    induction l with
    | nil => rfl
    | cons a l ih =>
      rw [List.length_cons, List.range_succ_eq_map, List.filterMap_cons]
      simp only [List.getElem?_cons_zero]
      rw [List.filterMap_map]
      show a :: List.filterMap (fun i => (a :: l)[i + 1]?) (List.range l.length) = _
      simp only [List.getElem?_cons_succ]
      rw [ih]
  have q := this xs.toList
  rw [Array.length_toList] at q
  exact q
theorem fm_congr {α β : Type} {f g : α → Option β} : ∀ l : List α, (∀ x ∈ l, f x = g x) → l.filterMap f = l.filterMap g
  | [], _ => rfl
  | a :: l, h => by
    rw [List.filterMap_cons, List.filterMap_cons, h a List.mem_cons_self, fm_congr l fun x hx => h x (List.mem_cons_of_mem _ hx)]
theorem rev_pick (xs : Array Value) : ((List.range xs.size).filterMap fun (k : Nat) => xs[((xs.size : Int) - 1 + (k : Int) * (-1)).toNat]?).toArray = xs.toList.reverse.toArray := by
  rw [← all_items xs, ← List.filterMap_reverse, rev_range, List.filterMap_map]
  congr 1
  refine fm_congr _ fun k hk => ?_
  have := List.mem_range.mp hk
  have e : ((xs.size : Int) - 1 + (k : Int) * (-1)).toNat = xs.size - 1 - k := by omega
  rw [e]
  rfl
theorem getItem_tuple_rev {t sl : Addr} {items : Array Value} {vl vu vs : Value} {Q : Value → Shared → Prop} (ht : IsTup s.heap t items) (hs : s.heap.IsSliceOf sl vl vu vs) (pl : IsPart vl none) (pu : IsPart vu none) (ps : IsPart vs (some (-1)))
    (h : Q (.ref s.heap.objs.size) { s with heap := s.heap.push { cls := .type "tuple", data := .seq items.toList.reverse.toArray } }) (hsz : items.size ≤ sizeLine) : wpAny (model prog w) A (getItem (.ref t) (.ref sl)) Q E s := by
  have hok : sizeOk (.seq items.toList.reverse.toArray) := by
    show items.toList.reverse.toArray.size ≤ sizeLine
    rw [List.size_toArray, List.length_reverse, Array.length_toList]
    exact hsz
  obtain ⟨os, hos, hcs, hds⟩ := id hs
  have hTs : s.TypeIs (.ref sl) "slice" := ⟨os, hos, hcs⟩
  unfold getItem
  try with_reducible refine wpAny_holding ?_
  first | refine wpAny_bind (wpAny_pure ?_) | skip
  refine wpAny_bind (wpAny_sequenceKey ht.typeIs (by decide) ?_)
  refine wpAny_bind (wpAny_callSpecial?_slot (name := Str.ofString "__getitem__") ht.typeIs PyProof.Rows.slot_tuple_getitem
    (wpAny_call_entry PyProof.Rows.slot_tuple_getitem ht.typeIs entry_tuple_getitem ?_ (args_tuple_getitem _ _)))
  show wpAny _ _ (Builtin.Tuple.tupleItemsOf (.ref t) >>= _) _ _ s
  refine wpAny_bind (tupleItemsOf_ ht ?_)
  refine wpAny_bind (wpAny_typeOf hTs ?_)
  rw [if_pos (by decide)]
  refine wpAny_bind (sliceApplied_rev hs pl pu ps ?_)
  have hno : ¬ ((((items.size : Int) - 1) == 0 && (-1 : Int) == 1 && items.size == items.size) = true) := by
    intro q
    rw [Bool.and_eq_true, Bool.and_eq_true] at q
    exact absurd q.1.2 (by decide)
  show wpAny _ _ (if (((items.size : Int) - 1) == 0 && (-1 : Int) == 1 && items.size == items.size) = true then _ else _) _ _ s
  rw [if_neg hno, rev_pick]
  first
    | exact wpAny_bind (m := Builtin.Tuple.tupleExact _) (wpAny_newObj_type (wpAny_pure ⟨_, rfl, wpAny_pure h⟩) hok)
    | exact wpAny_bind (m := Builtin.Tuple.tupleExact _) (wpAny_newObj_type (wpAny_bind (wpAny_pure (wpAny_pure ⟨_, rfl, wpAny_pure h⟩))) hok)
    | exact wpAny_bind (wpAny_bind (m := Builtin.Tuple.tupleExact _) (wpAny_newObj_type (wpAny_pure (wpAny_pure ⟨_, rfl, wpAny_pure h⟩)) hok))
    | exact wpAny_bind (wpAny_bind (m := Builtin.Tuple.tupleExact _) (wpAny_newObj_type (wpAny_pure ⟨_, rfl, wpAny_pure h⟩) hok))
end
end PD
namespace PD
open PySem PySem.Spec PyProof.Rows L2 HT
section
variable {X : Cx}
def tRevT (K : PySem.W.Frag) (te : TE) : TE := fun σ H Q => te σ H fun x H1 => ∃ a xs, x = .ref a ∧ SqT K H1 a xs ∧ ∀ p, H1 p = none → Q (.ref p) (upd H1 p (.tup xs.reverse))
theorem pe_revT {e : Expr} {te : TE} {k : Nat} {p1 p2 p3 pos : Pos} (he : PE X e te) : PE X (.Subscript e (.Slice none none (some (.UnaryOp .USub (.Constant (.int 1) k p1) p2)) p3) pos) (tRevT X.K te) := by
  refine ⟨fun pins s σ H Q I h => ?_⟩
  refine Subscript_ (thn (he.run pins s σ H _ I h) fun v s1 ⟨x, H1, I1, r1, q1⟩ => ?_)
  obtain ⟨a, xs, rfl, hx, q⟩ := q1
  cases r1
  have hst : PO X (some (.UnaryOp .USub (.Constant (.int 1) k p1) p2)) (tPart (tUn (rU fun i => .int (-i)) (tC (.int 1)))) := po_some (pe_un un_neg pe_int)
  refine wpAny_Slice (thn (po_none.run pins s1 σ H1 (fun o H2 => o = none ∧ H2 = H1) I1 ⟨rfl, rfl⟩) fun vl s2 ⟨l, H2, I2, pl, el, e2⟩ => ?_)
  subst el e2
  refine thn (po_none.run pins s2 σ H2 (fun o H3 => o = none ∧ H3 = H2) I2 ⟨rfl, rfl⟩) fun vu s3 ⟨u, H3, I3, pu, eu, e3⟩ => ?_
  subst eu e3
  refine thn (hst.run pins s3 σ H3 (fun o H4 => o = some (-1) ∧ H4 = H3) I3 ⟨1, rfl, -1, rfl, rfl, rfl⟩) fun vs s4 ⟨o, H4, I4, ps, eo, e4⟩ => ?_
  subst eo e4
  have I5 : Inv X pins σ H4 { s4 with heap := s4.heap.push { cls := .type "slice", data := .fields #[vl, vu, vs] } } := I4.kept (t' := s4.toks) fun b ob q => Heap.get?_push_of_some _ q
  obtain ⟨its, r, ht, hz⟩ := I5.tuple hx
  have hlen := r.length
  show wpAny (model X.prog X.w) X.A (subscriptTail e (.Slice none none (some (.UnaryOp .USub (.Constant (.int 1) k p1) p2)) p3) (.ref a) (.ref s4.heap.objs.size)) (EP X pins σ Q) X.xe { s4 with heap := s4.heap.push { cls := .type "slice", data := .fields #[vl, vu, vs] } }
  refine tail_any (ops := [.ref a, .ref s4.heap.objs.size]) ht.typeIs (PyProof.Rows.slot_tuple_getitem.lookup) ?_ (by with_unfolding_all rfl)
  refine getItem_tuple_rev ht (Heap.IsSliceOf.new _ vl vu vs) pl pu ps ?_ (by rw [List.size_toArray]; omega)
  refine ⟨.ref _, _, I5.laid (t' := s4.toks) (o := .tup xs.reverse) (fun b ob q => Heap.get?_push_of_some _ q) (Nat.le_refl _) ?_, rfl, q _ (I5.hok.fresh (Nat.le_refl _))⟩
  exact ⟨by rw [List.length_reverse]; exact hz, _, r.reverse, IsTup.new _ _⟩
end
end PD
namespace PD
open PySem PySem.Spec PyProof.Rows L2
theorem pe_or {X : Cx} {e : Expr} {t t' : TE} (h : PE X e t) (h' : PE X e t') : PE X e (fun σ H Q => t σ H Q ∨ t' σ H Q) :=
  ⟨fun pins s σ H Q I q => q.elim (h.run pins s σ H Q I) (h'.run pins s σ H Q I)⟩
section
variable {X : Cx} {a : Expr} {ma : Ms Va}
/-- a[::-1] -/
theorem pd_rev {k : Nat} {p1 p2 p3 pos : Pos} (ha : PE X a (tD X.K ma)) : PE X (.Subscript a (.Slice none none (some (.UnaryOp .USub (.Constant (.int 1) k p1) p2)) p3) pos) (tD X.K fun L S => bnd (ma L S) fun x S1 => lft ((revV x).map .d) S1) := by
  refine (pe_or (pe_revL ha) (pe_revT ha)).wk fun σ H Q h => ?_
  obtain ⟨g, H0, L, S, x, S', cr, e, q⟩ := h
  obtain ⟨dx, S1, e1, e⟩ := of_bnd e
  obtain ⟨d, e4, rfl, rfl⟩ := of_mapd e
  unfold revV at e4
  split at e4
  · rename_i xs
    cases e4
    refine .inr ⟨g, H0, L, S, _, _, cr, e1, fun v g1 H1 x1 s1 r1 => ?_⟩
    obtain ⟨p, ys, rfl, t, r⟩ := r1.seqT (ds := xs) rfl
    refine ⟨p, ys, rfl, t.sq, fun p' hp => ?_⟩
    obtain ⟨x4, s4, r4⟩ := new_tup s1 hp r.reverse
    exact q _ g1 _ (x1.trans x4) s4 r4
  · rename_i xs
    cases e4
    refine .inl ⟨g, H0, L, S, _, _, cr, e1, fun v g1 H1 x1 s1 r1 => ?_⟩
    obtain ⟨p, ys, rfl, t, r⟩ := r1.seqL (ds := xs) rfl
    refine ⟨p, ys, rfl, t, fun p' hp => ?_⟩
    obtain ⟨x4, s4, r4⟩ := new_lst s1 hp r.reverse
    exact q _ g1 _ (x1.trans x4) s4 r4
  · rename_i xs
    cases e4
    refine .inl ⟨g, H0, L, S, _, _, cr, e1, fun v g1 H1 x1 s1 r1 => ?_⟩
    obtain ⟨p, ys, rfl, t, r⟩ := r1.seqL (ds := xs) rfl
    refine ⟨p, ys, rfl, t, fun p' hp => ?_⟩
    obtain ⟨x4, s4, r4⟩ := new_lst s1 hp r.reverse
    exact q _ g1 _ (x1.trans x4) s4 r4
  · cases e4
end
end PD

set_option Elab.async false
set_option linter.all false
set_option maxRecDepth 100000
set_option maxHeartbeats 4000000
/-! PD, part g: targets, comprehensions, calls. -/
namespace PD
open PySem PySem.Spec PyProof.Rows L2

/-! ### targets -/
def tDG (K : PySem.W.Frag) (sl : List Nat) (pu : Bool) (m : D → Ms Loc) : TG := fun v σ H Q => ∃ g H0 L S d L' S', Cr K g H0 σ H L S ∧ Rp K g H v d ∧ m d L S = some (L', S') ∧
  ∀ σ' g' H', (∀ g0, Ext g0 H0 g H → Ext g0 H0 g' H') → ExtW g H g' H' → Cr K g' H0 σ' H' L' S' → σ'.length = σ.length → (∀ j, j ∉ sl → σ'[j]? = σ[j]?) → (pu = true → H' = H ∧ g' = g ∧ S' = S) → Q σ' H'
def tDGs (K : PySem.W.Frag) (sl : List Nat) (pu : Bool) (m : List D → Ms Loc) : TGs := fun vs σ H Q => ∃ g H0 L S ds L' S', Cr K g H0 σ H L S ∧ Rps K g H vs ds ∧ m ds L S = some (L', S') ∧
  ∀ σ' g' H', (∀ g0, Ext g0 H0 g H → Ext g0 H0 g' H') → ExtW g H g' H' → Cr K g' H0 σ' H' L' S' → σ'.length = σ.length → (∀ j, j ∉ sl → σ'[j]? = σ[j]?) → (pu = true → H' = H ∧ g' = g ∧ S' = S) → Q σ' H'
theorem _root_.L2.PG.wk {X : Cx} {e : Expr} {t t' : TG} (h : PG X e t) (w : ∀ v σ H Q, t' v σ H Q → t v σ H Q) : PG X e t' := ⟨fun pins s σ H v u Q I r q => h.run pins s σ H v u Q I r (w v σ H Q q)⟩
theorem _root_.L2.PGs.wk {X : Cx} {e : List Expr} {t t' : TGs} (h : PGs X e t) (w : ∀ v σ H Q, t' v σ H Q → t v σ H Q) : PGs X e t' := ⟨fun pins s σ H v u Q I r q => h.run pins s σ H v u Q I r (w v σ H Q q)⟩

section
variable {K : PySem.W.Frag} {g : Gh} {H0 H : Hp} {σ : L2.St} {L : Loc}
/-- a datum in a slot -/
theorem LR.set {i : Nat} {v : V} {d : D} (l : LR K g H0 σ H L) (r : Rp K g H v d) : LR K g H0 (σ.set i (some v)) H (L.set i (.dat d)) := by
  refine ⟨by rw [List.length_set, List.length_set]; exact l.len, l.old, fun j e h => ?_, fun j ds h => ?_, fun j k ds es a h1 h2 h3 h4 => ?_⟩
  · by_cases z : i = j
    · subst z
      by_cases hi : i < L.length
      · rw [List.getElem?_set_self hi] at h
        cases h
        exact ⟨v, List.getElem?_set_self (Nat.lt_of_lt_of_le hi l.len), r⟩
      · rw [List.getElem?_eq_none (by rw [List.length_set]; omega)] at h; cases h
    · rw [List.getElem?_set_ne z] at h
      obtain ⟨u, h1, h2⟩ := l.dat j e h
      exact ⟨u, by rw [List.getElem?_set_ne z]; exact h1, h2⟩
  · by_cases z : i = j
    · subst z
      by_cases hi : i < L.length
      · rw [List.getElem?_set_self hi] at h; cases h
      · rw [List.getElem?_eq_none (by rw [List.length_set]; omega)] at h; cases h
    · rw [List.getElem?_set_ne z] at h ⊢
      exact l.own j ds h
  · have ne : ∀ {m : Nat} {xs : List D}, (L.set i (.dat d))[m]? = some (.own xs) → i ≠ m := fun {m xs} h z => by
      subst z
      by_cases hi : i < L.length
      · rw [List.getElem?_set_self hi] at h; cases h
      · rw [List.getElem?_eq_none (by rw [List.length_set]; omega)] at h; cases h
    have z1 := ne h1
    have z2 := ne h2
    rw [List.getElem?_set_ne z1] at h1 h3
    rw [List.getElem?_set_ne z2] at h2 h4
    exact l.inj j k ds es a h1 h2 h3 h4
theorem Cr.set {S : Store} {i : Nat} {v : V} {d : D} (c : Cr K g H0 σ H L S) (r : Rp K g H v d) : Cr K g H0 (σ.set i (some v)) H (L.set i (.dat d)) S := ⟨c.s, c.l.set r⟩
/-- a list of one's own in a slot: p stands in no other slot -/
theorem LR.setOwn {i : Nat} {p : Addr} {xs : List V} {ds : List D} (l : LR K g H0 σ H L) (hp : H p = some (.lst xs)) (r : Rps K g H xs ds) (w : g.W p) (n : p ∉ g.ca) (z0 : H0 p = none)
    (ne : ∀ (j : Nat) es, L[j]? = some (.own es) → j ≠ i → σ[j]? ≠ some (some (.ref p))) : LR K g H0 (σ.set i (some (.ref p))) H (L.set i (.own ds)) := by
  have at_i : ∀ {m : Nat} {x : Lv}, (L.set i (.own ds))[m]? = some x → i = m → m < L.length ∧ x = .own ds := fun {m x} h z => by
    subst z
    by_cases hi : i < L.length
    · rw [List.getElem?_set_self hi] at h; cases h; exact ⟨hi, rfl⟩
    · rw [List.getElem?_eq_none (by rw [List.length_set]; omega)] at h; cases h
  refine ⟨by rw [List.length_set, List.length_set]; exact l.len, l.old, fun j e h => ?_, fun j es h => ?_, fun j k es fs a h1 h2 h3 h4 => ?_⟩
  · by_cases z : i = j
    · obtain ⟨_, e⟩ := at_i h z; cases e
    · rw [List.getElem?_set_ne z] at h ⊢
      exact l.dat j e h
  · by_cases z : i = j
    · obtain ⟨hi, e⟩ := at_i h z
      cases e
      subst z
      exact ⟨p, xs, List.getElem?_set_self (Nat.lt_of_lt_of_le hi l.len), hp, r, w, n, z0⟩
    · rw [List.getElem?_set_ne z] at h ⊢
      exact l.own j es h
  · by_cases z1 : i = j
    · by_cases z2 : i = k
      · rw [← z1, ← z2]
      · exfalso
        obtain ⟨hi, _⟩ := at_i h1 z1
        subst z1
        rw [List.getElem?_set_self (Nat.lt_of_lt_of_le hi l.len)] at h3
        cases h3
        rw [List.getElem?_set_ne z2] at h2 h4
        exact ne k fs h2 (Ne.symm z2) h4
    · by_cases z2 : i = k
      · exfalso
        obtain ⟨hi, _⟩ := at_i h2 z2
        subst z2
        rw [List.getElem?_set_self (Nat.lt_of_lt_of_le hi l.len)] at h4
        cases h4
        rw [List.getElem?_set_ne z1] at h1 h3
        exact ne j es h1 (Ne.symm z1) h3
      · rw [List.getElem?_set_ne z1] at h1 h3
        rw [List.getElem?_set_ne z2] at h2 h4
        exact l.inj j k es fs a h1 h2 h3 h4
/-- the list in slot i is written -/
theorem LR.upOwn {i : Nat} {p : Addr} {xs : List V} {ds es : List D} (l : LR K g H0 σ H L) (hi : L[i]? = some (.own es)) (hs : σ[i]? = some (some (.ref p))) (r : Rps K g H xs ds) :
    LR K g H0 σ (upd H p (.lst xs)) (L.set i (.own ds)) := by
  obtain ⟨a, ys, h1, h2, _, w, n, z0⟩ := l.own i es hi
  rw [hs] at h1; cases h1
  have hl : i < L.length := (List.getElem?_eq_some_iff.mp hi).1
  refine ⟨by rw [List.length_set]; exact l.len, old_upd l.old, fun j e h => ?_, fun j fs h => ?_, fun j k fs gs a h1 h2 h3 h4 => ?_⟩
  · by_cases z : i = j
    · subst z; rw [List.getElem?_set_self hl] at h; cases h
    · rw [List.getElem?_set_ne z] at h
      obtain ⟨u, q1, q2⟩ := l.dat j e h
      exact ⟨u, q1, Rp.wrote w q2⟩
  · by_cases z : i = j
    · subst z
      rw [List.getElem?_set_self hl] at h
      cases h
      exact ⟨p, xs, hs, upd_same, Rps.wrote w r, w, n, z0⟩
    · rw [List.getElem?_set_ne z] at h
      obtain ⟨b, zs, q1, q2, q3, q4, q5, q6⟩ := l.own j fs h
      have ne : b ≠ p := fun q => z (l.inj i j es fs p hi h hs (by rw [← q]; exact q1))
      exact ⟨b, zs, q1, by rw [upd_ne ne]; exact q2, Rps.wrote w q3, q4, q5, q6⟩
  · have back : ∀ {m : Nat} {us : List D}, (L.set i (.own ds))[m]? = some (.own us) → ∃ us', L[m]? = some (.own us') := fun {m us} h => by
      by_cases z : i = m
      · subst z; exact ⟨es, hi⟩
      · rw [List.getElem?_set_ne z] at h; exact ⟨us, h⟩
    obtain ⟨_, q1⟩ := back h1
    obtain ⟨_, q2⟩ := back h2
    exact l.inj j k _ _ a q1 q2 h3 h4
/-- a cell is written -/
theorem LR.cell {p : Addr} {o : HO} (l : LR K g H0 σ H L) (w : g.W p) (hc : p ∈ g.ca) : LR K g H0 σ (upd H p o) L := by
  refine ⟨l.len, old_upd l.old, fun j e h => ?_, fun j fs h => ?_, l.inj⟩
  · obtain ⟨u, q1, q2⟩ := l.dat j e h
    exact ⟨u, q1, Rp.wrote w q2⟩
  · obtain ⟨b, zs, q1, q2, q3, q4, q5, q6⟩ := l.own j fs h
    have ne : b ≠ p := fun q => q5 (by rw [q]; exact hc)
    exact ⟨b, zs, q1, by rw [upd_ne ne]; exact q2, Rps.wrote w q3, q4, q5, q6⟩
/-- the list in slot i is left as it is -/
theorem LR.freeze {i : Nat} {p : Addr} {es : List D} (l : LR K g H0 σ H L) (hi : L[i]? = some (.own es)) (hs : σ[i]? = some (some (.ref p))) : LR K (g.minus p) H0 σ H (L.set i (.dat (.lst es))) := by
  obtain ⟨a, ys, h1, h2, r, w, n, z0⟩ := l.own i es hi
  rw [hs] at h1; cases h1
  have hl : i < L.length := (List.getElem?_eq_some_iff.mp hi).1
  refine ⟨by rw [List.length_set]; exact l.len, l.old, fun j e h => ?_, fun j fs h => ?_, fun j k fs gs a h1 h2 h3 h4 => ?_⟩
  · by_cases z : i = j
    · subst z
      rw [List.getElem?_set_self hl] at h
      cases h
      exact ⟨_, hs, .lst (.inl ⟨.inl h2, fun q => q.2 rfl⟩) r.minus⟩
    · rw [List.getElem?_set_ne z] at h
      obtain ⟨u, q1, q2⟩ := l.dat j e h
      exact ⟨u, q1, q2.minus⟩
  · by_cases z : i = j
    · subst z; rw [List.getElem?_set_self hl] at h; cases h
    · rw [List.getElem?_set_ne z] at h
      obtain ⟨b, zs, q1, q2, q3, q4, q5, q6⟩ := l.own j fs h
      have ne : b ≠ p := fun q => z (l.inj i j es fs p hi h hs (by rw [← q]; exact q1))
      exact ⟨b, zs, q1, q2, q3.minus, ⟨q4, ne⟩, q5, q6⟩
  · have back : ∀ {m : Nat} {us : List D}, (L.set i (.dat (.lst es)))[m]? = some (.own us) → L[m]? = some (.own us) := fun {m us} h => by
      by_cases z : i = m
      · subst z; rw [List.getElem?_set_self hl] at h; cases h
      · rw [List.getElem?_set_ne z] at h; exact h
    exact l.inj j k _ _ a (back h1) (back h2) h3 h4
end

section
variable {X : Cx} {e a b c : Expr} {es : List Expr} {ma mb mc : Ms Va} {mes : Ms (List Va)} {mf : Ms (List D)} {pos p : Pos} {x : Str}
theorem pg_nm {i : Nat} (hN : X.N.Nodup) (hi : X.N[i]? = some x) (hx : L2.Loc X.env.scope x) (hf : X.fn x = true ∨ X.env.scope.names.lookup x = some .local) :
    PG X (.Name x pos) (tDG X.K [i] true fun d L S => some (L.set i (.dat d), S)) := by
  refine (pg_name hN hi hx hf).wk fun v σ H Q h => ?_
  obtain ⟨g, H0, L, S, d, L', S', cr, r, e, q⟩ := h
  cases e
  exact q _ g H (fun _ z => z) ExtW.refl (cr.set r) (List.length_set ..) (fun j hj => List.getElem?_set_ne (fun z => hj (by simp [z]))) fun _ => ⟨rfl, rfl, rfl⟩
theorem pgs_nilD : PGs X [] (tDGs X.K [] true fun ds L S => match ds with | [] => some (L, S) | _ => none) := by
  refine pgs_nil.wk fun vs σ H Q h => ?_
  obtain ⟨g, H0, L, S, ds, L', S', cr, r, e, q⟩ := h
  cases r with
  | nil =>
    cases e
    exact ⟨rfl, q σ g H (fun _ z => z) ExtW.refl cr rfl (fun _ _ => rfl) fun _ => ⟨rfl, rfl, rfl⟩⟩
  | cons _ _ => cases e
variable {sl sl' : List Nat} {pu pu' : Bool} {mg : D → Ms Loc} {mgs : List D → Ms Loc}
theorem pgs_consD (h1 : PG X e (tDG X.K sl pu mg)) (h2 : PGs X es (tDGs X.K sl' pu' mgs)) (hs : (assignEach (e :: es) X.env).map (·.2) = assign e X.env :: (assignEach es X.env).map (·.2)) :
    PGs X (e :: es) (tDGs X.K (sl ++ sl') (pu && pu') fun ds L S => match ds with | d :: ds => bnd (mg d L S) fun L1 S1 => mgs ds L1 S1 | _ => none) := by
  refine (pgs_cons h1 h2 hs).wk fun vs σ H Q h => ?_
  obtain ⟨g, H0, L, S, ds, L', S', cr, r, e, q⟩ := h
  cases r with
  | nil => cases e
  | @cons v vs d ds r rs =>
    obtain ⟨L1, S1, e1, e⟩ := of_bnd e
    refine ⟨v, vs, rfl, g, H0, L, S, d, L1, S1, cr, r, e1, fun σ1 g1 H1 x1 w1 c1 l1 o1 p1 => ⟨g1, H0, L1, S1, ds, L', S', c1, Rps.extW w1 rs, e, fun σ2 g2 H2 x2 w2 c2 l2 o2 p2 => ?_⟩⟩
    refine q σ2 g2 H2 (fun g0 z => x2 g0 (x1 g0 z)) (w1.trans w2) c2 (l2.trans l1) (fun j hj => ?_) fun hp => ?_
    · rw [List.mem_append, not_or] at hj
      rw [o2 j hj.2, o1 j hj.1]
    · rw [Bool.and_eq_true] at hp
      obtain ⟨rfl, rfl, rfl⟩ := p1 hp.1
      exact p2 hp.2
theorem pg_or {t t' : TG} (h : PG X e t) (h' : PG X e t') : PG X e (fun v σ H Q => t v σ H Q ∨ t' v σ H Q) :=
  ⟨fun pins s σ H v u Q I r q => q.elim (h.run pins s σ H v u Q I r) (h'.run pins s σ H v u Q I r)⟩
theorem pg_tupD {k n : Nat} (hc : X.calm = true) (hl : ∀ ds L S r, mgs ds L S = some r → ds.length = n) (h : PGs X es (tDGs X.K sl pu mgs)) (hn : (assignEach es X.env).length = n) (hst : (assignEach es X.env).findIdx? (·.1) = none) :
    PG X (.Tuple es k pos) (tDG X.K sl pu fun d L S => match d with | .tup ds => mgs ds L S | .lst ds => mgs ds L S | _ => none) := by
  refine (pg_or (pg_tup hc h hn hst) (pg_lst hc h hn hst)).wk fun v σ H Q h => ?_
  obtain ⟨g, H0, L, S, d, L', S', cr, r, e, q⟩ := h
  cases r with
  | tup t r => exact .inl ⟨_, _, rfl, t.sq, by rw [r.length]; exact hl _ _ _ _ e, g, H0, L, S, _, L', S', cr, r, e, q⟩
  | lst t r => exact .inr ⟨_, _, rfl, t.sq, by rw [r.length]; exact hl _ _ _ _ e, g, H0, L, S, _, L', S', cr, r, e, q⟩
  | _ => cases e
/-- x[i] = .. of a list of one's own, of a cell -/
theorem pg_subD {i : Nat} (hN : X.N[i]? = some x) (hv : Vis X.env.scope x) (hd : (x == ("__debug__" : Str)) = false) (hcd : (x == ("__classdict__" : Str)) = false) (hb : PE X b (tD X.K mb))
    (ha : ∀ v, assign (.Subscript (.Name x p) b pos) X.env v = (do
      let ov ← holding [v] (eval (.Name x p) X.env)
      let iv ← holding [v, ov] (eval b X.env)
      standAt pos
      holding [v, ov, iv] (setItem ov iv v)
      release [v, ov, iv] [])) :
    PG X (.Subscript (.Name x p) b pos) (tDG X.K [] false fun d L S => bnd (mb L S) fun y S1 => match y with
      | .d (.int k) => match L[i]? with
        | some (.own xs) => match ixN xs.length k with | some j => some (L.set i (.own (xs.set j d)), S1) | none => none
        | some (.dat (.cell n)) => match S1[n]? with
          | some xs => match ixN xs.length k with | some j => some (L, S1.set n (xs.set j d)) | none => none
          | none => none
        | _ => none
      | _ => none) := by
  refine (pg_sub (pe_var hN hv hd hcd) hb set_list ha).wk fun v σ H Q h => ?_
  obtain ⟨g, H0, L, S, d, L', S', cr, r, e, q⟩ := h
  obtain ⟨y, S1, e1, e⟩ := of_bnd e
  split at e
  · rename_i k
    split at e
    · rename_i ds hi
      split at e
      · rename_i j hj
        cases e
        obtain ⟨a, xs, h1, h2, r2, w, n, z0⟩ := cr.l.own i ds hi
        refine ⟨_, h1, g, H0, L, S, _, _, cr, e1, fun u g1 H1 x1 s1 r1 => ?_⟩
        have c1 := cr.ext x1 s1
        obtain ⟨a', xs', h1', h2', r2', w', n', z0'⟩ := c1.l.own i ds hi
        rw [h1] at h1'; cases h1'
        have rd := r.ext x1 cr.s.cw
        refine ⟨a, xs', k, j, rfl, r1.intV, h2', by rw [r2'.length]; exact hj, ?_⟩
        exact q σ g1 _ (fun g0 z => ((z.trans x1)).wroteNew z0') ((x1.w cr.s.cw).trans (ExtW.wrote w')) ⟨s1.wrote w' n', c1.l.upOwn hi h1 (r2'.set rd j)⟩ rfl (fun _ _ => rfl) fun z => by cases z
      · cases e
    · rename_i m hi
      split at e
      · rename_i ds hm
        split at e
        · rename_i j hj
          cases e
          obtain ⟨v0, h1, rc⟩ := cr.l.dat i _ hi
          refine ⟨_, h1, g, H0, L, S, _, _, cr, e1, fun u g1 H1 x1 s1 r1 => ?_⟩
          have c1 := cr.ext x1 s1
          have rc1 := rc.ext x1 cr.s.cw
          cases rc1 with
          | @cell a _ hc =>
            obtain ⟨xs, h2, r2⟩ := s1.st m a ds hc hm
            have rd := r.ext x1 cr.s.cw
            have hm' : a ∈ g1.ca := List.mem_of_getElem? hc
            refine ⟨a, xs, k, j, rfl, r1.intV, h2, by rw [r2.length]; exact hj, ?_⟩
            exact q σ g1 _ (fun g0 z => (z.trans x1).trans (Ext.wrote h2 hm')) ((x1.w cr.s.cw).trans (ExtW.wrote (s1.cw a hm'))) ⟨s1.cell hc (r2.set rd j), c1.l.cell (s1.cw a hm') hm'⟩ rfl (fun _ _ => rfl) fun z => by cases z
        · cases e
      · cases e
    · cases e
  · cases e

/-- e[i] = .. of a cell -/
theorem pg_sbxD {o : Expr} (ho : PE X o (tD X.K ma)) (hb : PE X b (tD X.K mb))
    (ha : ∀ v, assign (.Subscript o b pos) X.env v = (do
      let ov ← holding [v] (eval o X.env)
      let iv ← holding [v, ov] (eval b X.env)
      standAt pos
      holding [v, ov, iv] (setItem ov iv v)
      release [v, ov, iv] [])) :
    PG X (.Subscript o b pos) (tDG X.K [] false fun d L S => bnd (ma L S) fun x S1 => bnd (mb L S1) fun y S2 => match x, y with
      | .d (.cell n), .d (.int k) => match S2[n]? with
        | some xs => match ixN xs.length k with | some j => some (L, S2.set n (xs.set j d)) | none => none
        | none => none
      | _, _ => none) := by
  refine (pg_sub ho hb set_list ha).wk fun v σ H Q h => ?_
  obtain ⟨g, H0, L, S, d, L', S', cr, r, e, q⟩ := h
  obtain ⟨x, S1, e1, e⟩ := of_bnd e
  obtain ⟨y, S2, e2, e⟩ := of_bnd e
  split at e
  · rename_i m k _
    split at e
    · rename_i ds hm
      split at e
      · rename_i j hj
        cases e
        refine ⟨g, H0, L, S, _, _, cr, e1, fun u g1 H1 x1 s1 r1 => ⟨g1, H0, L, S1, _, _, cr.ext x1 s1, e2, fun w g2 H2 x2 s2 r2 => ?_⟩⟩
        have c2 := (cr.ext x1 s1).ext x2 s2
        have rc : Rp X.K g2 H2 u (.cell m) := Rp.ext x2 s1.cw r1
        have rd : Rp X.K g2 H2 v d := (r.ext x1 cr.s.cw).ext x2 s1.cw
        cases rc with
        | @cell a _ hc =>
          obtain ⟨xs, h2, r3⟩ := s2.st m a ds hc hm
          have hm' : a ∈ g2.ca := List.mem_of_getElem? hc
          refine ⟨a, xs, k, j, rfl, r2.intV, h2, by rw [r3.length]; exact hj, ?_⟩
          exact q σ g2 _ (fun g0 z => ((z.trans x1).trans x2).trans (Ext.wrote h2 hm')) (((x1.w cr.s.cw).trans (x2.w s1.cw)).trans (ExtW.wrote (s2.cw a hm'))) ⟨s2.cell hc (r3.set rd j), c2.l.cell (s2.cw a hm') hm'⟩ rfl (fun _ _ => rfl) fun z => by cases z
      · cases e
    · cases e
  · cases e

/-! ### comprehensions -/
theorem wipeL_get {L : Loc} {i : Nat} {x : Lv} : ∀ {vs : List Nat}, (wipeL L vs)[i]? = some x → x = .un ∨ (L[i]? = some x ∧ i ∉ vs)
  | [], h => .inr ⟨h, by simp⟩
  | v :: vs, h => by
    unfold wipeL at h
    by_cases hi : v = i
    · subst hi
      by_cases hv : v < (wipeL L vs).length
      · rw [List.getElem?_set_self hv] at h; cases h; exact .inl rfl
      · rw [List.getElem?_eq_none (by rw [List.length_set]; omega)] at h; cases h
    · rw [List.getElem?_set_ne hi] at h
      rcases wipeL_get h with h | ⟨h1, h2⟩
      · exact .inl h
      · exact .inr ⟨h1, by simp only [List.mem_cons, not_or]; exact ⟨fun z => hi z.symm, h2⟩⟩
theorem wipeL_len (L : Loc) : ∀ vs : List Nat, (wipeL L vs).length = L.length
  | [] => rfl
  | v :: vs => by unfold wipeL; rw [List.length_set, wipeL_len L vs]
theorem LR.wipe {K : PySem.W.Frag} {g : Gh} {H0 H : Hp} {σ : L2.St} {L : Loc} (l : LR K g H0 σ H L) (vs : List Nat) : LR K g H0 (L2.wipe σ vs) H (wipeL L vs) := by
  refine ⟨by rw [wipeL_len, wipe_length]; exact l.len, l.old, fun i d h => ?_, fun i ds h => ?_, fun i j ds es a h1 h2 h3 h4 => ?_⟩
  · rcases wipeL_get h with h | ⟨h, n⟩
    · cases h
    · rw [wipe_out n]; exact l.dat i d h
  · rcases wipeL_get h with h | ⟨h, n⟩
    · cases h
    · rw [wipe_out n]; exact l.own i ds h
  · rcases wipeL_get h1 with h1 | ⟨h1, n1⟩
    · cases h1
    · rcases wipeL_get h2 with h2 | ⟨h2, n2⟩
      · cases h2
      · rw [wipe_out n1] at h3
        rw [wipe_out n2] at h4
        exact l.inj i j ds es a h1 h2 h3 h4
theorem wipe_same {σ σ' : L2.St} {vs : List Nat} (hl : σ'.length = σ.length) (h : ∀ j, j ∉ vs → σ'[j]? = σ[j]?) : L2.wipe σ' vs = L2.wipe σ vs := by
  have in_ : ∀ {τ : L2.St} {i : Nat} {vs : List Nat}, i ∈ vs → (L2.wipe τ vs)[i]? = if i < τ.length then some none else none := by
    intro τ i vs
    induction vs with
    | nil => intro h; simp at h
    | cons v vs ih =>
      intro h
      unfold L2.wipe
      by_cases z : v = i
      · subst z
        by_cases hv : v < τ.length
        · rw [List.getElem?_set_self (by rw [wipe_length]; exact hv), if_pos hv]
        · rw [List.getElem?_eq_none (by rw [List.length_set, wipe_length]; omega), if_neg hv]
      · rw [List.getElem?_set_ne z]
        exact ih ((List.mem_cons.mp h).resolve_left fun q => z q.symm)
  refine List.ext_getElem? fun i => ?_
  by_cases hi : i ∈ vs
  · rw [in_ hi, in_ hi, hl]
  · rw [wipe_out hi, wipe_out hi, h i hi]
def mC (t : D → Ms Loc) (c : Ms Bool) (elt : Ms Va) (L : Loc) (d : D) (S : Store) : Option (Option D × Store) :=
  bnd (t d L S) fun Lb S => bnd (c Lb S) fun k S => if k = true then bnd (elt Lb S) fun x S => bnd (lft (unV x) S) fun y S => some (some y, S) else some (none, S)
theorem Ext.wroteD {g g' : Gh} {H H' : Hp} {p : Addr} {o : HO} (e : Ext g H g' H') (h : H p = none) : Ext g H g' (upd H' p o) := e.wroteNew h
theorem comp_wk {own : List (Str × Nat)} {mw : Ms (List D)} {mt : Ms Bool} {me : Ms Va} (hsl : ∀ j ∈ sl, j ∈ own.map (·.2)) (σ : L2.St) (H : Hp) (Q : VK)
    (h : tDF X.K (fun L S => bnd (mw L S) fun ds S1 => if ds.length < line then compL (mC mg mt me (wipeL L (own.map (·.2)))) ds S1 else none) σ H Q) :
    tLc (tDI X.K true mw) (tDG X.K sl true mg) (tDT X.K mt) (tD X.K me) (own.map (·.2)) σ H Q := by
  obtain ⟨g, H0, L, S, xs, S', cr, e, q⟩ := h
  obtain ⟨ds, S1, e1, e⟩ := of_bnd e
  split at e
  · rename_i hz
    refine ⟨g, H0, L, S, ds, S1, cr, e1, fun J g1 H1 x1 s1 j D hD => ?_⟩
    have c1 := cr.ext x1 s1
    refine ⟨fun i m H2 => m = ds.length - i ∧ i ≤ ds.length ∧ ∃ g2 S2 acc done rs, Ext g1 H1 g2 H2 ∧ Gs X.K g2 H2 S2 ∧ H2 D = some (.lst acc) ∧ Rps X.K g2 H2 acc done ∧ done.length ≤ i ∧ g2.W D ∧ D ∉ g2.ca ∧
        compL (mC mg mt me (wipeL L (own.map (·.2)))) (ds.drop i) S2 = some (rs, S') ∧ done ++ rs = xs, ⟨ds.length, by simp, Nat.zero_le _, ?_⟩, ?_⟩
    · obtain ⟨x2, s2⟩ := new_own (xs := []) s1 hD
      exact ⟨g1.plus D, S1, [], [], xs, x2, s2, upd_same, .nil, Nat.le_refl _, .inr rfl, fun z => s1.nw hD (s1.cw D z), by simpa using e, rfl⟩
    · rintro i m H2 ⟨rfl, hi, g2, S2, acc, done, rs, x2, s2, hD2, r2, hl2, w2, n2, e2, e3⟩
      have jj := j g2 H2 S2 (by simpa using x2) s2
      by_cases hlt : i < ds.length
      · right
        obtain ⟨go, yl⟩ := jj.1 i ds[i] (by simp [hlt])
        rw [List.drop_eq_getElem_cons hlt] at e2
        unfold compL at e2
        obtain ⟨r, S3, e4, e2⟩ := of_bnd e2
        obtain ⟨rs', S4, e5, e2⟩ := of_bnd e2
        cases e2
        unfold mC at e4
        obtain ⟨Lb, S5, e6, e4⟩ := of_bnd e4
        obtain ⟨k, S6, e7, e4⟩ := of_bnd e4
        refine ⟨go, fun H' => i + 1 ≤ ds.length ∧ ∃ g2 S2 acc done rs, Ext g1 H1 g2 H' ∧ Gs X.K g2 H' S2 ∧ H' D = some (.lst acc) ∧ Rps X.K g2 H' acc done ∧ done.length ≤ i + 1 ∧ g2.W D ∧ D ∉ g2.ca ∧
          compL (mC mg mt me (wipeL L (own.map (·.2)))) (ds.drop (i + 1)) S2 = some (rs, S') ∧ done ++ rs = xs, fun H' hH => ⟨ds.length - (i + 1), by omega, rfl, hH⟩, fun x H3 y => ?_⟩
        obtain ⟨x3, s3, r3⟩ := yl x H3 y
        have c3 : Cr X.K g2 H0 (L2.wipe σ (own.map (·.2))) H3 (wipeL L (own.map (·.2))) S2 := ⟨s3, ((c1.l.ext x2 s1.cw).ext x3 s2.cw).wipe _⟩
        refine ⟨g2, H0, _, S2, _, Lb, S5, c3, r3, e6, fun σ4 g4 H4 _ w4 c4 l4 o4 p4 => ?_⟩
        obtain ⟨rfl, rfl, rfl⟩ := p4 rfl
        refine ⟨?_, ?_⟩
        · rw [wipe_same l4 fun j hj => o4 j fun z => hj (hsl j z)]
          exact wipe_same (wipe_length _ _) fun j hj => wipe_out hj
        · refine ⟨g4, H0, Lb, S5, k, S6, c4, e7, fun g5 H5 x5 s5 => ?_⟩
          have hD3 : H4 D = some (.lst acc) := x3.keep _ _ hD2 n2
          have n5 : D ∉ g5.ca := fun z => (x5.new D z).elim n2 fun q => by rw [hD3] at q; cases q
          have w5 : g5.W D := (x5.wk _ _ hD3).mpr w2
          have r5 : Rps X.K g5 H5 acc done := Rps.ext x5 s3.cw (Rps.ext x3 s2.cw r2)
          cases k with
          | false =>
            simp only [Bool.false_eq_true, if_false] at e4 ⊢
            cases e4
            exact ⟨by omega, g5, _, acc, done, rs', (x2.trans x3).trans x5, s5, x5.keep _ _ hD3 n2, r5, by omega, w5, n5, e5, e3⟩
          | true =>
            simp only [if_true] at e4 ⊢
            obtain ⟨y0, S7, e8, e4⟩ := of_bnd e4
            obtain ⟨y1, S8, e9, e4⟩ := of_bnd e4
            cases e4
            obtain ⟨e9, rfl⟩ := of_lft e9
            refine ⟨g5, H0, Lb, S6, y0, _, c4.ext x5 s5, e8, fun v g6 H6 x6 s6 r6 => ?_⟩
            have hD5 := x5.keep _ _ hD3 n2
            have hD6 := x6.keep _ _ hD5 n5
            have n6 : D ∉ g6.ca := fun z => (x6.new D z).elim n5 fun q => by rw [hD5] at q; cases q
            have w6 : g6.W D := (x6.wk _ _ hD5).mpr w5
            have rr := Rps.ext x6 s5.cw r5
            have ry : Rp X.K g6 H6 v y1 := by
              cases y0 with
              | d z => cases e9; exact r6
              | b z => cases e9
            refine ⟨acc, hD6, by rw [rr.length, line_eq]; omega, by omega, g6, _, acc ++ [v], done ++ [y1], rs', (((x2.trans x3).trans x5).trans x6).wroteNew hD, s6.wrote w6 n6, upd_same, Rps.wrote w6 (rr.append (.cons ry .nil)), ?_, w6, n6, e5, ?_⟩
            · rw [List.length_append, List.length_singleton]; omega
            · rw [List.append_assoc]; exact e3
      · left
        have ei : i = ds.length := by omega
        subst ei
        refine ⟨jj.2, ?_⟩
        rw [List.drop_length] at e2
        cases e2
        rw [List.append_nil] at e3
        subst e3
        refine q D acc g2 H2 (x1.trans x2) s2 hD2 r2 w2 n2 ?_
        cases z : H D with
        | none => rfl
        | some o =>
          obtain ⟨o', z'⟩ := x1.there D o z
          rw [hD] at z'; cases z'
  · cases e
/-- [elt for t in w if c] -/
theorem pf_comp {elt tg iter : Expr} {ifs : List Expr} {scope : Scope} {own : List (Str × Nat)} {mw : Ms (List D)} {mt : Ms Bool} {me : Ms Va} (hc : X.calm = true) (hN : X.N.Nodup) (hi : PI X tg iter (tDI X.K true mw)) (ok : BlkOk X.N X.env.scope scope own)
    (hsl : ∀ j ∈ sl, j ∈ own.map (·.2))
    (hg : ∀ (s : Shared) (H : Hp) (C : Addr) (cl : List (Str × Addr)) (fp : List Addr), PG (X.blk s H scope (compEnvC scope cl C X.env) fp) tg (tDG X.K sl true mg))
    (ht : ∀ (s : Shared) (H : Hp) (C : Addr) (cl : List (Str × Addr)) (fp : List Addr), PTs (X.blk s H scope (compEnvC scope cl C X.env) fp) ifs (tDT X.K mt))
    (he : ∀ (s : Shared) (H : Hp) (C : Addr) (cl : List (Str × Addr)) (fp : List Addr), PE (X.blk s H scope (compEnvC scope cl C X.env) fp) elt (tD X.K me)) (hs : ∀ x, foldedSetIterable iter X.env x = pure x) :
    PE X (.ListComp elt [⟨tg, iter, ifs, 0⟩] scope pos) (tDF X.K fun L S => bnd (mw L S) fun ds S1 => if ds.length < line then compL (mC mg mt me (wipeL L (own.map (·.2)))) ds S1 else none) :=
  (pe_lc hc hN hi ok hg ht he hs).wk (comp_wk hsl)
/-- the same over a list that may be changed, but is not meanwhile -/
noncomputable def mS (n : Nat) (ds : List D) (f : D → Store → Option (Option D × Store)) (d : D) (S : Store) : Option (Option D × Store) := if sameC S n ds = true then f d S else none
theorem comp_wkC {own : List (Str × Nat)} {ma : Ms Va} {mt : Ms Bool} {me : Ms Va} (hsl : ∀ j ∈ sl, j ∈ own.map (·.2)) (σ : L2.St) (H : Hp) (Q : VK)
    (h : tDF X.K (fun L S => bnd (ma L S) fun x S1 => bnd (lft (cellOf x S1) S1) fun p S1 => if p.2.length < line then bnd (compL (mS p.1 p.2 (mC mg mt me (wipeL L (own.map (·.2))))) p.2 S1) fun xs S2 => if sameC S2 p.1 p.2 = true then some (xs, S2) else none else none) σ H Q) :
    tLc (iList X.K (tD X.K ma)) (tDG X.K sl true mg) (tDT X.K mt) (tD X.K me) (own.map (·.2)) σ H Q := by
  obtain ⟨g, H0, L, S, xs, S', cr, e, q⟩ := h
  obtain ⟨dx, S1, e1, e2⟩ := of_bnd e
  obtain ⟨⟨n, ds⟩, S1', e3, e4⟩ := of_bnd e2
  obtain ⟨e5, eS⟩ := of_lft e3
  subst eS
  have e0 : (if ds.length < line then bnd (compL (mS n ds (mC mg mt me (wipeL L (own.map (·.2))))) ds S1') fun xs S2 => if sameC S2 n ds = true then some (xs, S2) else none else none) = some (xs, S') := e4
  clear e e2 e4
  have e := e0
  clear e0
  split at e
  · rename_i hz
    obtain ⟨xs', S3, e6, e7⟩ := of_bnd e
    split at e7
    · rename_i hfin
      cases e7
      have hfin := of_sameC hfin
      unfold cellOf at e5
      split at e5
      · rename_i n'
        cases k : S1'[n']? with
        | none => rw [k] at e5; cases e5
        | some ds' =>
          rw [k] at e5
          cases e5
          refine ⟨g, H0, L, S, _, S1', cr, e1, fun v g1 H1 x1 s1 r1 => ?_⟩
          have r1 : Rp X.K g1 H1 v (.cell n) := r1
          cases r1 with
          | @cell a _ hca =>
            obtain ⟨ys, hy, _⟩ := s1.st n a ds hca k
            have c1 := cr.ext x1 s1
            refine ⟨a, rfl, ⟨ys, SqL.of hy⟩, fun D hD => ?_⟩
            refine ⟨fun i m H2 => m = ds.length - i ∧ i ≤ ds.length ∧ ∃ g2 S2 acc done rs, Ext g1 H1 g2 H2 ∧ Gs X.K g2 H2 S2 ∧ H2 D = some (.lst acc) ∧ Rps X.K g2 H2 acc done ∧ done.length ≤ i ∧ g2.W D ∧ D ∉ g2.ca ∧
                compL (mS n ds (mC mg mt me (wipeL L (own.map (·.2))))) (ds.drop i) S2 = some (rs, S') ∧ done ++ rs = xs, ⟨ds.length, by simp, Nat.zero_le _, ?_⟩, ?_⟩
            · obtain ⟨x2, s2⟩ := new_own (xs := []) s1 hD
              exact ⟨g1.plus D, S1', [], [], xs, x2, s2, upd_same, .nil, Nat.le_refl _, .inr rfl, fun z => s1.nw hD (s1.cw D z), by simpa using e6, rfl⟩
            · rintro i m H2 ⟨rfl, hi, g2, S2, acc, done, rs, x2, s2, hD2, r2, hl2, w2, n2, e2, e3⟩
              have hc2 : g2.ca[n]? = some a := by
                obtain ⟨mm, em⟩ := (x2.w s1.cw).ca
                rw [em, List.getElem?_append_left (List.getElem?_eq_some_iff.mp hca).1]
                exact hca
              by_cases hlt : i < ds.length
              · right
                rw [List.drop_eq_getElem_cons hlt] at e2
                unfold compL at e2
                obtain ⟨r, S3, e4, e2⟩ := of_bnd e2
                obtain ⟨rs', S4, e5, e2⟩ := of_bnd e2
                cases e2
                unfold mS at e4
                split at e4
                · rename_i hsame
                  have hsame := of_sameC hsame
                  obtain ⟨zs, hx, rx⟩ := s2.st n a ds hc2 hsame
                  obtain ⟨u, hu, ru⟩ := rx.get (i := i) (d := ds[i]) (by simp [hlt])
                  unfold mC at e4
                  obtain ⟨Lb, S5, e6, e4⟩ := of_bnd e4
                  obtain ⟨k, S6, e7, e4⟩ := of_bnd e4
                  refine ⟨⟨zs, u, SqL.of hx, hu⟩, fun H' => i + 1 ≤ ds.length ∧ ∃ g2 S2 acc done rs, Ext g1 H1 g2 H' ∧ Gs X.K g2 H' S2 ∧ H' D = some (.lst acc) ∧ Rps X.K g2 H' acc done ∧ done.length ≤ i + 1 ∧ g2.W D ∧ D ∉ g2.ca ∧
                    compL (mS n ds (mC mg mt me (wipeL L (own.map (·.2))))) (ds.drop (i + 1)) S2 = some (rs, S') ∧ done ++ rs = xs, fun H' hH => ⟨ds.length - (i + 1), by omega, rfl, hH⟩, fun x H3 y => ?_⟩
                  obtain ⟨rfl, y⟩ := y
                  have yy := y zs (SqL.of hx)
                  rw [hu] at yy
                  cases yy
                  have c3 : Cr X.K g2 H0 (L2.wipe σ (own.map (·.2))) _ (wipeL L (own.map (·.2))) S2 := ⟨s2, (c1.l.ext x2 s1.cw).wipe _⟩
                  refine ⟨g2, H0, _, S2, _, Lb, S5, c3, ru, e6, fun σ4 g4 H4 _ w4 c4 l4 o4 p4 => ?_⟩
                  obtain ⟨rfl, rfl, rfl⟩ := p4 rfl
                  refine ⟨?_, ?_⟩
                  · rw [wipe_same l4 fun j hj => o4 j fun z => hj (hsl j z)]
                    exact wipe_same (wipe_length _ _) fun j hj => wipe_out hj
                  · refine ⟨g4, H0, Lb, S5, k, S6, c4, e7, fun g5 H5 x5 s5 => ?_⟩
                    have n5 : D ∉ g5.ca := fun z => (x5.new D z).elim n2 fun q => by rw [hD2] at q; cases q
                    have w5 : g5.W D := (x5.wk _ _ hD2).mpr w2
                    have r5 : Rps X.K g5 H5 acc done := Rps.ext x5 s2.cw r2
                    cases k with
                    | false =>
                      simp only [Bool.false_eq_true, if_false] at e4 ⊢
                      cases e4
                      exact ⟨by omega, g5, _, acc, done, rs', x2.trans x5, s5, x5.keep _ _ hD2 n2, r5, by omega, w5, n5, e5, e3⟩
                    | true =>
                      simp only [if_true] at e4 ⊢
                      obtain ⟨y0, S7, e8, e4⟩ := of_bnd e4
                      obtain ⟨y1, S8, e9, e4⟩ := of_bnd e4
                      cases e4
                      obtain ⟨e9, rfl⟩ := of_lft e9
                      refine ⟨g5, H0, Lb, S6, y0, _, c4.ext x5 s5, e8, fun v g6 H6 x6 s6 r6 => ?_⟩
                      have hD5 := x5.keep _ _ hD2 n2
                      have hD6 := x6.keep _ _ hD5 n5
                      have n6 : D ∉ g6.ca := fun z => (x6.new D z).elim n5 fun q => by rw [hD5] at q; cases q
                      have w6 : g6.W D := (x6.wk _ _ hD5).mpr w5
                      have rr := Rps.ext x6 s5.cw r5
                      have ry : Rp X.K g6 H6 v y1 := by
                        cases y0 with
                        | d z => cases e9; exact r6
                        | b z => cases e9
                      refine ⟨acc, hD6, by rw [rr.length, line_eq]; omega, by omega, g6, _, acc ++ [v], done ++ [y1], rs', ((x2.trans x5).trans x6).wroteNew hD, s6.wrote w6 n6, upd_same, Rps.wrote w6 (rr.append (.cons ry .nil)), ?_, w6, n6, e5, ?_⟩
                      · rw [List.length_append, List.length_singleton]; omega
                      · rw [List.append_assoc]; exact e3
                · cases e4
              · left
                have ei : i = ds.length := by omega
                subst ei
                rw [List.drop_length] at e2
                cases e2
                rw [List.append_nil] at e3
                subst e3
                obtain ⟨zs, hx, rx⟩ := s2.st n a ds hc2 hfin
                refine ⟨⟨zs, SqL.of hx, by rw [rx.length]; exact Nat.le_refl _⟩, q D acc g2 H2 (x1.trans x2) s2 hD2 r2 w2 n2 ?_⟩
                cases z : H D with
                | none => rfl
                | some o =>
                  obtain ⟨o', z'⟩ := x1.there D o z
                  rw [hD] at z'; cases z'
      · cases e5
    · cases e7
  · cases e
theorem pf_compC {elt tg iter : Expr} {ifs : List Expr} {scope : Scope} {own : List (Str × Nat)} {ma : Ms Va} {mt : Ms Bool} {me : Ms Va} (hc : X.calm = true) (hN : X.N.Nodup) (hi : PE X iter (tD X.K ma)) (ok : BlkOk X.N X.env.scope scope own)
    (hsl : ∀ j ∈ sl, j ∈ own.map (·.2))
    (hg : ∀ (s : Shared) (H : Hp) (C : Addr) (cl : List (Str × Addr)) (fp : List Addr), PG (X.blk s H scope (compEnvC scope cl C X.env) fp) tg (tDG X.K sl true mg))
    (ht : ∀ (s : Shared) (H : Hp) (C : Addr) (cl : List (Str × Addr)) (fp : List Addr), PTs (X.blk s H scope (compEnvC scope cl C X.env) fp) ifs (tDT X.K mt))
    (he : ∀ (s : Shared) (H : Hp) (C : Addr) (cl : List (Str × Addr)) (fp : List Addr), PE (X.blk s H scope (compEnvC scope cl C X.env) fp) elt (tD X.K me)) (hs : ∀ x, foldedSetIterable iter X.env x = pure x) :
    PE X (.ListComp elt [⟨tg, iter, ifs, 0⟩] scope pos) (tDF X.K fun L S => bnd (ma L S) fun x S1 => bnd (lft (cellOf x S1) S1) fun p S1 => if p.2.length < line then bnd (compL (mS p.1 p.2 (mC mg mt me (wipeL L (own.map (·.2))))) p.2 S1) fun xs S2 => if sameC S2 p.1 p.2 = true then some (xs, S2) else none else none) :=
  (pe_lc hc hN (pi_list hi) ok hg ht he hs).wk (comp_wkC hsl)
end
end PD

set_option Elab.async false
set_option linter.all false
set_option maxRecDepth 100000
set_option maxHeartbeats 4000000
/-! PD, part g2: comprehensions with two fors. -/
namespace PD
open PySem PySem.Spec PyProof.Rows L2
theorem LR.wroteOld {K : PySem.W.Frag} {g : Gh} {H0 H : Hp} {σ : L2.St} {L : Loc} {p : Addr} {o u : HO} (l : LR K g H0 σ H L) (w : g.W p) (z : H0 p = some u) : LR K g H0 σ (upd H p o) L := by
  refine ⟨l.len, old_upd l.old, fun j e h => ?_, fun j fs h => ?_, l.inj⟩
  · obtain ⟨v, q1, q2⟩ := l.dat j e h
    exact ⟨v, q1, Rp.wrote w q2⟩
  · obtain ⟨b, zs, q1, q2, q3, q4, q5, q6⟩ := l.own j fs h
    have ne : b ≠ p := fun q => by rw [q, z] at q6; cases q6
    exact ⟨b, zs, q1, by rw [upd_ne ne]; exact q2, Rps.wrote w q3, q4, q5, q6⟩
theorem LR.fresh {K : PySem.W.Frag} {g g' : Gh} {H0 H H' : Hp} {σ : L2.St} {L : Loc} {p : Addr} {o u : HO} (l : LR K g H0 σ H L) (e : Ext g H g' H') (hc : ∀ c ∈ g.ca, g.W c) (hp : H p = none) (hp' : H' p = some o) : LR K g' (upd H0 p u) σ H' L := by
  have l' := l.ext e hc
  refine ⟨l'.len, fun b x h => ?_, l'.dat, fun j fs h => ?_, l'.inj⟩
  · by_cases z : b = p
    · exact ⟨o, by rw [z]; exact hp'⟩
    · rw [upd_ne z] at h; exact l'.old b x h
  · obtain ⟨b, zs, q1, q2, q3, q4, q5, q6⟩ := l'.own j fs h
    obtain ⟨b', zs', k1, k2, _⟩ := l.own j fs h
    rw [q1] at k1
    cases k1
    have ne : b ≠ p := fun q => by rw [q, hp] at k2; cases k2
    exact ⟨b, zs, q1, q2, q3, q4, q5, by rw [upd_ne ne]; exact q6⟩
section
variable {X : Cx} {e a b c : Expr} {es : List Expr} {pos p : Pos} {sl sl1 : List Nat} {mg mg1 : D → Ms Loc}
def mC2 (t : D → Ms Loc) (c : Ms Bool) (w1 : Ms (List D)) (t1 : D → Ms Loc) (c1 : Ms Bool) (elt : Ms Va) (own1 : List Nat) (L : Loc) (d : D) (S : Store) : Option (List D × Store) :=
  bnd (t d L S) fun Lb S => bnd (c Lb S) fun k S => if k = true then bnd (w1 Lb S) fun es S => compL (mC t1 c1 elt (wipeL Lb own1)) es S else some ([], S)
theorem comp2_wk {own : List (Str × Nat)} {own1 : List Nat} {mw mw1 : Ms (List D)} {mt mt1 : Ms Bool} {me : Ms Va} (hsl : ∀ j ∈ sl, j ∈ own.map (·.2)) (hsl1 : ∀ j ∈ sl1, j ∈ own1) (σ : L2.St) (H : Hp) (Q : VK)
    (h : tDF X.K (fun L S => bnd (mw L S) fun ds S1 => bnd (compN (mC2 mg mt mw1 mg1 mt1 me own1 (wipeL L (own.map (·.2)))) ds S1) fun xs S2 => if xs.length ≤ line then some (xs, S2) else none) σ H Q) :
    tLc2 (tDI X.K true mw) (tDG X.K sl true mg) (tDT X.K mt) (tDI X.K false mw1) (tDG X.K sl1 true mg1) (tDT X.K mt1) (tD X.K me) (own.map (·.2)) own1 σ H Q := by
  obtain ⟨g, H0, L, S, xs, S', cr, e, q⟩ := h
  obtain ⟨ds, S1, e1, e'⟩ := of_bnd e
  clear e
  obtain ⟨xs', S2', e2, e''⟩ := of_bnd e'
  clear e'
  split at e''
  · rename_i hz
    cases e''
    refine ⟨g, H0, L, S, ds, S1, cr, e1, fun J g1 H1 x1 s1 j D hD => ?_⟩
    have c1 := cr.ext x1 s1
    refine ⟨fun i m H2 => m = ds.length - i ∧ i ≤ ds.length ∧ ∃ g2 S2 acc done rs, Ext g1 H1 g2 H2 ∧ Gs X.K g2 H2 S2 ∧ H2 D = some (.lst acc) ∧ Rps X.K g2 H2 acc done ∧ g2.W D ∧ D ∉ g2.ca ∧
        compN (mC2 mg mt mw1 mg1 mt1 me own1 (wipeL L (own.map (·.2)))) (ds.drop i) S2 = some (rs, S') ∧ done ++ rs = xs, ⟨ds.length, by simp, Nat.zero_le _, ?_⟩, ?_⟩
    · obtain ⟨x2, s2⟩ := new_own (xs := []) s1 hD
      exact ⟨g1.plus D, S1, [], [], xs, x2, s2, upd_same, .nil, .inr rfl, fun z => s1.nw hD (s1.cw D z), by simpa using e2, rfl⟩
    · rintro i m H2 ⟨rfl, hi, g2, S2, acc, done, rs, x2, s2, hD2, r2, w2, n2, e2, e3⟩
      have jj := j g2 H2 S2 (by simpa using x2) s2
      by_cases hlt : i < ds.length
      · right
        obtain ⟨go, yl⟩ := jj.1 i ds[i] (by simp [hlt])
        rw [List.drop_eq_getElem_cons hlt] at e2
        unfold compN at e2
        obtain ⟨r, S3, e4, e2⟩ := of_bnd e2
        obtain ⟨rs', S4, e5, e2⟩ := of_bnd e2
        cases e2
        unfold mC2 at e4
        obtain ⟨Lb, S5, e6, e4⟩ := of_bnd e4
        obtain ⟨k, S6, e7, e4⟩ := of_bnd e4
        refine ⟨go, fun H' => i + 1 ≤ ds.length ∧ ∃ g2 S2 acc done rs, Ext g1 H1 g2 H' ∧ Gs X.K g2 H' S2 ∧ H' D = some (.lst acc) ∧ Rps X.K g2 H' acc done ∧ g2.W D ∧ D ∉ g2.ca ∧
          compN (mC2 mg mt mw1 mg1 mt1 me own1 (wipeL L (own.map (·.2)))) (ds.drop (i + 1)) S2 = some (rs, S') ∧ done ++ rs = xs, fun H' hH => ⟨ds.length - (i + 1), by omega, rfl, hH⟩, fun x H3 y => ?_⟩
        obtain ⟨x3, s3, r3⟩ := yl x H3 y
        have c3 : Cr X.K g2 (upd H0 D (.lst [])) (L2.wipe σ (own.map (·.2))) H3 (wipeL L (own.map (·.2))) S2 := ⟨s3, ((c1.l.fresh x2 s1.cw hD hD2).ext x3 s2.cw).wipe _⟩
        refine ⟨g2, upd H0 D (.lst []), _, S2, _, Lb, S5, c3, r3, e6, fun σ4 g4 H4 _ w4 c4 l4 o4 p4 => ?_⟩
        obtain ⟨rfl, rfl, rfl⟩ := p4 rfl
        refine ⟨?_, ?_⟩
        · rw [wipe_same l4 fun j hj => o4 j fun z => hj (hsl j z)]
          exact wipe_same (wipe_length _ _) fun j hj => wipe_out hj
        · refine ⟨g4, upd H0 D (.lst []), Lb, S5, k, S6, c4, e7, fun g5 H5 x5 s5 => ?_⟩
          have hD3 : H4 D = some (.lst acc) := x3.keep _ _ hD2 n2
          have n5 : D ∉ g5.ca := fun z => (x5.new D z).elim n2 fun q => by rw [hD3] at q; cases q
          have w5 : g5.W D := (x5.wk _ _ hD3).mpr w2
          have r5 : Rps X.K g5 H5 acc done := Rps.ext x5 s3.cw (Rps.ext x3 s2.cw r2)
          have hD5 := x5.keep _ _ hD3 n2
          have x25 := (x2.trans x3).trans x5
          cases k with
          | false =>
            simp only [Bool.false_eq_true, if_false] at e4 ⊢
            cases e4
            exact ⟨by omega, g5, _, acc, done, rs', x25, s5, hD5, r5, w5, n5, e5, e3⟩
          | true =>
            simp only [if_true] at e4 ⊢
            obtain ⟨es1, S7, e8, e9⟩ := of_bnd e4
            clear e4
            have c5 := c4.ext x5 s5
            refine ⟨g5, upd H0 D (.lst []), Lb, _, es1, S7, c5, e8, fun J1 g6 H6 x6 s6 j1 => ?_⟩
            have hD6 := x6.keep _ _ hD5 n5
            have n6 : D ∉ g6.ca := fun z => (x6.new D z).elim n5 fun q => by rw [hD5] at q; cases q
            have w6 : g6.W D := (x6.wk _ _ hD5).mpr w5
            have r6 := Rps.ext x6 s5.cw r5
            have c6 := c5.ext x6 s6
            refine ⟨fun jx m H7 => m = es1.length - jx ∧ jx ≤ es1.length ∧ ∃ g7 S8 acc done rs1, ExtW g6 H6 g7 H7 ∧ LR X.K g7 (upd H0 D (.lst [])) σ4 H7 Lb ∧ Ext g1 H1 g7 H7 ∧ Gs X.K g7 H7 S8 ∧ H7 D = some (.lst acc) ∧ Rps X.K g7 H7 acc done ∧ g7.W D ∧ D ∉ g7.ca ∧
                compL (mC mg1 mt1 me (wipeL Lb own1)) (es1.drop jx) S8 = some (rs1, S3) ∧ done ++ (rs1 ++ rs') = xs, ⟨es1.length, by simp, Nat.zero_le _, g6, S7, acc, done, r, ExtW.refl, c6.l, x25.trans x6, s6, hD6, r6, w6, n6, by simpa using e9, e3⟩, ?_⟩
            rintro jx m H7 ⟨rfl, hjx, g7, S8, acc7, done7, rs1, x7, l7, x17, s7, hD7, r7, w7, n7, e10, e11⟩
            have jj1 := j1 g7 H7 S8 (by simpa using x7) s7
            by_cases hlt1 : jx < es1.length
            · right
              obtain ⟨go1, yl1⟩ := jj1.1 jx es1[jx] (by simp [hlt1])
              rw [List.drop_eq_getElem_cons hlt1] at e10
              unfold compL at e10
              obtain ⟨r8, S9, e12, e10⟩ := of_bnd e10
              obtain ⟨rs2, S10, e13, e10⟩ := of_bnd e10
              cases e10
              unfold mC at e12
              obtain ⟨Lc, S11, e14, e12⟩ := of_bnd e12
              obtain ⟨k1, S12, e15, e12⟩ := of_bnd e12
              refine ⟨go1, fun H' => jx + 1 ≤ es1.length ∧ ∃ g7 S8 acc done rs1, ExtW g6 H6 g7 H' ∧ LR X.K g7 (upd H0 D (.lst [])) σ4 H' Lb ∧ Ext g1 H1 g7 H' ∧ Gs X.K g7 H' S8 ∧ H' D = some (.lst acc) ∧ Rps X.K g7 H' acc done ∧ g7.W D ∧ D ∉ g7.ca ∧
                compL (mC mg1 mt1 me (wipeL Lb own1)) (es1.drop (jx + 1)) S8 = some (rs1, _) ∧ done ++ (rs1 ++ rs') = xs, fun H' hH => ⟨es1.length - (jx + 1), by omega, rfl, hH⟩, fun x H8 y => ?_⟩
              obtain ⟨x8, s8, r8'⟩ := yl1 x H8 y
              have l8 := l7.ext x8 s7.cw
              have c8 : Cr X.K g7 (upd H0 D (.lst [])) (L2.wipe σ4 own1) H8 (wipeL Lb own1) S8 := ⟨s8, l8.wipe _⟩
              refine ⟨g7, upd H0 D (.lst []), _, S8, _, Lc, S11, c8, r8', e14, fun σ9 g9 H9 _ w9 c9 l9 o9 p9 => ?_⟩
              obtain ⟨rfl, rfl, rfl⟩ := p9 rfl
              refine ⟨?_, ?_⟩
              · rw [wipe_same l9 fun j hj => o9 j fun z => hj (hsl1 j z)]
                exact wipe_same (wipe_length _ _) fun j hj => wipe_out hj
              · refine ⟨g9, upd H0 D (.lst []), Lc, S11, k1, S12, c9, e15, fun g10 H10 x10 s10 => ?_⟩
                have hD8 : H9 D = some (.lst acc7) := x8.keep _ _ hD7 n7
                have n10 : D ∉ g10.ca := fun z => (x10.new D z).elim n7 fun q => by rw [hD8] at q; cases q
                have w10 : g10.W D := (x10.wk _ _ hD8).mpr w7
                have r10 : Rps X.K g10 H10 acc7 done7 := Rps.ext x10 s8.cw (Rps.ext x8 s7.cw r7)
                cases k1 with
                | false =>
                  simp only [Bool.false_eq_true, if_false] at e12 ⊢
                  cases e12
                  exact ⟨by omega, g10, _, acc7, done7, rs2, (x7.trans (x8.w s7.cw)).trans (x10.w s8.cw), l8.ext x10 s8.cw, (x17.trans x8).trans x10, s10, x10.keep _ _ hD8 n7, r10, w10, n10, e13, e11⟩
                | true =>
                  simp only [if_true] at e12 ⊢
                  obtain ⟨y0, S13, e16, e12⟩ := of_bnd e12
                  obtain ⟨y1, S14, e17, e12⟩ := of_bnd e12
                  cases e12
                  obtain ⟨e17, rfl⟩ := of_lft e17
                  refine ⟨g10, upd H0 D (.lst []), Lc, S12, y0, _, c9.ext x10 s10, e16, fun v g11 H11 x11 s11 r11 => ?_⟩
                  have hD10 := x10.keep _ _ hD8 n7
                  have hD11 := x11.keep _ _ hD10 n10
                  have n11 : D ∉ g11.ca := fun z => (x11.new D z).elim n10 fun q => by rw [hD10] at q; cases q
                  have w11 : g11.W D := (x11.wk _ _ hD10).mpr w10
                  have rr := Rps.ext x11 s10.cw r10
                  have ry : Rp X.K g11 H11 v y1 := by
                    cases y0 with
                    | d z => cases e17; exact r11
                    | b z => cases e17
                  refine ⟨acc7, hD11, ?_, by omega, g11, _, acc7 ++ [v], done7 ++ [y1], rs2, (((x7.trans (x8.w s7.cw)).trans (x10.w s8.cw)).trans (x11.w s10.cw)).trans (ExtW.wrote w11), LR.wroteOld ((l8.ext x10 s8.cw).ext x11 s10.cw) w11 upd_same, (((x17.trans x8).trans x10).trans x11).wroteNew hD, s11.wrote w11 n11, upd_same, Rps.wrote w11 (rr.append (.cons ry .nil)), w11, n11, e13, ?_⟩
                  · rw [rr.length, line_eq]
                    have := congrArg List.length e11
                    simp only [List.length_append, List.length_cons] at this
                    omega
                  · rw [← e11]
                    simp
            · left
              have ei : jx = es1.length := by omega
              subst ei
              refine ⟨jj1.2, ?_⟩
              rw [List.drop_length] at e10
              cases e10
              exact ⟨by omega, g7, _, acc7, done7, rs', x17, s7, hD7, r7, w7, n7, e5, e11⟩
      · left
        have ei : i = ds.length := by omega
        subst ei
        refine ⟨jj.2, ?_⟩
        rw [List.drop_length] at e2
        cases e2
        rw [List.append_nil] at e3
        subst e3
        refine q D acc g2 H2 (x1.trans x2) s2 hD2 r2 w2 n2 ?_
        cases z : H D with
        | none => rfl
        | some o =>
          obtain ⟨o', z'⟩ := x1.there D o z
          rw [hD] at z'; cases z'
  · cases e''
/-- [elt for t in w if c for t1 in w1 if c1] -/
theorem pf_comp2 {elt tg iter tg1 iter1 : Expr} {ifs ifs1 : List Expr} {scope : Scope} {own : List (Str × Nat)} {own1 : List Nat} {mw mw1 : Ms (List D)} {mt mt1 : Ms Bool} {me : Ms Va} (hc : X.calm = true) (hN : X.N.Nodup) (hi : PI X tg iter (tDI X.K true mw)) (ok : BlkOk X.N X.env.scope scope own)
    (hsl : ∀ j ∈ sl, j ∈ own.map (·.2)) (hsl1 : ∀ j ∈ sl1, j ∈ own1) (hv : ∀ i ∈ own1, i ∈ own.map (·.2))
    (hg : ∀ (s : Shared) (H : Hp) (C : Addr) (cl : List (Str × Addr)) (fp : List Addr), PG (X.blk s H scope (compEnvC scope cl C X.env) fp) tg (tDG X.K sl true mg))
    (ht : ∀ (s : Shared) (H : Hp) (C : Addr) (cl : List (Str × Addr)) (fp : List Addr), PTs (X.blk s H scope (compEnvC scope cl C X.env) fp) ifs (tDT X.K mt))
    (hi1 : ∀ (s : Shared) (H : Hp) (C : Addr) (cl : List (Str × Addr)) (fp : List Addr), PI (X.blk s H scope (compEnvC scope cl C X.env) fp) tg1 iter1 (tDI X.K false mw1))
    (hg1 : ∀ (s : Shared) (H : Hp) (C : Addr) (cl : List (Str × Addr)) (fp : List Addr), PG (X.blk s H scope (compEnvC scope cl C X.env) fp) tg1 (tDG X.K sl1 true mg1))
    (ht1 : ∀ (s : Shared) (H : Hp) (C : Addr) (cl : List (Str × Addr)) (fp : List Addr), PTs (X.blk s H scope (compEnvC scope cl C X.env) fp) ifs1 (tDT X.K mt1))
    (he : ∀ (s : Shared) (H : Hp) (C : Addr) (cl : List (Str × Addr)) (fp : List Addr), PE (X.blk s H scope (compEnvC scope cl C X.env) fp) elt (tD X.K me)) (hs : ∀ x, foldedSetIterable iter X.env x = pure x) (hs1 : ∀ env x, foldedSetIterable iter1 env x = pure x) :
    PE X (.ListComp elt [⟨tg, iter, ifs, 0⟩, ⟨tg1, iter1, ifs1, 0⟩] scope pos) (tDF X.K fun L S => bnd (mw L S) fun ds S1 => bnd (compN (mC2 mg mt mw1 mg1 mt1 me own1 (wipeL L (own.map (·.2)))) ds S1) fun xs S2 => if xs.length ≤ line then some (xs, S2) else none) :=
  (pe_lc2 hc hN hi ok hv hg ht hi1 hg1 ht1 he hs hs1).wk (comp2_wk hsl hsl1)
end
end PD

set_option Elab.async false
set_option linter.all false
set_option maxRecDepth 100000
set_option maxHeartbeats 4000000
/-! PD, part h: calls of defs, statements. -/
namespace PD
open PySem PySem.Spec PyProof.Rows L2

/-! ### what a def promises, where the guards are known -/
structure FnG (P : Program) (w : World) (K : PySem.W.Frag) (mg : Str → Option Value) (base : Heap) (k : Nat) (f : Addr) (fd : FuncData) (ps : List Str) (sp : Sp) : Prop where
  len : ∀ vs H Q E, sp vs H Q E → vs.length = ps.length
  run : ∀ (A : Around) (outer : List PySem.Env) (s : Shared) (H : Hp) (args : Args) (us : List Value) (vs : List V) (Q : VK) (E : XK), Room k A → A.guards = some [] →
    Env0 P w K mg base A outer s H → BindsTo s fd args (ps.zip us) → Vals vs us → sp vs H Q E →
    codeAny (model P w) A (.call (.ref f) args) (CR CX0 outer P w H s Q E) s
theorem FnG.mono {P : Program} {w : World} {K : PySem.W.Frag} {mg : Str → Option Value} {base : Heap} {j k : Nat} {f : Addr} {fd : FuncData} {ps : List Str} {sp : Sp} (F : FnG P w K mg base j f fd ps sp) (h : j ≤ k) : FnG P w K mg base k f fd ps sp :=
  ⟨F.len, fun A outer s H args us vs Q E hr => F.run A outer s H args us vs Q E (hr.mono h)⟩

/-- one way of calling a def -/
def EntOk (P : Program) (w : World) (K : PySem.W.Frag) (mg : Str → Option Value) (base : Heap) (k : Nat) (e : Ent) : Prop :=
  ∃ (f : Addr) (fd : FuncData) (ps : List Str) (sp : Sp) (gs : List Value → List Value → List Value) (gv : List V → List V → List V),
    mg e.name = some (.ref f) ∧ PySem.W.keepIn K (.ref f) = true ∧ FnG P w K mg base k f fd ps sp ∧ KBn K fd ps e.n e.ks gs gv ∧
    ∀ g H S vs zs ds d S' (Q : VK), Gs K g H S → Rps K g H (vs ++ zs) ds → vs.length = e.n → zs.length = e.ks.length → e.sem ds S = some (d, S') →
      (∀ v g' H', Ext g H g' H' → Gs K g' H' S' → Rp K g' H' v d → Q v H') → sp (gv vs zs) H Q E0

section
variable {X : Cx} {e a b c : Expr} {es : List Expr} {kws : List Keyword} {ma mb mc : Ms Va} {mes mks : Ms (List Va)} {mf : Ms (List D)} {pos p : Pos} {x : Str} {k : Nat}
theorem _root_.L2.PK.wk {t t' : TA} (h : PK X kws t) (w : ∀ σ H Q, t' σ H Q → t σ H Q) : PK X kws t' := ⟨fun pos pins s σ H Q I q => h.run pos pins s σ H Q I (w σ H Q q)⟩
theorem pk_nilD : PK X [] (tDA X.K fun _ S => some ([], S)) := by
  refine pk_nil.wk fun σ H Q h => ?_
  obtain ⟨g, H0, L, S, x, S', cr, e, q⟩ := h
  cases e
  exact q [] g H Ext.refl cr.s .nil
theorem pk_consD {nm : Option Str} {kpos : Pos} (ha : PE X e (tD X.K ma)) (hr : PK X kws (tDA X.K mes)) :
    PK X (⟨nm, e, kpos⟩ :: kws) (tDA X.K fun L S => bnd (ma L S) fun x S1 => bnd (mes L S1) fun xs S2 => some (x :: xs, S2)) := by
  refine (pk_cons ha hr).wk fun σ H Q h => ?_
  obtain ⟨g, H0, L, S, x, S', cr, e, q⟩ := h
  obtain ⟨dx, S1, e1, e⟩ := of_bnd e
  obtain ⟨dxs, S2, e2, e⟩ := of_bnd e
  cases e
  exact ⟨g, H0, L, S, dx, S1, cr, e1, fun v g1 H1 x1 s1 r1 => ⟨g1, H0, L, S1, dxs, _, cr.ext x1 s1, e2, fun vs g2 H2 x2 s2 r2 => q (v :: vs) g2 H2 (x1.trans x2) s2 (.cons (r1.ext x2 s1.cw) r2)⟩⟩
theorem RpVs.append {K : PySem.W.Frag} {g : Gh} {H : Hp} : ∀ {vs us : List V} {xs ys : List Va}, RpVs K g H vs xs → RpVs K g H us ys → RpVs K g H (vs ++ us) (xs ++ ys)
  | _, _, _, _, .nil, r => r
  | _, _, _, _, .cons h t, r => .cons h (RpVs.append t r)
theorem run_fnG {pins : List (Addr × Obj)} {σ : L2.St} {H : Hp} {s : Shared} {Q : VK} {us ws : List Value} {vs zs : List V} {n : Nat} {ks ps : List Str} {f : Addr} {fd : FuncData} {sp : Sp} {gs : List Value → List Value → List Value} {gv : List V → List V → List V}
    (F : FnG X.prog X.w X.K X.mg X.base k f fd ps sp) (hr : Room k X.A) (hg : X.A.guards = some []) (hb : KBn X.K fd ps n ks gs gv)
    (I : Inv X pins σ H s) (r : Vals vs us) (rz : Vals zs ws) (l1 : vs.length = n) (l2 : zs.length = ks.length) (h : sp (gv vs zs) H Q E0) : wpAny (model X.prog X.w) X.A (call (.ref f) us (ks.zip ws)) (EP X pins σ Q) X.xe s := by
  have bt := hb.to s us ws I.kIn (r.length.symm.trans l1) (rz.length.symm.trans l2)
  refine wpAny_call (codeAny_mono (F.run X.A X.stack s H _ _ _ Q E0 hr hg I.env0 bt (hb.rel r rz) h) ?_)
  rintro (e | fl) s' hq
  · exact hq.elim
  · cases fl with
    | ret u => exact I.after hq
    | next => exact hq.elim
    | brk => exact hq.elim
    | cont => exact hq.elim
theorem pd_call {ent : Ent} (hE : EntOk X.prog X.w X.K X.mg X.base k ent) (hr : Room k X.A) (hg : X.A.guards = some []) (hgl : Gl X ent.name) (ha : PA X es (tDA X.K mes)) (hk : PK X kws (tDA X.K mks)) (hdb : (ent.name == ("__debug__" : Str)) = false)
    (hall : (backToKw pos (keywordEach kws X.env)).all (·.1.isSome) = true) (hks : (backToKw pos (keywordEach kws X.env)).filterMap (·.1) = ent.ks)
    (hnil : es = [] → mes = fun _ S => some ([], S)) (hst : ∀ y r, es = y :: r → starEach (y :: r) X.env = (false, eval y X.env) :: starEach r X.env)
    (hpl : ((backTo pos (starEach es X.env)).any (·.1) || (backToKw pos (keywordEach kws X.env)).any (·.1.isNone)) = false) :
    PE X (.Call (.Name ent.name p) es kws pos) (tD X.K fun L S => bnd (mes L S) fun xs S1 => bnd (mks L S1) fun zs S2 => bnd (lft (unVs (xs ++ zs)) S2) fun ds S2 =>
      if xs.length = ent.n ∧ zs.length = ent.ks.length then bnd (ent.sem ds S2) fun d S3 => some (.d d, S3) else none) := by
  obtain ⟨f, fd, ps, sp, gs, gv, hm, hkp, F, hb, hsp⟩ := hE
  refine ⟨fun pins s σ H Q I h => ?_⟩
  refine wpAny_Call_Name_kw (ld_glob I hgl hm ?_ hdb)
  obtain ⟨g, H0, L, S, x, S', cr, e, q⟩ := h
  obtain ⟨xs, S1, e1, e5⟩ := of_bnd e
  obtain ⟨zs, S2, e2, e6⟩ := of_bnd e5
  obtain ⟨ds, S3, e7, e8⟩ := of_bnd e6
  obtain ⟨e3, eS⟩ := of_lft e7
  subst eS
  clear e e5 e6 e7
  by_cases hn : xs.length = ent.n ∧ zs.length = ent.ks.length
  · rw [if_pos hn] at e8
    obtain ⟨d, S4, e4, e9⟩ := of_bnd e8
    cases e9
    -- the arguments
    have hargs : wpAny (model X.prog X.w) X.A (spliced (backTo pos (starEach es X.env))) (AP X pins σ fun vs H1 => ∃ g1, Ext g H g1 H1 ∧ Gs X.K g1 H1 S1 ∧ RpVs X.K g1 H1 vs xs) X.xe s :=
      ha.run pos pins s σ H _ I ⟨g, H0, L, S, xs, S1, cr, e1, fun vs g1 H1 x1 s1 r1 => ⟨g1, x1, s1, r1⟩⟩
    have fin : ∀ us s1, AP X pins σ (fun vs H1 => ∃ g1, Ext g H g1 H1 ∧ Gs X.K g1 H1 S1 ∧ RpVs X.K g1 H1 vs xs) us s1 →
        wpAny (model X.prog X.w) X.A (evalAll ((backToKw pos (keywordEach kws X.env)).map (·.2))) (fun ws s2 => X.K.In s2.heap ∧ wpAny (model X.prog X.w) X.A (call (.ref f) us (((backToKw pos (keywordEach kws X.env)).filterMap (·.1)).zip ws)) (EP X pins σ Q) X.xe s2) X.xe s1 := by
      rintro us s1 ⟨vs, H1, I1, r1, g1, x1, t1, v1⟩
      refine thn (hk.run pos pins s1 σ H1 (fun us H2 => ∃ g2, Ext g1 H1 g2 H2 ∧ Gs X.K g2 H2 S3 ∧ RpVs X.K g2 H2 us zs) I1 ⟨g1, H0, L, S1, zs, S3, cr.ext x1 t1, e2, fun us g2 H2 x2 s2 r2 => ⟨g2, x2, s2, r2⟩⟩) ?_
      rintro ws s2 ⟨vz, H2, I2, r2, g2, x2, t2, v2⟩
      refine ⟨I2.kIn, ?_⟩
      rw [hks]
      have va := (v1.ext x2 t1.cw).append v2
      have rp := va.strict e3
      refine run_fnG F hr hg hb I2 r1 r2 (by rw [v1.length]; exact hn.1) (by rw [v2.length]; exact hn.2) ?_
      exact hsp g2 H2 S3 vs vz ds d _ Q t2 rp (by rw [v1.length]; exact hn.1) (by rw [v2.length]; exact hn.2) e4 fun v g3 H3 x3 s3 r3 => q v g3 H3 (x1.trans (x2.trans x3)) s3 r3
    cases es with
    | nil =>
      have e1' := e1
      rw [hnil rfl] at e1'
      cases e1'
      exact PySem.W.callWith_KW0 (h₀ := X.base) I.ok.mod.kin hkp hall (fin [] s ⟨[], H, I, .nil, g, Ext.refl, cr.s, .nil⟩) hpl
    | cons y r => exact PySem.W.callWith_KW (h₀ := X.base) I.ok.mod.kin hkp hall (thn hargs fun us s1 z => fin us s1 z) hpl (hst y r rfl)
  · rw [if_neg hn] at e8
    cases e8
end
end PD

set_option Elab.async false
set_option linter.all false
set_option maxRecDepth 100000
set_option maxHeartbeats 4000000
/-! PD, part i: statements keep their meaning. -/
namespace PD
open PySem PySem.Spec PyProof.Rows L2

/-- what is wanted behind a statement that ends in f -/
def aft (K : PySem.W.Frag) (g : Gh) (H0 H : Hp) (D : Ends) (f : Fl) (La : Loc) (S : Store) : Prop :=
  match f with
  | .nx => ∀ σ g' H', (∀ g0, Ext g0 H0 g H → Ext g0 H0 g' H') → ExtW g H g' H' → Cr K g' H0 σ H' La S → D.nx σ H'
  | .brk => ∀ σ g' H', (∀ g0, Ext g0 H0 g H → Ext g0 H0 g' H') → ExtW g H g' H' → Cr K g' H0 σ H' La S → D.bk σ H'
  | .cnt => ∀ σ g' H', (∀ g0, Ext g0 H0 g H → Ext g0 H0 g' H') → ExtW g H g' H' → Cr K g' H0 σ H' La S → D.ct σ H'
  | .ret d => ∀ v g' H', (∀ g0, Ext g0 H0 g H → Ext g0 H0 g' H') → Gs K g' H' S → Rp K g' H' v d → D.rt v H'
/-- from a moment further on -/
theorem aft.on {K : PySem.W.Frag} {g g1 : Gh} {H0 H H1 : Hp} {D : Ends} {f : Fl} {La : Loc} {S : Store} (x : ∀ g0, Ext g0 H0 g H → Ext g0 H0 g1 H1) (w : ExtW g H g1 H1) (h : aft K g H0 H D f La S) : aft K g1 H0 H1 D f La S := by
  cases f with
  | nx => exact fun σ g' H' x' w' c => h σ g' H' (fun g0 z => x' g0 (x g0 z)) (w.trans w') c
  | brk => exact fun σ g' H' x' w' c => h σ g' H' (fun g0 z => x' g0 (x g0 z)) (w.trans w') c
  | cnt => exact fun σ g' H' x' w' c => h σ g' H' (fun g0 z => x' g0 (x g0 z)) (w.trans w') c
  | ret d => exact fun v g' H' x' s r => h v g' H' (fun g0 z => x' g0 (x g0 z)) s r
def tDS (K : PySem.W.Frag) (m : Ms (Fl × Loc)) : TS := fun D σ H => ∃ g H0 L S f La S', Cr K g H0 σ H L S ∧ m L S = some ((f, La), S') ∧ aft K g H0 H D f La S'
theorem _root_.L2.PS.wk {X : Cx} {e : Stmt} {t t' : TS} (h : PS X e t) (w : ∀ D σ H, t' D σ H → t D σ H) : PS X e t' := ⟨fun pins s σ H D I q => h.run pins s σ H D I (w D σ H q)⟩
theorem _root_.L2.PSs.wk {X : Cx} {e : List Stmt} {t t' : TS} (h : PSs X e t) (w : ∀ D σ H, t' D σ H → t D σ H) : PSs X e t' := ⟨fun pins s σ H D I q => h.run pins s σ H D I (w D σ H q)⟩

section
variable {X : Cx} {e a b c : Expr} {es : List Expr} {ma mb mc : Ms Va} {mes : Ms (List Va)} {mf : Ms (List D)} {pos p p' : Pos} {x y : Str} {st : Stmt} {sts sts' : List Stmt} {ms ms' : Ms (Fl × Loc)}
theorem pss_nilD : PSs X [] (tDS X.K fun L S => some ((.nx, L), S)) := by
  refine pss_nil.wk fun D σ H h => ?_
  obtain ⟨g, H0, L, S, f, La, S', cr, e, q⟩ := h
  cases e
  exact q σ g H (fun _ z => z) ExtW.refl cr
theorem pss_consD (h1 : PS X st (tDS X.K ms)) (h2 : PSs X sts (tDS X.K ms')) : PSs X (st :: sts) (tDS X.K fun L S => bnd (ms L S) fun r S1 => match r.1 with
    | .nx => ms' r.2 S1
    | f => some ((f, r.2), S1)) := by
  refine (pss_cons h1 h2).wk fun D σ H h => ?_
  obtain ⟨g, H0, L, S, f, La, S', cr, e, q⟩ := h
  obtain ⟨⟨f1, L1⟩, S1, e1, e2⟩ := of_bnd e
  refine ⟨g, H0, L, S, f1, L1, S1, cr, e1, ?_⟩
  cases f1 with
  | nx => exact fun σ' g' H' x w c => ⟨g', H0, L1, S1, f, La, S', c, e2, q.on x w⟩
  | brk => cases e2; exact q
  | cnt => cases e2; exact q
  | ret d => cases e2; exact q
theorem ps_neverD : PS X st (tDS X.K fun _ _ => none) := ps_never.wk fun D σ H h => by
  obtain ⟨g, H0, L, S, f, La, S', cr, e, q⟩ := h
  cases e
theorem ps_passD : PS X (.Pass pos) (tDS X.K fun L S => some ((.nx, L), S)) := ps_pass.wk fun D σ H h => by
  obtain ⟨g, H0, L, S, f, La, S', cr, e, q⟩ := h
  cases e
  exact q σ g H (fun _ z => z) ExtW.refl cr
theorem ps_brkD : PS X (.Break pos) (tDS X.K fun L S => some ((.brk, L), S)) := ps_break.wk fun D σ H h => by
  obtain ⟨g, H0, L, S, f, La, S', cr, e, q⟩ := h
  cases e
  exact q σ g H (fun _ z => z) ExtW.refl cr
theorem ps_cntD : PS X (.Continue pos) (tDS X.K fun L S => some ((.cnt, L), S)) := ps_continue.wk fun D σ H h => by
  obtain ⟨g, H0, L, S, f, La, S', cr, e, q⟩ := h
  cases e
  exact q σ g H (fun _ z => z) ExtW.refl cr
theorem ps_exD (he : PE X e (tD X.K ma)) (hs : swapsWith e none pos.line X.env = pure false) : PS X (.Expr e pos) (tDS X.K fun L S => bnd (ma L S) fun _ S1 => some ((.nx, L), S1)) := by
  refine (ps_expr he hs).wk fun D σ H h => ?_
  obtain ⟨g, H0, L, S, f, La, S', cr, e, q⟩ := h
  obtain ⟨dx, S1, e1, e2⟩ := of_bnd e
  cases e2
  exact ⟨g, H0, L, S, dx, _, cr, e1, fun v g1 H1 x1 s1 r1 => q σ g1 H1 (fun g0 z => z.trans x1) (x1.w cr.s.cw) (cr.ext x1 s1)⟩
theorem ps_retD (he : PE X e (tD X.K ma)) : PS X (.Return (some e) pos) (tDS X.K fun L S => bnd (ma L S) fun x S1 => bnd (lft (unV x) S1) fun d S1 => some ((.ret d, L), S1)) := by
  refine (ps_ret he).wk fun D σ H h => ?_
  obtain ⟨g, H0, L, S, f, La, S', cr, e, q⟩ := h
  obtain ⟨dx, S1, e1, e2⟩ := of_bnd e
  obtain ⟨d, S2, e3, e4⟩ := of_bnd e2
  obtain ⟨e5, eS⟩ := of_lft e3
  subst eS
  cases e4
  refine ⟨g, H0, L, S, dx, _, cr, e1, fun v g1 H1 x1 s1 r1 => ?_⟩
  cases dx with
  | d x => cases e5; exact q v g1 H1 (fun g0 z => z.trans x1) s1 r1
  | b xs => cases e5
theorem ps_ret0D : PS X (.Return none pos) (tDS X.K fun L S => some ((.ret .non, L), S)) := ps_retN.wk fun D σ H h => by
  obtain ⟨g, H0, L, S, f, La, S', cr, e, q⟩ := h
  cases e
  exact q .non g H (fun _ z => z) cr.s .non
theorem ps_ifD {tb fb : List Stmt} (hc : PT X c (tDT X.K (mT mc))) (ha : PSs X tb (tDS X.K ms)) (hb : PSs X fb (tDS X.K ms')) :
    PS X (.If c tb fb pos) (tDS X.K fun L S => bnd (mc L S) fun x S1 => bnd (lft (asB x) S1) fun k S1 => if k = true then ms L S1 else ms' L S1) := by
  refine (ps_if hc ha hb).wk fun D σ H h => ?_
  obtain ⟨g, H0, L, S, f, La, S', cr, e, q⟩ := h
  obtain ⟨dx, S1, e1, e2⟩ := of_bnd e
  obtain ⟨k, S2, e3, e4⟩ := of_bnd e2
  obtain ⟨rfl, rfl⟩ := mB e3
  refine ⟨g, H0, L, S, k, _, cr, by show bnd _ _ = _; rw [e1, bnd_some]; rfl, fun g1 H1 x1 s1 => ?_⟩
  cases k with
  | true => exact ⟨g1, H0, L, _, f, La, S', cr.ext x1 s1, e4, q.on (fun g0 z => z.trans x1) (x1.w cr.s.cw)⟩
  | false => exact ⟨g1, H0, L, _, f, La, S', cr.ext x1 s1, e4, q.on (fun g0 z => z.trans x1) (x1.w cr.s.cw)⟩
variable {sl : List Nat} {pu : Bool} {mg : D → Ms Loc} {tg : Expr}
theorem asg_wk {g0 : TG} (σ : L2.St) (H : Hp) (D : Ends) (hg : ∀ v σ H Q, tDG X.K sl pu mg v σ H Q → g0 v σ H Q)
    (h : tDS X.K (fun L S => bnd (ma L S) fun x S1 => bnd (lft (unV x) S1) fun d S1 => bnd (mg d L S1) fun Lb S2 => some ((.nx, Lb), S2)) D σ H) : tAsg (tD X.K ma) g0 D σ H := by
  obtain ⟨g, H0, L, S, f, La, S', cr, e, q⟩ := h
  obtain ⟨dx, S1, e1, e2⟩ := of_bnd e
  obtain ⟨d, S2, e3, e4⟩ := of_bnd e2
  obtain ⟨e5, eS⟩ := of_lft e3
  subst eS
  obtain ⟨Lb, S3, e6, e7⟩ := of_bnd e4
  cases e7
  refine ⟨g, H0, L, S, dx, _, cr, e1, fun v g1 H1 x1 s1 r1 => ?_⟩
  cases dx with
  | b xs => cases e5
  | d x =>
    cases e5
    exact hg v σ H1 _ ⟨g1, H0, L, _, d, La, S', cr.ext x1 s1, r1, e6, fun σ' g' H' x2 w2 c2 _ _ _ => q σ' g' H' (fun g0 z => x2 g0 (z.trans x1)) ((x1.w cr.s.cw).trans w2) c2⟩
theorem ps_asgD (he : PE X e (tD X.K ma)) (hg : PG X tg (tDG X.K sl pu mg)) (hs : swapsWithSole [tg] e pos.line X.env = pure false) (hw : swappedStores [tg] e X.env = pure none) (h1 : (assignEach [tg] X.env).map (·.2) = [assign tg X.env]) :
    PS X (.Assign [tg] e pos) (tDS X.K fun L S => bnd (ma L S) fun x S1 => bnd (lft (unV x) S1) fun d S1 => bnd (mg d L S1) fun Lb S2 => some ((.nx, Lb), S2)) :=
  (ps_asg he hg hs hw h1).wk fun D σ H h => asg_wk σ H D (fun _ _ _ _ z => z) h

/-- name = a new list, the name's own -/
theorem own_wk {i : Nat} (σ : L2.St) (H : Hp) (D : Ends) (h : tDS X.K (fun L S => bnd (mf L S) fun xs S1 => some ((.nx, L.set i (.own xs)), S1)) D σ H) : tAsg (tDF X.K mf) (gName i) D σ H := by
  obtain ⟨g, H0, L, S, f, La, S', cr, e, q⟩ := h
  obtain ⟨ds, S1, e1, e2⟩ := of_bnd e
  cases e2
  refine ⟨g, H0, L, S, ds, _, cr, e1, fun p vs g1 H1 x1 s1 hp r w n z => ?_⟩
  have c1 := cr.ext x1 s1
  have z0 : H0 p = none := by
    cases k : H0 p with
    | none => rfl
    | some o =>
      obtain ⟨o', h'⟩ := cr.l.old p o k
      rw [z] at h'; cases h'
  refine q (σ.set i (some (.ref p))) g1 H1 (fun g0 z => z.trans x1) (x1.w cr.s.cw) ⟨s1, c1.l.setOwn hp r w n z0 fun j es hj _ hs => ?_⟩
  obtain ⟨a, xs, h1, h2, _⟩ := cr.l.own j es hj
  rw [hs] at h1
  cases h1
  rw [z] at h2; cases h2
theorem ps_ownD {i : Nat} (hN : X.N.Nodup) (hi : X.N[i]? = some x) (hx : L2.Loc X.env.scope x) (he : PE X e (tDF X.K mf)) (hs : swapsWith e (some (.Name x p')) pos.line X.env = pure false) (hf : X.fn x = true ∨ X.env.scope.names.lookup x = some .local) :
    PS X (.Assign [.Name x p'] e pos) (tDS X.K fun L S => bnd (mf L S) fun xs S1 => some ((.nx, L.set i (.own xs)), S1)) := (ps_set hN hi hx he hs hf).wk fun D σ H h => own_wk σ H D h
/-- a new cell -/
theorem ps_newcD {i : Nat} (hN : X.N.Nodup) (hi : X.N[i]? = some x) (hx : L2.Loc X.env.scope x) (hl : ∀ L S xs S', mes L S = some (xs, S') → xs.length ≤ line) (he : PA X es (tDA X.K mes)) (hf : X.fn x = true ∨ X.env.scope.names.lookup x = some .local) :
    PS X (.Assign [.Name x p'] (.List es p) pos) (tDS X.K fun L S => bnd (mes L S) fun xs S1 => bnd (lft (unVs xs) S1) fun ds S1 => some ((.nx, L.set i (.dat (.cell S1.length))), S1 ++ [ds])) := by
  refine (ps_set hN hi hx (pe_lst he) rfl hf).wk fun D σ H h => ?_
  obtain ⟨g, H0, L, S, f, La, S', cr, e, q⟩ := h
  obtain ⟨xs, S1, e1, e2⟩ := of_bnd e
  obtain ⟨ds, S2, e3, e4⟩ := of_bnd e2
  obtain ⟨e5, eS⟩ := of_lft e3
  subst eS
  cases e4
  refine ⟨g, H0, L, S, xs, _, cr, e1, fun vs g1 H1 x1 s1 r1 => ⟨by rw [r1.length, line_eq]; exact hl _ _ _ _ e1, fun p hp => ?_⟩⟩
  obtain ⟨x2, s2, r2⟩ := new_cell s1 hp (r1.strict e5)
  have c2 := (cr.ext x1 s1).ext x2 s2
  exact q _ _ _ (fun g0 z => (z.trans x1).trans x2) ((x1.w cr.s.cw).trans (x2.w s1.cw)) (c2.set r2)
theorem ps_retcD (hl : ∀ L S xs S', mes L S = some (xs, S') → xs.length ≤ line) (he : PA X es (tDA X.K mes)) :
    PS X (.Return (some (.List es p)) pos) (tDS X.K fun L S => bnd (mes L S) fun xs S1 => bnd (lft (unVs xs) S1) fun ds S1 => some ((.ret (.cell S1.length), L), S1 ++ [ds])) := by
  refine (ps_ret (pe_lst he)).wk fun D σ H h => ?_
  obtain ⟨g, H0, L, S, f, La, S', cr, e, q⟩ := h
  obtain ⟨xs, S1, e1, e2⟩ := of_bnd e
  obtain ⟨ds, S2, e3, e4⟩ := of_bnd e2
  obtain ⟨e5, eS⟩ := of_lft e3
  subst eS
  cases e4
  refine ⟨g, H0, L, S, xs, _, cr, e1, fun vs g1 H1 x1 s1 r1 => ⟨by rw [r1.length, line_eq]; exact hl _ _ _ _ e1, fun p hp => ?_⟩⟩
  obtain ⟨x2, s2, r2⟩ := new_cell s1 hp (r1.strict e5)
  exact q _ _ _ (fun g0 z => (z.trans x1).trans x2) s2 r2
/-- a list of one's own is left as it is: nothing in the text -/
theorem pss_fzD {i : Nat} (h2 : PSs X sts (tDS X.K ms')) : PSs X sts (tDS X.K fun L S => bnd (match L[i]? with
    | some (.own xs) => some ((Fl.nx, L.set i (.dat (.lst xs))), S)
    | _ => some ((Fl.nx, L), S)) fun r S1 => match r.1 with
    | .nx => ms' r.2 S1
    | f => some ((f, r.2), S1)) := by
  refine h2.wk fun D σ H h => ?_
  obtain ⟨g, H0, L, S, f, La, S', cr, e, q⟩ := h
  obtain ⟨⟨f1, L1⟩, S1, e1, e2⟩ := of_bnd e
  split at e1
  · rename_i ds hi
    cases e1
    obtain ⟨a, xs, k1, k2, r, w, n, z0⟩ := cr.l.own i ds hi
    exact ⟨g.minus a, H0, _, _, f, La, S', ⟨cr.s.minus n, cr.l.freeze hi k1⟩, e2, q.on (fun g0 z => z.minus z0) ExtW.minus⟩
  · cases e1
    exact ⟨g, H0, _, _, f, La, S', cr, e2, q⟩
/-- x.append(e) -/
theorem ps_appD {i : Nat} (hN : X.N[i]? = some x) (hv : Vis X.env.scope x) (hd : (x == ("__debug__" : Str)) = false) (hcd : (x == ("__classdict__" : Str)) = false) (he : PE X e (tD X.K ma)) {ap : Pos}
    (hs : starEach (e :: []) X.env = (false, eval e X.env) :: starEach [] X.env) (hline : (ap.endLine == p'.line) = true)
    (hfew : ((backTo p' (starEach (e :: []) X.env)).all (fun x => !x.1) && (backToKw p' (keywordEach [] X.env)).all (fun x => x.1.isSome)
      && decide ((e :: ([] : List Expr)).length + ([] : List Keyword).length + (if ([] : List Keyword).isEmpty then 0 else 1) < 30)) = true) :
    PS X (.Expr (.Call (.Attribute (.Name x p) "append" ap) [e] [] p') pos) (tDS X.K fun L S => bnd (ma L S) fun x S1 => bnd (lft (unV x) S1) fun d S1 => match L[i]? with
    | some (.own xs) => if xs.length < line then some ((.nx, L.set i (.own (xs ++ [d]))), S1) else none
    | some (.dat (.cell n)) => match S1[n]? with
      | some xs => if xs.length < line then some ((.nx, L), S1.set n (xs ++ [d])) else none
      | none => none
    | _ => none) := by
  refine (ps_expr (pe_bm PySem.F.plainAttrs_list PySem.F.slot_list_append PySem.F.type_list_append mt_append (pe_var hN hv hd hcd) (pa_cons he pa_nil hs) rfl hfew hline hs rfl) rfl).wk fun D σ H h => ?_
  obtain ⟨g, H0, L, S, f, La, S', cr, e, q⟩ := h
  obtain ⟨dx, S1, e1, e2⟩ := of_bnd e
  obtain ⟨d, S2, e3, e4⟩ := of_bnd e2
  obtain ⟨e5, eS⟩ := of_lft e3
  subst eS
  split at e4
  · rename_i ds hi
    split at e4
    · rename_i hz
      cases e4
      obtain ⟨a, xs, k1, k2, r, w, n, z0⟩ := cr.l.own i ds hi
      refine ⟨_, k1, Or.inl ⟨rfl, _, Or.inl (Or.inl k2)⟩, g, H0, L, S, dx, _, cr, e1, fun v g1 H1 x1 s1 r1 => ?_⟩
      have c1 := cr.ext x1 s1
      obtain ⟨a', xs', k1', k2', r', w', n', _⟩ := c1.l.own i ds hi
      rw [k1] at k1'; cases k1'
      have rd : Rp X.K g1 H1 v d := by
        cases dx with
        | d z => cases e5; exact r1
        | b z => cases e5
      refine ⟨a, xs', v, rfl, rfl, k2', by rw [r'.length, line_eq]; exact hz, ?_⟩
      exact q σ g1 _ (fun g0 z => (z.trans x1).wroteNew z0) ((x1.w cr.s.cw).trans (ExtW.wrote w')) ⟨s1.wrote w' n', c1.l.upOwn hi k1 (r'.append (.cons rd .nil))⟩
    · cases e4
  · rename_i m hi
    split at e4
    · rename_i ds hm
      split at e4
      · rename_i hz
        cases e4
        obtain ⟨v0, k1, rc⟩ := cr.l.dat i _ hi
        have xx : ∀ (a : Addr) (l : Hp → Prop), a = a → True := fun _ _ _ => trivial
        cases rc with
        | @cell a _ hc =>
          obtain ⟨ys, hy⟩ := cr.s.wi a (cr.s.cw a (List.mem_of_getElem? hc))
          refine ⟨_, k1, Or.inl ⟨rfl, _, Or.inl (Or.inl hy)⟩, g, H0, L, S, dx, _, cr, e1, fun v g1 H1 x1 s1 r1 => ?_⟩
          have c1 := cr.ext x1 s1
          have rd : Rp X.K g1 H1 v d := by
            cases dx with
            | d z => cases e5; exact r1
            | b z => cases e5
          have rc1 : Rp X.K g1 H1 (.ref a) (.cell m) := Rp.ext x1 cr.s.cw (.cell hc)
          cases rc1 with
          | cell hc1 =>
            obtain ⟨xs, h2, r2⟩ := s1.st m a ds hc1 hm
            have hm' : a ∈ g1.ca := List.mem_of_getElem? hc1
            refine ⟨a, xs, v, rfl, rfl, h2, by rw [r2.length, line_eq]; exact hz, ?_⟩
            exact q σ g1 _ (fun g0 z => (z.trans x1).trans (Ext.wrote h2 hm')) ((x1.w cr.s.cw).trans (ExtW.wrote (s1.cw a hm'))) ⟨s1.cell hc1 (r2.append (.cons rd .nil)), c1.l.cell (s1.cw a hm') hm'⟩
      · cases e4
    · cases e4
  · cases e4
theorem Rps.dropLast {K : PySem.W.Frag} {g : Gh} {H : Hp} {vs : List V} {ds : List D} (r : Rps K g H vs ds) : Rps K g H vs.dropLast ds.dropLast := by
  rw [List.dropLast_eq_take, List.dropLast_eq_take, r.length]
  exact r.take _
/-- x.pop() -/
theorem ps_popD {i : Nat} (hN : X.N[i]? = some x) (hv : Vis X.env.scope x) (hd : (x == ("__debug__" : Str)) = false) (hcd : (x == ("__classdict__" : Str)) = false) {ap : Pos} (hline : (ap.endLine == p'.line) = true) :
    PS X (.Expr (.Call (.Attribute (.Name x p) "pop" ap) [] [] p') pos) (tDS X.K fun L S => match L[i]? with
    | some (.own xs) => if xs.length = 0 then none else some ((.nx, L.set i (.own xs.dropLast)), S)
    | _ => none) := by
  refine (ps_expr (pe_bm0 PySem.F.plainAttrs_list PySem.F.slot_list_pop PySem.F.type_list_pop mt_pop (pe_var hN hv hd hcd) rfl hline) rfl).wk fun D σ H h => ?_
  obtain ⟨g, H0, L, S, f, La, S', cr, e, q⟩ := h
  dsimp only at e
  split at e
  · rename_i ds hi
    split at e
    · cases e
    · rename_i hz
      cases e
      obtain ⟨a, xs, k1, k2, r, w, n, z0⟩ := cr.l.own i ds hi
      have l1 := r.length
      have hlt : xs.length - 1 < xs.length := by omega
      refine ⟨_, k1, Or.inl ⟨rfl, _, Or.inl (Or.inl k2)⟩, a, xs, xs[xs.length - 1], rfl, rfl, k2, by simp [hlt], ?_⟩
      exact q σ g _ (fun g0 z => z.wroteNew z0) (ExtW.wrote w) ⟨cr.s.wrote w n, cr.l.upOwn hi k1 r.dropLast⟩
  · cases e
/-- x op= e, whole numbers -/
def rA : BO → V → V → Hp → VK → Prop
  | .add => rI0 fun i j => .int (i + j)
  | .sub => rI0 fun i j => .int (i - j)
  | _ => fun _ _ _ _ => False
theorem ip_A (o : BO) : PIp X o.op (rA o) := by
  cases o with
  | add => exact iop_add
  | sub => exact iop_sub
  | _ => exact fun _ _ _ _ _ _ _ _ _ _ _ _ h => h.elim
theorem ps_augD {i : Nat} (o : BO) (hN : X.N.Nodup) (hi : X.N[i]? = some x) (hx : L2.Loc X.env.scope x) (he : PE X e (tD X.K ma)) (hf : X.fn x = true ∨ X.env.scope.names.lookup x = some .local) :
    PS X (.AugAssign (.Name x p) o.op e pos) (tDS X.K fun L S => match L[i]? with
    | some (.dat d) => bnd (ma L S) fun y S1 => bnd (lft (augV o d y) S1) fun z S1 => some ((.nx, L.set i (.dat z)), S1)
    | _ => none) := by
  refine (ps_aug hN hi hx he (ip_A o) hf).wk fun D σ H h => ?_
  obtain ⟨g, H0, L, S, f, La, S', cr, e, q⟩ := h
  dsimp only at e
  split at e
  · rename_i d hd
    obtain ⟨dy, S1, e1, e2⟩ := of_bnd e
    obtain ⟨z, S2, e3, e4⟩ := of_bnd e2
    obtain ⟨e5, eS⟩ := of_lft e3
    subst eS
    cases e4
    obtain ⟨v, h1, r⟩ := cr.l.dat i d hd
    refine ⟨v, h1, g, H0, L, S, dy, _, cr, e1, fun u g1 H1 x1 s1 r1 => ?_⟩
    have fin : ∀ k : Int, z = .int k → D.nx (σ.set i (some (.int k))) H1 := fun k hk => by
      subst hk
      exact q _ g1 H1 (fun g0 z => z.trans x1) (x1.w cr.s.cw) ((cr.ext x1 s1).set (.int k))
    unfold augV at e5
    split at e5
    · cases e5
      cases r
      exact ⟨_, _, rfl, r1.intV, fin _ rfl⟩
    · cases e5
      cases r
      exact ⟨_, _, rfl, r1.intV, fin _ rfl⟩
    · cases e5
  · cases e
end
end PD

set_option Elab.async false
set_option linter.all false
set_option maxRecDepth 100000
set_option maxHeartbeats 4000000
/-! PD, part j: loops, stores in a row, comprehensions stored. -/
namespace PD
open PySem PySem.Spec PyProof.Rows L2

section
variable {X : Cx} {e a b c : Expr} {es : List Expr} {ma mb mc : Ms Va} {mes : Ms (List Va)} {mw mf : Ms (List D)} {pos p p' : Pos} {x y : Str} {st : Stmt} {sts sts' : List Stmt} {ms ms' : Ms (Fl × Loc)}
  {sl : List Nat} {pu : Bool} {mg : D → Ms Loc} {tg iter : Expr}
theorem ps_forD (hp : PassesOwn (model X.prog X.w) X.A X.env X.xe) (hc : X.calm = true) (hi : PI X tg iter (tDI X.K false mw)) (hg : PG X tg (tDG X.K sl pu mg)) (hb : PSs X sts (tDS X.K ms))
    (hs : ∀ x, foldedSetIterable iter X.env x = pure x) :
    PS X (.For tg iter sts [] pos) (tDS X.K fun L S => bnd (mw L S) fun ds S1 => forL (fun d L S => bnd (mg d L S) fun Lb S2 => ms Lb S2) ds L S1) := by
  refine (ps_for hp hc hi hg hb hs).wk fun D σ H h => ?_
  obtain ⟨g, H0, L, S, f, La, S', cr, e, q⟩ := h
  obtain ⟨ds, S1, e1, e2⟩ := of_bnd e
  refine ⟨g, H0, L, S, ds, S1, cr, e1, fun J g1 H1 x1 s1 j => ?_⟩
  have c1 := cr.ext x1 s1
  have q1 := q.on (fun g0 z => z.trans x1) (x1.w cr.s.cw)
  refine ⟨fun i m σ H => m = ds.length - i ∧ i ≤ ds.length ∧ ∃ g2 Lc S2, (∀ g0, Ext g0 H0 g1 H1 → Ext g0 H0 g2 H) ∧ ExtW g1 H1 g2 H ∧ Cr X.K g2 H0 σ H Lc S2 ∧
      forL (fun d L S => bnd (mg d L S) fun Lb S2 => ms Lb S2) (ds.drop i) Lc S2 = some ((f, La), S'),
    ⟨ds.length, by simp, Nat.zero_le _, g1, L, S1, fun _ z => z, ExtW.refl, c1, by simpa using e2⟩, ?_⟩
  rintro i m σ2 H2 ⟨rfl, hi, g2, Lc, S2, x2, w2, c2, e3⟩
  have jj := j g2 H2 S2 (by simpa using w2) c2.s
  by_cases hlt : i < ds.length
  · right
    obtain ⟨go, yl⟩ := jj.1 i ds[i] (by simp [hlt])
    rw [List.drop_eq_getElem_cons hlt] at e3
    unfold forL at e3
    obtain ⟨⟨f1, L1⟩, S3, e4, e5⟩ := of_bnd e3
    obtain ⟨Lb, S4, e6, e7⟩ := of_bnd e4
    refine ⟨go, fun σ H => i + 1 ≤ ds.length ∧ ∃ g2 Lc S2, (∀ g0, Ext g0 H0 g1 H1 → Ext g0 H0 g2 H) ∧ ExtW g1 H1 g2 H ∧ Cr X.K g2 H0 σ H Lc S2 ∧
      forL (fun d L S => bnd (mg d L S) fun Lb S2 => ms Lb S2) (ds.drop (i + 1)) Lc S2 = some ((f, La), S'), fun σ' H' hH => ⟨ds.length - (i + 1), by omega, rfl, hH⟩, fun v H3 y => ?_⟩
    obtain ⟨x3, s3, r3⟩ := yl v H3 y
    refine ⟨g2, H0, Lc, S2, _, Lb, S4, c2.ext x3 s3, r3, e6, fun σ4 g4 H4 x4 w4 c4 _ _ _ => ?_⟩
    have x14 : ∀ g0, Ext g0 H0 g1 H1 → Ext g0 H0 g4 H4 := fun g0 z => x4 g0 ((x2 g0 z).trans x3)
    have w14 : ExtW g1 H1 g4 H4 := w2.trans ((x3.w c2.s.cw).trans w4)
    refine ⟨g4, H0, Lb, S4, f1, L1, S3, c4, e7, ?_⟩
    cases f1 with
    | nx => exact fun σ5 g5 H5 x5 w5 c5 => ⟨hlt, g5, L1, S3, fun g0 z => x5 g0 (x14 g0 z), w14.trans w5, c5, e5⟩
    | cnt => exact fun σ5 g5 H5 x5 w5 c5 => ⟨hlt, g5, L1, S3, fun g0 z => x5 g0 (x14 g0 z), w14.trans w5, c5, e5⟩
    | brk =>
      cases e5
      exact (q1.on x14 w14 : aft X.K g4 H0 H4 D .nx _ _)
    | ret d =>
      cases e5
      exact (q1.on x14 w14 : aft X.K g4 H0 H4 D (.ret d) _ _)
  · left
    have ei : i = ds.length := by omega
    subst ei
    refine ⟨jj.2, ?_⟩
    rw [List.drop_length] at e3
    cases e3
    exact (q1.on x2 w2 : aft X.K g2 H0 H2 D .nx _ _) σ2 g2 H2 (fun _ z => z) ExtW.refl c2
theorem ps_forCD (hp : PassesOwn (model X.prog X.w) X.A X.env X.xe) (hc : X.calm = true) (hi : PE X iter (tD X.K ma)) (hg : PG X tg (tDG X.K sl pu mg)) (hb : PSs X sts (tDS X.K ms))
    (hs : ∀ x, foldedSetIterable iter X.env x = pure x) :
    PS X (.For tg iter sts [] pos) (tDS X.K fun L S => bnd (ma L S) fun x S1 => bnd (lft (cellOf x S1) S1) fun p S1 => bnd (forL (fun d L S => if sameC S p.1 p.2 = true then bnd (mg d L S) fun Lb S2 => ms Lb S2 else none) p.2 L S1) fun r S2 => if sameC S2 p.1 p.2 = true then some (r, S2) else none) := by
  refine (ps_for hp hc (pi_list hi) hg hb hs).wk fun D σ H h => ?_
  obtain ⟨g, H0, L, S, f, La, S', cr, e, q⟩ := h
  obtain ⟨dx, S1, e1, e2⟩ := of_bnd e
  obtain ⟨⟨n, ds⟩, S2, e3, e4⟩ := of_bnd e2
  obtain ⟨e5, eS⟩ := of_lft e3
  subst eS
  obtain ⟨⟨f', La'⟩, S3, e6, e7⟩ := of_bnd e4
  split at e7
  · rename_i hfin
    cases e7
    have hfin := of_sameC hfin
    unfold cellOf at e5
    split at e5
    · rename_i n'
      cases k : S2[n']? with
      | none => rw [k] at e5; cases e5
      | some ds' =>
        rw [k] at e5
        cases e5
        refine ⟨g, H0, L, S, _, S2, cr, e1, fun v g1 H1 x1 s1 r1 => ?_⟩
        have r1 : Rp X.K g1 H1 v (.cell n) := r1
        cases r1 with
        | @cell a _ hca =>
          obtain ⟨ys, hy, _⟩ := s1.st n a ds hca k
          have c1 := cr.ext x1 s1
          have q1 := q.on (fun g0 z => z.trans x1) (x1.w cr.s.cw)
          refine ⟨a, rfl, ⟨ys, SqL.of hy⟩, ?_⟩
          refine ⟨fun i m σ H => m = ds.length - i ∧ i ≤ ds.length ∧ ∃ g2 Lc S2, (∀ g0, Ext g0 H0 g1 H1 → Ext g0 H0 g2 H) ∧ ExtW g1 H1 g2 H ∧ Cr X.K g2 H0 σ H Lc S2 ∧
              forL (fun d L S => if sameC S n ds = true then bnd (mg d L S) fun Lb S2 => ms Lb S2 else none) (ds.drop i) Lc S2 = some ((f, La), S'),
            ⟨ds.length, by simp, Nat.zero_le _, g1, L, S2, fun _ z => z, ExtW.refl, c1, by simpa using e6⟩, ?_⟩
          rintro i m σ2 H2 ⟨rfl, hi, g2, Lc, S4, x2, w2, c2, e8⟩
          have hc2 : g2.ca[n]? = some a := by
            obtain ⟨mm, em⟩ := w2.ca
            rw [em, List.getElem?_append_left (List.getElem?_eq_some_iff.mp hca).1]
            exact hca
          by_cases hlt : i < ds.length
          · right
            rw [List.drop_eq_getElem_cons hlt] at e8
            unfold forL at e8
            obtain ⟨⟨f1, L1⟩, S5, e9, e10⟩ := of_bnd e8
            split at e9
            · rename_i hsame
              have hsame := of_sameC hsame
              obtain ⟨Lb, S6, e11, e12⟩ := of_bnd e9
              obtain ⟨xs, hx, rx⟩ := c2.s.st n a ds hc2 hsame
              obtain ⟨u, hu, ru⟩ := rx.get (i := i) (d := ds[i]) (by simp [hlt])
              refine ⟨⟨xs, u, SqL.of hx, hu⟩, fun σ H => i + 1 ≤ ds.length ∧ ∃ g2 Lc S2, (∀ g0, Ext g0 H0 g1 H1 → Ext g0 H0 g2 H) ∧ ExtW g1 H1 g2 H ∧ Cr X.K g2 H0 σ H Lc S2 ∧
                forL (fun d L S => if sameC S n ds = true then bnd (mg d L S) fun Lb S2 => ms Lb S2 else none) (ds.drop (i + 1)) Lc S2 = some ((f, La), S'), fun σ' H' hH => ⟨ds.length - (i + 1), by omega, rfl, hH⟩, fun v H3 y => ?_⟩
              obtain ⟨rfl, y⟩ := y
              have yy := y xs (SqL.of hx)
              rw [hu] at yy
              cases yy
              refine ⟨g2, H0, Lc, S4, _, Lb, S6, c2, ru, e11, fun σ4 g4 H4 x4 w4 c4 _ _ _ => ?_⟩
              have x14 : ∀ g0, Ext g0 H0 g1 H1 → Ext g0 H0 g4 H4 := fun g0 z => x4 g0 (x2 g0 z)
              have w14 : ExtW g1 H1 g4 H4 := w2.trans w4
              refine ⟨g4, H0, Lb, S6, f1, L1, S5, c4, e12, ?_⟩
              cases f1 with
              | nx => exact fun σ5 g5 H5 x5 w5 c5 => ⟨hlt, g5, L1, S5, fun g0 z => x5 g0 (x14 g0 z), w14.trans w5, c5, e10⟩
              | cnt => exact fun σ5 g5 H5 x5 w5 c5 => ⟨hlt, g5, L1, S5, fun g0 z => x5 g0 (x14 g0 z), w14.trans w5, c5, e10⟩
              | brk =>
                cases e10
                exact (q1.on x14 w14 : aft X.K g4 H0 H4 D .nx _ _)
              | ret d =>
                cases e10
                exact (q1.on x14 w14 : aft X.K g4 H0 H4 D (.ret d) _ _)
            · cases e9
          · left
            have ei : i = ds.length := by omega
            subst ei
            rw [List.drop_length] at e8
            cases e8
            obtain ⟨xs, hx, rx⟩ := c2.s.st n a ds hc2 hfin
            exact ⟨⟨xs, SqL.of hx, by rw [rx.length]; exact Nat.le_refl _⟩, (q1.on x2 w2 : aft X.K g2 H0 H2 D .nx _ _) σ2 g2 H2 (fun _ z => z) ExtW.refl c2⟩
    · cases e5
  · cases e7
theorem ps_whD {mt : Ms Bool} (hp : PassesOwn (model X.prog X.w) X.A X.env X.xe) (hc : PT X c (tDT X.K mt)) (hb : PSs X sts (tDS X.K ms)) :
    PS X (.While c sts [] pos) (tDS X.K fun L S => whL mt ms L S) := by
  refine (ps_while hp hc hb).wk fun D σ H h => ?_
  obtain ⟨g, H0, L, S, f, La, S', cr, e, q⟩ := h
  obtain ⟨n, hn⟩ := of_whL e
  refine ⟨fun m σ H2 => ∃ g2 Lc S2, (∀ g0, Ext g0 H0 g H → Ext g0 H0 g2 H2) ∧ ExtW g H g2 H2 ∧ Cr X.K g2 H0 σ H2 Lc S2 ∧ whN mt ms m Lc S2 = some ((f, La), S'),
    ⟨n, g, L, S, fun _ z => z, ExtW.refl, cr, hn⟩, ?_⟩
  rintro m σ2 H2 ⟨g2, Lc, S2, x2, w2, c2, e3⟩
  cases m with
  | zero => cases e3
  | succ m =>
    unfold whN at e3
    obtain ⟨k, S3, e4, e5⟩ := of_bnd e3
    refine ⟨g2, H0, Lc, S2, k, S3, c2, e4, fun g3 H3 x3 s3 => ?_⟩
    have c3 := c2.ext x3 s3
    have x13 : ∀ g0, Ext g0 H0 g H → Ext g0 H0 g3 H3 := fun g0 z => (x2 g0 z).trans x3
    have w13 : ExtW g H g3 H3 := w2.trans (x3.w c2.s.cw)
    cases k with
    | false =>
      simp only [Bool.false_eq_true, if_false] at e5 ⊢
      cases e5
      exact (q.on x13 w13 : aft X.K g3 H0 H3 D .nx _ _) σ2 g3 H3 (fun _ z => z) ExtW.refl c3
    | true =>
      simp only [if_true] at e5 ⊢
      obtain ⟨⟨f1, L1⟩, S4, e6, e7⟩ := of_bnd e5
      refine ⟨fun σ H2 => ∃ g2 Lc S2, (∀ g0, Ext g0 H0 g H → Ext g0 H0 g2 H2) ∧ ExtW g H g2 H2 ∧ Cr X.K g2 H0 σ H2 Lc S2 ∧ whN mt ms m Lc S2 = some ((f, La), S'), fun σ' H' hH => ⟨m, Nat.lt_succ_self m, hH⟩, g3, H0, Lc, S3, f1, L1, S4, c3, e6, ?_⟩
      cases f1 with
      | nx => exact fun σ5 g5 H5 x5 w5 c5 => ⟨g5, L1, S4, fun g0 z => x5 g0 (x13 g0 z), w13.trans w5, c5, e7⟩
      | cnt => exact fun σ5 g5 H5 x5 w5 c5 => ⟨g5, L1, S4, fun g0 z => x5 g0 (x13 g0 z), w13.trans w5, c5, e7⟩
      | brk =>
        cases e7
        exact (q.on x13 w13 : aft X.K g3 H0 H3 D .nx _ _)
      | ret d =>
        cases e7
        exact (q.on x13 w13 : aft X.K g3 H0 H3 D (.ret d) _ _)

/-! ### comprehensions stored at once -/
variable {elt : Expr} {ifs : List Expr} {scope : Scope} {own : List (Str × Nat)} {mt : Ms Bool} {me : Ms Va}
/-- name = [..], the name's own -/
theorem ps_ownLc {i : Nat} (hc : X.calm = true) (hN : X.N.Nodup) (hy : X.N[i]? = some y) (hyl : X.env.scope.names.lookup y = some .local)
    (hsw : swapsWith (.ListComp elt [⟨tg, iter, ifs, 0⟩] scope p) (some (.Name y p')) pos.line X.env = pure true) (hi : PI X tg iter (tDI X.K true mw)) (ok : BlkOk X.N X.env.scope scope own)
    (hsl : ∀ j ∈ sl, j ∈ own.map (·.2))
    (hg : ∀ (s : Shared) (H : Hp) (C : Addr) (cl : List (Str × Addr)) (fp : List Addr), PG (X.blk s H scope (compEnvC scope cl C X.env) fp) tg (tDG X.K sl true mg))
    (ht : ∀ (s : Shared) (H : Hp) (C : Addr) (cl : List (Str × Addr)) (fp : List Addr), PTs (X.blk s H scope (compEnvC scope cl C X.env) fp) ifs (tDT X.K mt))
    (he : ∀ (s : Shared) (H : Hp) (C : Addr) (cl : List (Str × Addr)) (fp : List Addr), PE (X.blk s H scope (compEnvC scope cl C X.env) fp) elt (tD X.K me)) (hs : ∀ x, foldedSetIterable iter X.env x = pure x) :
    PS X (.Assign [.Name y p'] (.ListComp elt [⟨tg, iter, ifs, 0⟩] scope p) pos) (tDS X.K fun L S => bnd (bnd (mw L S) fun ds S1 => if ds.length < line then compL (mC mg mt me (wipeL L (own.map (·.2)))) ds S1 else none) fun xs S1 => some ((.nx, L.set i (.own xs)), S1)) := by
  refine (ps_setLc hc hN hy hyl hsw hi ok hg ht he hs).wk fun D σ H h => ?_
  have h2 := own_wk σ H D h
  exact comp_wk hsl σ H _ h2
/-- name = [..], a datum -/
theorem ps_asgLc {i : Nat} (hc : X.calm = true) (hN : X.N.Nodup) (hy : X.N[i]? = some y) (hyl : X.env.scope.names.lookup y = some .local)
    (hsw : swapsWith (.ListComp elt [⟨tg, iter, ifs, 0⟩] scope p) (some (.Name y p')) pos.line X.env = pure true) (hi : PI X tg iter (tDI X.K true mw)) (ok : BlkOk X.N X.env.scope scope own)
    (hsl : ∀ j ∈ sl, j ∈ own.map (·.2))
    (hg : ∀ (s : Shared) (H : Hp) (C : Addr) (cl : List (Str × Addr)) (fp : List Addr), PG (X.blk s H scope (compEnvC scope cl C X.env) fp) tg (tDG X.K sl true mg))
    (ht : ∀ (s : Shared) (H : Hp) (C : Addr) (cl : List (Str × Addr)) (fp : List Addr), PTs (X.blk s H scope (compEnvC scope cl C X.env) fp) ifs (tDT X.K mt))
    (he : ∀ (s : Shared) (H : Hp) (C : Addr) (cl : List (Str × Addr)) (fp : List Addr), PE (X.blk s H scope (compEnvC scope cl C X.env) fp) elt (tD X.K me)) (hs : ∀ x, foldedSetIterable iter X.env x = pure x) :
    PS X (.Assign [.Name y p'] (.ListComp elt [⟨tg, iter, ifs, 0⟩] scope p) pos) (tDS X.K fun L S => bnd (bnd (bnd (mw L S) fun ds S1 => if ds.length < line then compL (mC mg mt me (wipeL L (own.map (·.2)))) ds S1 else none) fun xs S1 => some (Va.d (.lst xs), S1)) fun x S1 => bnd (lft (unV x) S1) fun d S1 => bnd (some (L.set i (.dat d), S1)) fun Lb S2 => some ((.nx, Lb), S2)) := by
  refine (ps_setLc hc hN hy hyl hsw hi ok hg ht he hs).wk fun D σ H h => ?_
  refine comp_wk hsl σ H _ ?_
  obtain ⟨g, H0, L, S, f, La, S', cr, e, q⟩ := h
  obtain ⟨x0, S1, e1, e2⟩ := of_bnd e
  obtain ⟨xs, S2, e3, e4⟩ := of_bnd e1
  cases e4
  cases e2
  refine ⟨g, H0, L, S, xs, _, cr, e3, fun p vs g1 H1 x1 s1 hp r w n z => ?_⟩
  have c1 := cr.ext x1 s1
  have z0 : H0 p = none := by
    cases k : H0 p with
    | none => rfl
    | some o =>
      obtain ⟨o', h'⟩ := cr.l.old p o k
      rw [z] at h'; cases h'
  have lz : LR X.K (g1.minus p) H0 σ H1 L := by
    refine ⟨c1.l.len, c1.l.old, fun j d hj => ?_, fun j es hj => ?_, c1.l.inj⟩
    · obtain ⟨v, k1, k2⟩ := c1.l.dat j d hj
      exact ⟨v, k1, k2.minus⟩
    · obtain ⟨a, ys, k1, k2, k3, k4, k5, k6⟩ := c1.l.own j es hj
      obtain ⟨a', ys', k1', k2', _⟩ := cr.l.own j es hj
      rw [k1] at k1'; cases k1'
      exact ⟨a, ys, k1, k2, k3.minus, ⟨k4, fun q => by rw [q, z] at k2'; cases k2'⟩, k5, k6⟩
  exact q _ (g1.minus p) H1 (fun g0 zz => (zz.trans x1).minus z0) ((x1.w cr.s.cw).trans ExtW.minus) ⟨s1.minus n, lz.set (.lst (.inl ⟨.inl hp, fun q => q.2 rfl⟩) r.minus)⟩

/-! ### a, b = x, y: stored from the right -/
def setσ : List Nat → List V → L2.St → L2.St
  | j :: js, v :: vs, σ => setσ js vs (σ.set j (some v))
  | _, _, σ => σ
theorem Cr.setAll {K : PySem.W.Frag} {g : Gh} {H0 H : Hp} {S : Store} : ∀ {js : List Nat} {vs : List V} {ds : List D} {σ : L2.St} {L : Loc}, Cr K g H0 σ H L S → Rps K g H vs ds → Cr K g H0 (setσ js vs σ) H (PD.setAll js ds L) S
  | [], _, _, _, _, c, _ => by unfold setσ PD.setAll; exact c
  | _ :: _, _, _, _, _, c, .nil => by unfold setσ PD.setAll; exact c
  | _ :: js, _, _, _, _, c, .cons h r => Cr.setAll (js := js) (c.set h) r
theorem stores_run {H : Hp} {pins : List (Addr × Obj)} (hN : X.N.Nodup) (Q : Unit → Shared → Prop) : ∀ (js : List Nat) (ns : List Str) (vs : List V) (us : List Value) (σ : L2.St) (s : Shared), L2.Inv X pins σ H s → Vals vs us →
    js.length = ns.length → ns.length = vs.length → (∀ (i : Nat) j n, js[i]? = some j → ns[i]? = some n → X.N[j]? = some n ∧ X.env.scope.names.lookup n = some .local) → (∀ s', L2.Inv X pins (setσ js vs σ) H s' → Q () s') →
    wpAny (model X.prog X.w) X.A (assignInOrder (ns.map fun n v => bindName X.env n v) us) Q X.xe s := by
  intro js
  induction js with
  | nil =>
    intro ns vs us σ s I r l1 l2 h q
    cases ns with
    | cons _ _ => cases l1
    | nil =>
      cases r with
      | cons _ _ => cases l2
      | nil => exact assignInOrder_nil (q s I)
  | cons j js ih =>
    intro ns vs us σ s I r l1 l2 h q
    cases ns with
    | nil => cases l1
    | cons n ns =>
      cases r with
      | nil => cases l2
      | cons r rs =>
        obtain ⟨h1, h2⟩ := h 0 j n rfl rfl
        refine assignInOrder_cons (wpAny_bindName (store_ok I hN h1 (.inl h2) r (fun s2 I2 => ?_) (.inr h2)))
        exact ih ns _ _ _ s2 I2 rs (by simpa using l1) (by simpa using l2) (fun i j n k1 k2 => h (i + 1) j n (by simpa using k1) (by simpa using k2)) q
theorem ps_parD {ts : List Expr} {kt k2 : Nat} {pt pt2 : Pos} {ns : List Str} {is : List Nat} (hc : X.calm = true) (hN : X.N.Nodup)
    (hix : ∀ (i : Nat) j n, is[i]? = some j → ns[i]? = some n → X.N[j]? = some n ∧ X.env.scope.names.lookup n = some .local) (hl : is.length = ns.length) (hz : ns.length ≤ 1000)
    (ha : PA X es (tDA X.K mes)) (hw : swappedStores [.Tuple ts kt pt] (.Tuple es k2 pt2) X.env = pure (some ns)) :
    PS X (.Assign [.Tuple ts kt pt] (.Tuple es k2 pt2) pos) (tDS X.K fun L S => bnd (mes L S) fun xs S1 => bnd (lft (unVs xs) S1) fun ds S1 => if ds.length = is.length then some ((.nx, setAll is.reverse ds.reverse L), S1) else none) := by
  refine ⟨fun pins s σ H D I h => ?_⟩
  obtain ⟨g, H0, L, S, f, La, S', cr, e, q⟩ := h
  obtain ⟨xs, S1, e1, e2⟩ := of_bnd e
  obtain ⟨ds, S2, e3, e4⟩ := of_bnd e2
  obtain ⟨e5, eS⟩ := of_lft e3
  subst eS
  split at e4
  · rename_i hds
    cases e4
    rw [exec_Assign_arm]
    refine wpAny_bind (wpAny_standAt ?_)
    rw [show swapsWithSole [.Tuple ts kt pt] (.Tuple es k2 pt2) pos.line X.env = pure false from rfl]
    refine wpAny_bind (wpAny_pure ?_)
    rw [if_neg Bool.false_ne_true]
    refine wpAny_bind (Tuple_ (thn (ha.run _ pins s σ H (fun vs H1 => ∃ g1, Ext g H g1 H1 ∧ Gs X.K g1 H1 S' ∧ RpVs X.K g1 H1 vs xs) I ⟨g, H0, L, S, xs, S', cr, e1, fun vs g1 H1 x1 s1 r1 => ⟨g1, x1, s1, r1⟩⟩) ?_))
    rintro us s1 ⟨vs, H1, I1, r1, g1, x1, t1, v1⟩
    have lv : vs.length = ns.length := by rw [v1.length, ← unVs_len e5, hds, hl]
    have lu : us.length = ns.length := by rw [← r1.length, lv]
    refine wpAny_newObj_type ?_ (by
      show us.length ≤ sizeLine
      have z1000 : (1000 : Nat) ≤ sizeLine := by decide
      omega)
    have I2 : Inv X pins σ H1 { s1 with heap := s1.heap.push { cls := .type "tuple", data := .seq us.toArray } } := I1.kept (t' := s1.toks) fun b o e => Heap.get?_push_of_some _ e
    rw [hw]
    refine wpAny_bind (wpAny_pure ?_)
    show wpAny (model X.prog X.w) X.A (do rule "assign.swapped-stores"; let items ← unpackItems (.ref s1.heap.objs.size) ns.length none; assignInOrder (ns.reverse.map fun n => bindName X.env n) items.reverse; pure Flow.next) _ _ _
    refine wpAny_bind (wpAny_rule (wpAny_bind ?_))
    rw [show ns.length = us.toArray.size by simp [lu]]
    refine unpackItems_tuple (items := us.toArray) (I.ok.hd hc) (IsTup.new s1.heap _) fun h' hx' => ?_
    have I3 := I2.kept (h' := h') (t' := s1.toks) fun b o e => hx' b o (Nat.ne_of_lt (Heap.lt_size e)) e
    refine wpAny_bind ?_
    refine stores_run hN _ is.reverse ns.reverse vs.reverse us.reverse σ _ I3 r1.reverse (by simp [hl]) (by simp [lv]) (fun i j n k1 k2 => ?_) fun s' I' => ?_
    · have hi : i < is.length := by
        have := (List.getElem?_eq_some_iff.mp k1).1
        simpa using this
      rw [List.getElem?_reverse hi] at k1
      rw [List.getElem?_reverse (by omega)] at k2
      exact hix _ j n k1 (by rw [hl]; exact k2)
    · refine wpAny_pure ?_
      have rp := v1.strict e5
      have c1 := cr.ext x1 t1
      exact ⟨_, H1, I', q _ g1 H1 (fun g0 z => z.trans x1) (x1.w cr.s.cw) (c1.setAll (js := is.reverse) rp.reverse)⟩
  · cases e4
end
end PD

set_option Elab.async false
set_option linter.all false
set_option maxRecDepth 100000
set_option maxHeartbeats 4000000
/-! PD, part k: the text against the small language; the one theorem. -/
namespace PD
open PySem PySem.Spec PyProof.Rows L2

structure Ck where
  N : List Str
  sn : List (Str × NameKind)
  fc : Str → Bool

def okN (x : Str) : Bool := !(x == ("__debug__" : Str)) && !(x == ("__classdict__" : Str))
def Ck.vis (C : Ck) (x : Str) : Bool := match C.sn.lookup x with
  | some .local => true | some .cell => true | some .free => true | _ => false
def Ck.loc (C : Ck) (x : Str) : Bool := match C.sn.lookup x with
  | some .local => true | some .cell => C.fc x | _ => false
def Ck.gl (C : Ck) (x : Str) : Bool := match C.sn.lookup x with
  | some .globalImplicit => okN x | _ => false
def Ck.nm (C : Ck) (i : Nat) (x : Str) : Bool := decide (C.N[i]? = some x) && C.vis x && okN x
def Ck.tg (C : Ck) (i : Nat) (x : Str) : Bool := decide (C.N[i]? = some x) && C.loc x
def isStar : Expr → Bool
  | .Starred _ _ => true | _ => false
def isComp : Expr → Bool
  | .ListComp .. => true | .SetComp .. => true | .DictComp .. => true | _ => false
def isSetE : Expr → Bool
  | .Set .. => true | _ => false
def isTupE : Expr → Bool
  | .Tuple .. => true | _ => false
def isSlc : Expr → Bool
  | .Slice .. => true | _ => false
def plainTest : Expr → Bool
  | .UnaryOp .. => false | .BoolOp .. => false | .IfExp .. => false | .Compare .. => false | _ => true
def boE (op : BoolOp) (l : List Expr) (pos : Pos) : Expr := match l with
  | [y] => y
  | l => .BoolOp op l pos
def relN (names sn : List (Str × NameKind)) : List (Str × NameKind) :=
  names.map fun (n, k) => if (k == NameKind.free && true && sn.lookup n == some .cell) then (n, NameKind.cell) else (n, k)
def scOf (sn : List (Str × NameKind)) : Scope := { kind := .function, names := sn, isGenerator := false, isCoroutine := false }
def Ck.blk (C : Ck) (scope : Scope) : Ck := ⟨C.N, relN scope.names C.sn, fun x => scope.names.lookup x == some .cell⟩
def ownP (N : List Str) (own : List Nat) : List (Str × Nat) := own.map fun i => (N.getD i ("" : Str), i)
mutual
def Tg.slots : Tg → List Nat
  | .nm i => [i] | .tup ts => Tgs.slots ts | .sub _ _ => [] | .sbx _ _ => []
def Tgs.slots : Tgs → List Nat
  | .nil => [] | .cons t ts => t.slots ++ Tgs.slots ts
end
mutual
def Tg.pu : Tg → Bool
  | .nm _ => true | .tup ts => Tgs.pu ts | .sub _ _ => false | .sbx _ _ => false
def Tgs.pu : Tgs → Bool
  | .nil => true | .cons t ts => t.pu && Tgs.pu ts
end
def Xps.len : Xps → Nat
  | .nil => 0 | .cons _ es => es.len + 1 | .star _ es => es.len + 100000
def Tgs.len : Tgs → Nat
  | .nil => 0 | .cons _ es => es.len + 1
def litB : D → Const → Bool
  | .int i, .int j => decide (i = j) | .bl i, .bool j => i == j | .non, .none => true | .str x, .str y => decide (x = y) | _, _ => false
def biB (G : Gam) (x : Str) (b : Bi) : Bool :=
  (decide (x ∈ G.fre) && decide (bootBuiltins x = some b.val) && !decide (x = ("__name__" : Str))) || (G.bfs.any (fun p => decide (p.1 = x) && decide (p.2 = b.id)) && decide (b.val = .builtin b.id))

def isBo : Expr → Bool
  | .BoolOp .. => true | _ => false

variable (G : Gam)
mutual
/-- md: as a test -/
def chX (C : Ck) : Bool → Xp → Expr → Bool
  | _, .nm i, ex => match ex with | .Name x _ => C.nm i x | _ => false
  | _, .gc j, ex => match ex with | .Name x _ => C.gl x && (match G.cons[j]? with | some p => decide (p.1 = x) | none => false) | _ => false
  | _, .lit d, ex => match ex with | .Constant c _ _ => litB d c | _ => false
  | _, .bin o a b, ex => match ex with | .BinOp x op y _ => decide (op = o.op) && chX C false a x && chX C false b y | _ => false
  | md, .neg a, ex => match ex with | .UnaryOp .USub x _ => !md && chX C false a x | _ => false
  | _, .cmp o a b, ex => match ex with | .Compare x [op] [y] _ => decide (op = o.op) && !behindInMarks o.op y && chX C false a x && chX C false b y | _ => false
  | _, .cmp2 o o' a b c, ex => match ex with | .Compare x [op, op'] [y, z] _ => decide (op = o.op) && decide (op' = o'.op) && !behindInMarks o'.op z && chX C false a x && chX C false b y && chX C false c z | _ => false
  | md, .and a b, ex => match ex with | .BoolOp .And (x :: y :: r) pos => chX C md a x && chX C md b (boE .And (y :: r) pos) | _ => false
  | md, .or a b, ex => match ex with | .BoolOp .Or (x :: y :: r) pos => chX C md a x && chX C md b (boE .Or (y :: r) pos) | _ => false
  | md, .not a, ex => match ex with | .UnaryOp .Not x _ => chX C md a x | _ => false
  | md, .ife c a b, ex => match ex with | .IfExp t x y _ => !md && chX C true c t && chX C false a x && chX C false b y | _ => false
  | _, .tup es, ex => match ex with | .Tuple xs _ _ => chXz C es xs && decide (es.len ≤ 10000000) | _ => false
  | _, .ix a b, ex => match ex with | .Subscript x y _ => !isSlc y && chX C false a x && chX C false b y | _ => false
  | _, .slc a lo hi, ex => match ex with | .Subscript x (.Slice l h none _) _ => chX C false a x && chO C lo l && chO C hi h | _ => false
  | _, .call j es ks, ex => match ex with
    | .Call (.Name x _) xs kws _ => C.gl x && (match G.ents[j]? with | some e => decide (e.name = x) && decide (kws.map (·.arg) = e.ks.map some) | none => false) && chXs C es xs && chKs C ks kws
    | _ => false
  | _, .bi b es, ex => match ex with | .Call (.Name x _) (y :: ys) [] _ => C.gl x && biB G x b && chXs C es (y :: ys) | _ => false
  | _, .bic b es, ex => match ex with | .Call (.Name x _) (y :: ys) [] _ => C.gl x && biB G x b && chXs C es (y :: ys) | _ => false
  | _, .isi a t, ex => match ex with
    | .Call (.Name x _) [y, .Name z _] [] _ => C.gl x && C.gl z && decide (x = ("isinstance" : Str)) && decide (x ∈ G.fre) && decide (z ∈ G.fre) && decide (bootBuiltins z = some (.type t)) && !decide (z = ("__name__" : Str)) && !isStar y && chX C false a y
    | _ => false
  | md, .fr f, ex => !md && chF C f ex
  | md, .nwc f, ex => !md && chF C f ex
  | _, .cntI i b, ex => match ex with | .Call (.Attribute (.Name x _) m ap) [y] [] p => decide (m = ("count" : Str)) && C.nm i x && !isStar y && (ap.endLine == p.line) && chX C false b y | _ => false
  | _, .rev a, ex => match ex with | .Subscript x (.Slice none none (some (.UnaryOp .USub (.Constant (.int 1) _ _) _)) _) _ => chX C false a x | _ => false
def chXs (C : Ck) : Xps → List Expr → Bool
  | .nil, l => match l with | [] => true | _ => false
  | .cons e es, l => match l with | x :: xs => !isStar x && chX C false e x && chXs C es xs | _ => false
  | .star _ _, _ => false
/-- as elements of a display: *e may stand there -/
def chXz (C : Ck) : Xps → List Expr → Bool
  | .nil, l => match l with | [] => true | _ => false
  | .cons e es, l => match l with | x :: xs => !isStar x && chX C false e x && chXz C es xs | _ => false
  | .star e es, l => match l with | (.Starred x _) :: xs => chX C false e x && chXz C es xs | _ => false
def chKs (C : Ck) : Xps → List Keyword → Bool
  | .nil, l => match l with | [] => true | _ => false
  | .cons e es, l => match l with | k :: ks => chX C false e k.value && chKs C es ks | _ => false
  | .star _ _, _ => false
def chO (C : Ck) : Xo → Option Expr → Bool
  | .none, o => match o with | none => true | _ => false
  | .some e, o => match o with | some x => chX C false e x | _ => false
def chF (C : Ck) : Fx → Expr → Bool
  | .disp es, ex => match ex with | .List xs _ => chXz C es xs && decide (es.len ≤ 10000000) | _ => false
  | .comp elt t w c own, ex => match ex with
    | .ListComp x [⟨tg, it, ifs, as⟩] scope _ => decide (as = 0) && !isSetE it && (chW C w it && (!w.pair || isTupE tg)) && blkC C.N (scOf C.sn) scope (ownP C.N own) && t.pu && decide (∀ j ∈ t.slots, j ∈ own) &&
        chG (C.blk scope) t tg && chC (C.blk scope) c ifs && chX (C.blk scope) false elt x
    | _ => false
  | .compc elt t e c own, ex => match ex with
    | .ListComp x [⟨tg, it, ifs, as⟩] scope _ => decide (as = 0) && !isSetE it && chX C false e it && blkC C.N (scOf C.sn) scope (ownP C.N own) && t.pu && decide (∀ j ∈ t.slots, j ∈ own) &&
        chG (C.blk scope) t tg && chC (C.blk scope) c ifs && chX (C.blk scope) false elt x
    | _ => false
  | .list e, ex => match ex with | .Call (.Name x _) [y] [] _ => C.gl x && decide (x = ("list" : Str)) && decide (x ∈ G.fre) && !isStar y && chX C false e y | _ => false
  | .cat a b, ex => match ex with | .BinOp x .Add y _ => chX C false a x && chX C false b y | _ => false
  | .rep f b, ex => match ex with | .BinOp x .Mult y _ => chF C f x && chX C false b y | _ => false
  | .slc a lo hi, ex => match ex with | .Subscript x (.Slice l h none _) _ => chX C false a x && chO C lo l && chO C hi h | _ => false
  | .comp2 elt t w c t1 w1 c1 own own1, ex => match ex with
    | .ListComp x [⟨tg, it, ifs, as⟩, ⟨tg1, it1, ifs1, as1⟩] scope _ => decide (as = 0 ∧ as1 = 0) && (!isSetE it && !isSetE it1) && (chW C w it && (!w.pair || isTupE tg)) && blkC C.N (scOf C.sn) scope (ownP C.N own) && (t.pu && t1.pu) && (decide (∀ j ∈ t.slots, j ∈ own) && decide (∀ j ∈ t1.slots, j ∈ own1) && decide (∀ j ∈ own1, j ∈ own)) &&
        chG (C.blk scope) t tg && chC (C.blk scope) c ifs && (!w1.isB && chW (C.blk scope) w1 it1 && (!w1.pair || isTupE tg1)) && chG (C.blk scope) t1 tg1 && chC (C.blk scope) c1 ifs1 && chX (C.blk scope) false elt x
    | _ => false
def chC (C : Ck) : Xo → List Expr → Bool
  | .none, l => match l with | [] => true | _ => false
  | .some e, l => match l with | [x] => chX C true e x | _ => false
def chW (C : Ck) : Wk → Expr → Bool
  | .seq e, ex => chX C false e ex
  | .bor i, ex => match ex with | .Name x _ => C.nm i x | _ => false
  | .range1 a, ex => match ex with | .Call (.Name x _) [y] [] _ => C.gl x && decide (x = ("range" : Str)) && decide (x ∈ G.fre) && !isStar y && chX C false a y | _ => false
  | .range2 a b, ex => match ex with | .Call (.Name x _) [y, z] [] _ => C.gl x && decide (x = ("range" : Str)) && decide (x ∈ G.fre) && !isStar y && !isStar z && chX C false a y && chX C false b z | _ => false
  | .range3 a b c, ex => match ex with | .Call (.Name x _) [y, z, w] [] _ => C.gl x && decide (x = ("range" : Str)) && decide (x ∈ G.fre) && !isStar y && !isStar z && !isStar w && chX C false a y && chX C false b z && chX C false c w | _ => false
  | .enum e, ex => match ex with | .Call (.Name x _) [y] [] _ => C.gl x && decide (x = ("enumerate" : Str)) && decide (x ∈ G.fre) && !isStar y && chX C false e y | _ => false
  | .enumB i, ex => match ex with | .Call (.Name x _) [.Name y _] [] _ => C.gl x && decide (x = ("enumerate" : Str)) && decide (x ∈ G.fre) && C.nm i y | _ => false
  | .zip a b, ex => match ex with | .Call (.Name x _) [y, z] [] _ => C.gl x && decide (x = ("zip" : Str)) && decide (x ∈ G.fre) && !isStar y && !isStar z && chX C false a y && chX C false b z | _ => false
  | .rvd e, ex => match ex with | .Call (.Name x _) [y] [] _ => C.gl x && decide (x = ("reversed" : Str)) && decide (x ∈ G.fre) && !isStar y && chX C false e y | _ => false
  | .rvr _, _ => false
def chG (C : Ck) : Tg → Expr → Bool
  | .nm i, ex => match ex with | .Name x _ => C.tg i x | _ => false
  | .tup ts, ex => match ex with | .Tuple xs _ _ => chGs C ts xs | _ => false
  | .sub i b, ex => match ex with | .Subscript (.Name x _) y _ => C.nm i x && !isSlc y && chX C false b y | _ => false
  | .sbx a b, ex => match ex with | .Subscript x y _ => !isSlc y && chX C false a x && chX C false b y | _ => false
def chGs (C : Ck) : Tgs → List Expr → Bool
  | .nil, l => match l with | [] => true | _ => false
  | .cons t ts, l => match l with | x :: xs => !isStar x && chG C t x && chGs C ts xs | _ => false
end

/-! ### what the text's forms ask besides -/
theorem star_of {x : Expr} {r : List Expr} {env : PySem.Env} (h : isStar x = false) : starEach (x :: r) env = (false, eval x env) :: starEach r env := by
  cases x <;> first | rfl | cases h
theorem asgn_of {x : Expr} {r : List Expr} {env : PySem.Env} (h : isStar x = false) : assignEach (x :: r) env = (false, assign x env) :: assignEach r env := by
  cases x <;> first | rfl | cases h
theorem ix_of {y : Expr} (h : isSlc y = false) : PlainIx y := by
  cases y <;> first | (exact fun _ _ => rfl) | cases h
theorem fold_of {y : Expr} {env : PySem.Env} (h : isSetE y = false) (x : Value) : foldedSetIterable y env x = pure x := by
  cases y <;> first | rfl | cases h
theorem swaps_of {v : Expr} {t : Option Expr} {l : Nat} {env : PySem.Env} (h : isComp v = false) : swapsWith v t l env = pure false := by
  cases v <;> first | rfl | cases h
theorem test_of {a : Expr} {env : PySem.Env} (h : plainTest a = true) (whole : Sem Value) : isTrue a env whole = (do let v ← whole; standAt a.pos; holding [v] (truthy v)) := by
  cases a <;> first | rfl | cases h
theorem asubx_of {x y : Expr} {pos : Pos} {env : PySem.Env} (h : isSlc y = false) (v : Value) : assign (.Subscript x y pos) env v = (do
      let ov ← holding [v] (eval x env)
      let iv ← holding [v, ov] (eval y env)
      standAt pos
      holding [v, ov, iv] (setItem ov iv v)
      release [v, ov, iv] []) := by
  cases y <;> first | rfl | cases h
theorem asub_of {y : Expr} {x : Str} {p pos : Pos} {env : PySem.Env} (h : isSlc y = false) (v : Value) : assign (.Subscript (.Name x p) y pos) env v = (do
      let ov ← holding [v] (eval (.Name x p) env)
      let iv ← holding [v, ov] (eval y env)
      standAt pos
      holding [v, ov, iv] (setItem ov iv v)
      release [v, ov, iv] []) := by
  cases y <;> first | rfl | cases h
/-- the swapped stores of a, b = x, y -/
def swapB (sn : List (Str × NameKind)) (ts vs : List Expr) : Option (Option (List Str)) :=
  if (!(ts.length == 2 || ts.length == 3) || vs.length != ts.length) = true then some none
  else if vs.any isStar = true then some none
  else
    let names := ts.filterMap fun | .Name id pos => if sn.lookup id == some .local && pos.line == (ts.head?.map (·.pos.line)).getD 0 then some id else none | _ => none
    if (names.length != ts.length || names.eraseDups.length != names.length) = true then some none
    else if vs.all (foldedForSure 8) = true then some none
    else if vs.all (constantsAlone 8) = true then none
    else some (some names)
theorem swap_of {env : PySem.Env} {ts vs : List Expr} {k k2 : Nat} {p p2 : Pos} {r : Option (List Str)} (hk : env.scope.kind = .function) (h : swapB env.scope.names ts vs = some r) :
    swappedStores [.Tuple ts k p] (.Tuple vs k2 p2) env = pure r := by
  have hb : env.blockKind = .function := by unfold PySem.Env.blockKind; rw [hk]; rfl
  unfold swapB at h
  unfold swappedStores
  simp only [hb, bne_self_eq_false, Bool.or_false]
  split at h
  · rename_i c1
    cases h
    exact if_pos c1
  · rename_i c1
    refine (if_neg c1).trans ?_
    split at h
    · rename_i c2
      cases h
      exact if_pos c2
    · rename_i c2
      refine (if_neg c2).trans ?_
      dsimp only at h
      split at h
      · rename_i c3
        cases h
        exact if_pos c3
      · rename_i c3
        refine (if_neg c3).trans ?_
        split at h
        · rename_i c4
          cases h
          exact if_pos c4
        · rename_i c4
          refine (if_neg c4).trans ?_
          split at h
          · cases h
          · rename_i c5
            cases h
            exact if_neg c5
end PD

set_option Elab.async false
set_option linter.all false
set_option maxRecDepth 100000
set_option maxHeartbeats 8000000
/-! PD, part l: the one theorem, expressions. -/
namespace PD
open PySem PySem.Spec PyProof.Rows L2

structure Xok (G : Gam) (X : Cx) (C : Ck) (k : Nat) : Prop where
  calm : X.calm = true
  room : Room k X.A
  grd : X.A.guards = some []
  N : X.N = C.N
  nd : X.N.Nodup
  sn : X.env.scope.names = C.sn
  kind : X.env.scope.kind = .function
  fc : ∀ x, C.fc x = true → X.fn x = true
  fre : ∀ x ∈ G.fre, X.mg x = none
  con : ∀ p ∈ G.cons, ∃ v u, X.mg p.1 = some u ∧ RelV v u ∧ ∀ g H, Rp X.K g H v p.2
  bfs : ∀ p ∈ G.bfs, X.mg p.1 = some (.builtin p.2)
  ent : ∀ e ∈ G.ents, EntOk X.prog X.w X.K X.mg X.base k e

section
variable {G : Gam} {X : Cx} {C : Ck} {k : Nat}
theorem Xok.un (o : Xok G X C k) : X.A.units + 66 < cLine := by have := o.room.un; omega
theorem okN_of {x : Str} (h : okN x = true) : (x == ("__debug__" : Str)) = false ∧ (x == ("__classdict__" : Str)) = false := by
  simpa [okN] using h
theorem Xok.gl (o : Xok G X C k) {x : Str} (h : C.gl x = true) : Gl X x ∧ (x == ("__debug__" : Str)) = false := by
  unfold Ck.gl at h
  split at h
  · rename_i e
    exact ⟨by show X.env.scope.names.lookup x = _; rw [o.sn]; exact e, (okN_of h).1⟩
  · cases h
theorem Xok.vis (o : Xok G X C k) {x : Str} (h : C.vis x = true) : Vis X.env.scope x := by
  unfold Ck.vis at h
  unfold Vis
  rw [o.sn]
  split at h
  · rename_i e; exact .inl e
  · rename_i e; exact .inr (.inl e)
  · rename_i e; exact .inr (.inr e)
  · cases h
theorem Xok.loc (o : Xok G X C k) {x : Str} (h : C.loc x = true) : L2.Loc X.env.scope x ∧ (X.fn x = true ∨ X.env.scope.names.lookup x = some .local) := by
  unfold Ck.loc at h
  unfold L2.Loc
  rw [o.sn]
  split at h
  · rename_i e; exact ⟨.inl e, .inr e⟩
  · rename_i e; exact ⟨.inr e, .inl (o.fc x h)⟩
  · cases h
theorem Xok.nm (o : Xok G X C k) {i : Nat} {x : Str} (h : C.nm i x = true) : X.N[i]? = some x ∧ Vis X.env.scope x ∧ (x == ("__debug__" : Str)) = false ∧ (x == ("__classdict__" : Str)) = false := by
  simp only [Ck.nm, Bool.and_eq_true, decide_eq_true_eq] at h
  exact ⟨by rw [o.N]; exact h.1.1, o.vis h.1.2, okN_of h.2⟩
theorem Xok.tg (o : Xok G X C k) {i : Nat} {x : Str} (h : C.tg i x = true) : X.N[i]? = some x ∧ L2.Loc X.env.scope x ∧ (X.fn x = true ∨ X.env.scope.names.lookup x = some .local) := by
  simp only [Ck.tg, Bool.and_eq_true, decide_eq_true_eq] at h
  exact ⟨by rw [o.N]; exact h.1, o.loc h.2⟩
theorem blk_ok {scope : Scope} {own : List (Str × Nat)} (o : Xok G X C k) (h : blkC C.N (scOf C.sn) scope own = true) : BlkOk X.N X.env.scope scope own := by
  have b := blkOk_by h
  refine ⟨b.kind, b.uniq, by rw [o.N]; exact b.ix, fun y hy e => ?_, by rw [o.N]; exact b.own⟩
  have q := b.free y hy e
  rw [o.sn]
  exact q
theorem Xok.blk {scope : Scope} (o : Xok G X C k) (hk : scope.kind = .function) (s : Shared) (H : Hp) (A : Addr) (cl : List (Str × Addr)) (fp : List Addr) : Xok G (X.blk s H scope (compEnvC scope cl A X.env) fp) (C.blk scope) k := by
  refine ⟨o.calm, o.room, o.grd, o.N, o.nd, ?_, hk, fun x h => h, o.fre, o.con, o.bfs, o.ent⟩
  show (scope.names.map fun (n, k) => if (k == NameKind.free && X.env.scope.kind == .function && X.env.kindOf n == some .cell) then (n, NameKind.cell) else (n, k)) = relN scope.names C.sn
  unfold relN
  rw [o.kind, ← o.sn]
  rfl
theorem ownP_snd (N : List Str) (own : List Nat) : (ownP N own).map (·.2) = own := by
  unfold ownP
  rw [List.map_map]
  exact List.map_id _
theorem evXs_len : ∀ (es : Xps) (L : Loc) (S : Store) (xs : List Va) (S' : Store), evXs G es L S = some (xs, S') → xs.length ≤ es.len
  | .nil, L, S, xs, S', h => by cases h; exact Nat.le_refl _
  | .cons e es, L, S, xs, S', h => by
    have h : bnd (evX G e L S) (fun x S1 => bnd (evXs G es L S1) fun xs S2 => some (x :: xs, S2)) = some (xs, S') := h
    obtain ⟨x, S1, _, h2⟩ := of_bnd h
    obtain ⟨ys, S2, h3, h4⟩ := of_bnd h2
    cases h4
    rw [List.length_cons]
    exact Nat.succ_le_succ (evXs_len es L S1 ys _ h3)
  | .star e es, L, S, xs, S', h => by
    have h : bnd (evX G e L S) (fun x S1 => bnd (lft (seqV x) S1) fun l S1 => bnd (evXs G es L S1) fun xs S2 => if l.length ≤ 100000 then some (l.map .d ++ xs, S2) else none) = some (xs, S') := h
    obtain ⟨x, S1, _, h2⟩ := of_bnd h
    obtain ⟨l, S2, _, h3⟩ := of_bnd h2
    obtain ⟨ys, S3, h4, h5⟩ := of_bnd h3
    split at h5
    · rename_i q
      cases h5
      have := evXs_len es L S2 ys _ h4
      rw [List.length_append, List.length_map]
      show _ ≤ es.len + 100000
      omega
    · cases h5
theorem evGs_len : ∀ (ts : Tgs) (ds : List D) (L : Loc) (S : Store) (r : Loc × Store), evGs G ts ds L S = some r → ds.length = ts.len
  | .nil, [], L, S, r, h => rfl
  | .nil, _ :: _, L, S, r, h => by cases h
  | .cons t ts, [], L, S, r, h => by cases h
  | .cons t ts, d :: ds, L, S, r, h => by
    have h : bnd (evG G t d L S) (fun L1 S1 => evGs G ts ds L1 S1) = some r := h
    obtain ⟨L1, S1, _, h2⟩ := of_bnd h
    rw [List.length_cons, evGs_len ts ds L1 S1 r h2]
    rfl
end

/-- a < b < c -/
theorem tD_chain {K : PySem.W.Frag} {ma mb mc : Ms Va} (o o' : CO) (σ : L2.St) (H : Hp) (Q : VK)
    (h : tD K (fun L S => bnd (ma L S) fun x S1 => bnd (mb L S1) fun y S2 => bnd (lft (cmpV o x y) S2) fun k S2 => if k = true then bnd (mc L S2) fun z S3 => lft ((cmpV o' y z).map fun c => .d (.bl c)) S3 else some (.d (.bl false), S2)) σ H Q) :
    tChain (rC K o) (rC K o') (tD K ma) (tD K mb) (tD K mc) σ H Q := by
  obtain ⟨g, H0, L, S, x, S', cr, e, q⟩ := h
  obtain ⟨dx, S1, e1, e2⟩ := of_bnd e
  obtain ⟨dy, S2, e3, e4⟩ := of_bnd e2
  obtain ⟨b, S3, e5, e6⟩ := of_bnd e4
  obtain ⟨e7, eS⟩ := of_lft e5
  subst eS
  refine ⟨g, H0, L, S, dx, S1, cr, e1, fun v g1 H1 x1 s1 r1 => ⟨g1, H0, L, S1, dy, _, cr.ext x1 s1, e3, fun u g2 H2 x2 s2 r2 => ?_⟩⟩
  have r1' := r1.ext x2 s1.cw
  refine rC_ok o g2 H2 _ v u dx dy b _ s2 r1' r2 e7 ⟨b, rfl, ?_⟩
  cases b with
  | true =>
    simp only [if_true] at e6 ⊢
    obtain ⟨dz, S4, e8, e9⟩ := of_bnd e6
    obtain ⟨c, e10, rfl, rfl⟩ := of_mapb e9
    refine ⟨g2, H0, L, _, dz, _, (cr.ext x1 s1).ext x2 s2, e8, fun w g3 H3 x3 s3 r3 => ?_⟩
    exact rC_ok o' g3 H3 _ u w dy dz c Q s3 (r2.ext x3 s2.cw) r3 e10 (q _ g3 H3 (x1.trans (x2.trans x3)) s3 (.bl c))
  | false =>
    simp only [Bool.false_eq_true, if_false] at e6 ⊢
    cases e6
    exact q _ g2 H2 (x1.trans x2) s2 (.bl false)
end PD

set_option Elab.async false
set_option linter.all false
set_option maxRecDepth 100000
set_option maxHeartbeats 8000000
/-! PD, part m: the one theorem, expressions (II). -/
namespace PD
open PySem PySem.Spec PyProof.Rows L2

/-- what is shown of an expression: as a value, as a test -/
def SX (X : Cx) (md : Bool) (ex : Expr) (m : Ms Va) : Prop :=
  (md = false → PE X ex (tD X.K m)) ∧ (md = true → PT X ex (tDT X.K (mT m)) ∧ (isBo ex = true → PW X ex (tDT X.K (mT m))))
theorem SX.e {X : Cx} {ex : Expr} {m : Ms Va} (h : SX X false ex m) : PE X ex (tD X.K m) := h.1 rfl
theorem SX.t {X : Cx} {ex : Expr} {m : Ms Va} (h : SX X true ex m) : PT X ex (tDT X.K (mT m)) := (h.2 rfl).1
theorem SX.of {X : Cx} {md : Bool} {ex : Expr} {m : Ms Va} (h : PE X ex (tD X.K m)) (hp : plainTest ex = true) : SX X md ex m :=
  ⟨fun _ => h, fun _ => ⟨pt_of h (test_of hp), fun z => by cases ex <;> cases z <;> cases hp⟩⟩
theorem SX.val {X : Cx} {md : Bool} {ex : Expr} {m : Ms Va} (h : PE X ex (tD X.K m)) (hm : md = false) : SX X md ex m :=
  ⟨fun _ => h, fun z => by rw [hm] at z; cases z⟩
theorem bo_pe {X : Cx} {op : BoolOp} {y : Expr} {r : List Expr} {pos : Pos} {t : TE} (h : PE X (boE op (y :: r) pos) t) : PE X (.BoolOp op (y :: r) pos) t := by
  cases r with
  | nil => exact pe_one h
  | cons z r => exact h
theorem bo_pw {X : Cx} {md : Bool} {y : Expr} {r : List Expr} {pos : Pos} {m : Ms Va} (h : SX X true (boE .And (y :: r) pos) m) : PW X (.BoolOp .And (y :: r) pos) (tDT X.K (mT m)) := by
  cases r with
  | nil => exact pw_and1 h.t
  | cons z r => exact (h.2 rfl).2 rfl
theorem bo_pwO {X : Cx} {md : Bool} {y : Expr} {r : List Expr} {pos : Pos} {m : Ms Va} (h : SX X true (boE .Or (y :: r) pos) m) : PW X (.BoolOp .Or (y :: r) pos) (tDT X.K (mT m)) := by
  cases r with
  | nil => exact pw_or1 h.t
  | cons z r => exact (h.2 rfl).2 rfl
theorem all_some {kws : List Keyword} {pos : Pos} {env : PySem.Env} {ks : List Str} (h : kws.map (·.arg) = ks.map some) :
    (backToKw pos (keywordEach kws env)).all (·.1.isSome) = true ∧ (backToKw pos (keywordEach kws env)).filterMap (·.1) = ks ∧ (backToKw pos (keywordEach kws env)).any (·.1.isNone) = false := by
  induction kws generalizing ks with
  | nil =>
    cases ks with
    | nil => exact ⟨rfl, rfl, rfl⟩
    | cons _ _ => cases h
  | cons k kws ih =>
    cases ks with
    | nil => cases h
    | cons n ks =>
      simp only [List.map_cons, List.cons.injEq] at h
      obtain ⟨h1, h2⟩ := h
      obtain ⟨i1, i2, i3⟩ := ih h2
      obtain ⟨arg, val, kp⟩ := k
      have h1 : arg = some n := h1
      subst h1
      refine ⟨?_, ?_, ?_⟩
      · show (true && (backToKw pos (keywordEach kws env)).all (·.1.isSome)) = true
        rw [i1]; rfl
      · show n :: (backToKw pos (keywordEach kws env)).filterMap (·.1) = n :: ks
        rw [i2]
      · show (false || (backToKw pos (keywordEach kws env)).any (·.1.isNone)) = false
        rw [i3]; rfl
/-- no star among the arguments -/
def noStars : List Expr → Bool
  | [] => true | x :: xs => !isStar x && noStars xs
theorem stars_any {env : PySem.Env} {pos : Pos} : ∀ {xs : List Expr}, noStars xs = true → (backTo pos (starEach xs env)).any (·.1) = false
  | [], _ => rfl
  | x :: xs, h => by
    simp only [noStars, Bool.and_eq_true, Bool.not_eq_true'] at h
    rw [star_of h.1]
    show (false || (backTo pos (starEach xs env)).any (·.1)) = false
    rw [stars_any h.2]; rfl

variable {G : Gam}
theorem chXs_stars {C : Ck} : ∀ {es : Xps} {xs : List Expr}, chXs G C es xs = true → noStars xs = true
  | .nil, xs, h => by
    have h : (match (generalizing := false) xs with | [] => true | _ => false) = true := h
    split at h
    · rfl
    · cases h
  | .cons e es, xs, h => by
    have h : (match (generalizing := false) xs with | x :: xs => !isStar x && chX G C false e x && chXs G C es xs | _ => false) = true := h
    split at h
    · simp only [Bool.and_eq_true] at h
      simp only [noStars, Bool.and_eq_true]
      exact ⟨h.1.1, chXs_stars h.2⟩
    · cases h
  | .star _ _, xs, h => by cases h
theorem bi_of {X : Cx} {C : Ck} {k : Nat} (o : Xok G X C k) {x : Str} {b : Bi} (h : biB G x b = true) :
    (X.mg x = none ∧ bootBuiltins x = some b.val ∧ x ≠ "__name__") ∨ (X.mg x = some (.builtin b.id) ∧ b.val = .builtin b.id) := by
  simp only [biB, Bool.or_eq_true, Bool.and_eq_true, decide_eq_true_eq, Bool.not_eq_true', decide_eq_false_iff_not, List.any_eq_true] at h
  rcases h with h | ⟨⟨p, hp, e1, e2⟩, e3⟩
  · exact .inl ⟨o.fre x h.1.1, h.1.2, h.2⟩
  · refine .inr ⟨?_, e3⟩
    have := o.bfs p hp
    rw [e1, e2] at this
    exact this

theorem pair_of {w : Wk} {tg : Expr} (h : (!w.pair || isTupE tg) = true) (p : w.pair = true) : isTupE tg = true := by
  rw [p] at h
  exact h
theorem tup_of {tg : Expr} (h : isTupE tg = true) : ∃ l kk tp, tg = .Tuple l kk tp := by
  cases tg <;> first | exact ⟨_, _, _, rfl⟩ | cases h
mutual
theorem sX (k : Nat) : ∀ (e : Xp) (md : Bool) (C : Ck) (X : Cx) (ex : Expr), Xok G X C k → chX G C md e ex = true → SX X md ex (evX G e)
  | .nm i, md, C, X, ex, o, h => by
    have h : (match (generalizing := false) ex with | .Name x _ => C.nm i x | _ => false) = true := h
    split at h
    · obtain ⟨h1, h2, h3, h4⟩ := o.nm h
      exact .of (pd_nm h1 h2 h3 h4) rfl
    · cases h
  | .gc j, md, C, X, ex, o, h => by
    have h : (match (generalizing := false) ex with | .Name x _ => C.gl x && (match G.cons[j]? with | some p => decide (p.1 = x) | none => false) | _ => false) = true := h
    split at h
    · rename_i x _ _
      rw [Bool.and_eq_true] at h
      obtain ⟨h1, h2⟩ := o.gl h.1
      cases hj : G.cons[j]? with
      | none => rw [hj] at h; cases h.2
      | some p =>
        rw [hj] at h
        have hx : p.1 = x := of_decide_eq_true h.2
        obtain ⟨v, u, m1, m2, m3⟩ := o.con p (List.mem_of_getElem? hj)
        rw [hx] at m1
        have e : evX G (.gc j) = fun _ S => some (.d p.2, S) := by
          funext L S
          show (match G.cons[j]? with | some p => some (Va.d p.2, S) | none => none) = _
          rw [hj]
        rw [e]
        exact .of (pd_const (pe_glob h1 m1 m2 h2) m3) rfl
    · cases h
  | .lit d, md, C, X, ex, o, h => by
    have h : (match (generalizing := false) ex with | .Constant c _ _ => litB d c | _ => false) = true := h
    split at h
    · rename_i c _ _
      refine .of ?_ rfl
      unfold litB at h
      split at h
      · have e := of_decide_eq_true h; subst e; exact pd_const pe_int fun g H => .int _
      · have e := beq_iff_eq.mp h; subst e; exact pd_const pe_bl fun g H => .bl _
      · exact pd_const pe_non fun g H => .non
      · have e := of_decide_eq_true h; subst e; exact pd_const pe_str fun g H => .str _
      · cases h
    · cases h
  | .bin q a b, md, C, X, ex, o, h => by
    have h : (match (generalizing := false) ex with | .BinOp x op y _ => decide (op = q.op) && chX G C false a x && chX G C false b y | _ => false) = true := h
    split at h
    · simp only [Bool.and_eq_true, decide_eq_true_eq] at h
      obtain ⟨⟨rfl, h1⟩, h2⟩ := h
      exact .of (pd_bin q (sX k a false C X _ o h1).e (sX k b false C X _ o h2).e) rfl
    · cases h
  | .neg a, md, C, X, ex, o, h => by
    have h : (match (generalizing := false) ex with | .UnaryOp .USub x _ => !md && chX G C false a x | _ => false) = true := h
    split at h
    · simp only [Bool.and_eq_true, Bool.not_eq_true'] at h
      exact .val (pd_neg (sX k a false C X _ o h.2).e) h.1
    · cases h
  | .cmp q a b, md, C, X, ex, o, h => by
    have h : (match (generalizing := false) ex with | .Compare x [op] [y] _ => decide (op = q.op) && !behindInMarks q.op y && chX G C false a x && chX G C false b y | _ => false) = true := h
    split at h
    · simp only [Bool.and_eq_true, decide_eq_true_eq, Bool.not_eq_true'] at h
      obtain ⟨⟨⟨rfl, h0⟩, h1⟩, h2⟩ := h
      have ha := (sX k a false C X _ o h1).e
      have hb := (sX k b false C X _ o h2).e
      have hu : X.A.units + 65 < cLine := by have := o.un; omega
      exact ⟨fun _ => pd_cmp q hu h0 ha hb, fun _ => ⟨pt_cmpD q hu h0 ha hb, fun z => by cases z⟩⟩
    · cases h
  | .cmp2 q q' a b c, md, C, X, ex, o, h => by
    have h : (match (generalizing := false) ex with | .Compare x [op, op'] [y, z] _ => decide (op = q.op) && decide (op' = q'.op) && !behindInMarks q'.op z && chX G C false a x && chX G C false b y && chX G C false c z | _ => false) = true := h
    split at h
    · simp only [Bool.and_eq_true, decide_eq_true_eq, Bool.not_eq_true'] at h
      obtain ⟨⟨⟨⟨⟨rfl, rfl⟩, h0⟩, h1⟩, h2⟩, h3⟩ := h
      have ha := (sX k a false C X _ o h1).e
      have hb := (sX k b false C X _ o h2).e
      have hc := (sX k c false C X _ o h3).e
      have hu : X.A.units + 65 < cLine := by have := o.un; omega
      refine ⟨fun _ => (pe_chain (op_C q hu) (op_C q' hu) ha hb hc h0).wk (tD_chain q q'), fun _ => ⟨(pt_chain (op_C q hu) (op_C q' hu) ha hb hc h0).wk fun σ H Q hq => ?_, fun z => by cases z⟩⟩
      exact tD_chain q q' σ H _ (mT_val σ H Q hq)
    · cases h
  | .and a b, md, C, X, ex, o, h => by
    have h : (match (generalizing := false) ex with | .BoolOp .And (x :: y :: r) pos => chX G C md a x && chX G C md b (boE .And (y :: r) pos) | _ => false) = true := h
    split at h
    · simp only [Bool.and_eq_true] at h
      have ha := sX k a md C X _ o h.1
      have hb := sX k b md C X _ o h.2
      cases md with
      | false => exact ⟨fun _ => pd_and ha.e (bo_pe hb.e), fun z => by cases z⟩
      | true =>
        have w := pw_andD ha.t (bo_pw (md := true) hb)
        exact ⟨fun z => by (cases z), fun _ => ⟨w.pt, fun _ => w⟩⟩
    · cases h
  | .or a b, md, C, X, ex, o, h => by
    have h : (match (generalizing := false) ex with | .BoolOp .Or (x :: y :: r) pos => chX G C md a x && chX G C md b (boE .Or (y :: r) pos) | _ => false) = true := h
    split at h
    · simp only [Bool.and_eq_true] at h
      have ha := sX k a md C X _ o h.1
      have hb := sX k b md C X _ o h.2
      cases md with
      | false => exact ⟨fun _ => pd_or ha.e (bo_pe hb.e), fun z => by cases z⟩
      | true =>
        have w := pw_orD ha.t (bo_pwO (md := true) hb)
        exact ⟨fun z => by (cases z), fun _ => ⟨w.pt, fun _ => w⟩⟩
    · cases h
  | .not a, md, C, X, ex, o, h => by
    have h : (match (generalizing := false) ex with | .UnaryOp .Not x _ => chX G C md a x | _ => false) = true := h
    split at h
    · have ha := sX k a md C X _ o h
      cases md with
      | false => exact ⟨fun _ => pd_not ha.e, fun z => by cases z⟩
      | true => exact ⟨fun z => by (cases z), fun _ => ⟨pt_notD ha.t, fun z => by cases z⟩⟩
    · cases h
  | .ife c a b, md, C, X, ex, o, h => by
    have h : (match (generalizing := false) ex with | .IfExp t x y _ => !md && chX G C true c t && chX G C false a x && chX G C false b y | _ => false) = true := h
    split at h
    · simp only [Bool.and_eq_true, Bool.not_eq_true'] at h
      exact .val (pd_ife (sX k c true C X _ o h.1.1.2).t (sX k a false C X _ o h.1.2).e (sX k b false C X _ o h.2).e) h.1.1.1
    · cases h
  | .tup es, md, C, X, ex, o, h => by
    have h : (match (generalizing := false) ex with | .Tuple xs _ _ => chXz G C es xs && decide (es.len ≤ 10000000) | _ => false) = true := h
    split at h
    · simp only [Bool.and_eq_true, decide_eq_true_eq] at h
      refine .of (pd_tup (fun L S xs S' e => ?_) (sXz k es C X _ o h.1)) rfl
      exact Nat.le_trans (evXs_len es L S xs S' e) (Nat.le_trans h.2 (by decide))
    · cases h
  | .ix a b, md, C, X, ex, o, h => by
    have h : (match (generalizing := false) ex with | .Subscript x y _ => !isSlc y && chX G C false a x && chX G C false b y | _ => false) = true := h
    split at h
    · simp only [Bool.and_eq_true, Bool.not_eq_true'] at h
      exact .of (pd_ix (sX k a false C X _ o h.1.2).e (sX k b false C X _ o h.2).e (ix_of h.1.1)) rfl
    · cases h
  | .slc a lo hi, md, C, X, ex, o, h => by
    have h : (match (generalizing := false) ex with | .Subscript x (.Slice l h none _) _ => chX G C false a x && chO G C lo l && chO G C hi h | _ => false) = true := h
    split at h
    · simp only [Bool.and_eq_true] at h
      exact .of (pd_slc (sX k a false C X _ o h.1.1).e (sO k lo C X _ o h.1.2) (sO k hi C X _ o h.2)) rfl
    · cases h
  | .call j es ks, md, C, X, ex, o, h => by
    have h : (match (generalizing := false) ex with
      | .Call (.Name x _) xs kws _ => C.gl x && (match G.ents[j]? with | some e => decide (e.name = x) && decide (kws.map (·.arg) = e.ks.map some) | none => false) && chXs G C es xs && chKs G C ks kws
      | _ => false) = true := h
    split at h
    · rename_i x p xs kws pos _
      simp only [Bool.and_eq_true] at h
      obtain ⟨⟨⟨h1, h2⟩, h3⟩, h4⟩ := h
      obtain ⟨g1, g2⟩ := o.gl h1
      cases hj : G.ents[j]? with
      | none => rw [hj] at h2; cases h2
      | some e =>
        rw [hj] at h2
        simp only [Bool.and_eq_true, decide_eq_true_eq] at h2
        obtain ⟨rfl, hk⟩ := h2
        obtain ⟨a1, a2, a3⟩ := all_some (pos := pos) (env := X.env) hk
        have st := chXs_stars h3
        have ev : evX G (.call j es ks) = fun L S => bnd (evXs G es L S) fun xs S1 => bnd (evXs G ks L S1) fun zs S2 => bnd (lft (unVs (xs ++ zs)) S2) fun ds S2 =>
            if xs.length = e.n ∧ zs.length = e.ks.length then bnd (e.sem ds S2) fun d S3 => some (.d d, S3) else none := by
          funext L S
          show (match G.ents[j]? with
            | some e => bnd (evXs G es L S) fun xs S1 => bnd (evXs G ks L S1) fun zs S2 => bnd (lft (unVs (xs ++ zs)) S2) fun ds S2 =>
                if xs.length = e.n ∧ zs.length = e.ks.length then bnd (e.sem ds S2) fun d S3 => some (Va.d d, S3) else none
            | none => none) = _
          rw [hj]
        rw [ev]
        refine .of (pd_call (o.ent e (List.mem_of_getElem? hj)) o.room o.grd g1 (sXs k es C X _ o h3) (sKs k ks C X _ o h4) g2 a1 a2 (fun z => ?_) (fun y r z => ?_) ?_) rfl
        · subst z
          cases es with
          | nil => rfl
          | cons _ _ => cases h3
          | star _ _ => cases h3
        · subst z
          simp only [noStars, Bool.and_eq_true, Bool.not_eq_true'] at st
          exact star_of st.1
        · rw [stars_any st, a3]; rfl
    · cases h
  | .bi b es, md, C, X, ex, o, h => by
    have h : (match (generalizing := false) ex with | .Call (.Name x _) (y :: ys) [] _ => C.gl x && biB G x b && chXs G C es (y :: ys) | _ => false) = true := h
    split at h
    · simp only [Bool.and_eq_true] at h
      obtain ⟨g1, g2⟩ := o.gl h.1.1
      have st := chXs_stars h.2
      simp only [noStars, Bool.and_eq_true, Bool.not_eq_true'] at st
      exact .of (pd_bi b o.calm o.grd o.un g1 (bi_of o h.1.2) (sXs k es C X _ o h.2) g2 (star_of st.1) (stars_any st.2)) rfl
    · cases h
  | .bic b es, md, C, X, ex, o, h => by
    have h : (match (generalizing := false) ex with | .Call (.Name x _) (y :: ys) [] _ => C.gl x && biB G x b && chXs G C es (y :: ys) | _ => false) = true := h
    split at h
    · simp only [Bool.and_eq_true] at h
      obtain ⟨g1, g2⟩ := o.gl h.1.1
      have st := chXs_stars h.2
      simp only [noStars, Bool.and_eq_true, Bool.not_eq_true'] at st
      exact .of (pd_bic b o.calm o.grd o.un g1 (bi_of o h.1.2) (sXs k es C X _ o h.2) g2 (star_of st.1) (stars_any st.2)) rfl
    · cases h
  | .cntI i b, md, C, X, ex, o, h => by
    have h : (match (generalizing := false) ex with
      | .Call (.Attribute (.Name x _) m ap) [y] [] p => decide (m = ("count" : Str)) && C.nm i x && !isStar y && (ap.endLine == p.line) && chX G C false b y
      | _ => false) = true := h
    split at h
    · simp only [Bool.and_eq_true, decide_eq_true_eq, Bool.not_eq_true'] at h
      obtain ⟨⟨⟨⟨rfl, h1⟩, h2⟩, h3⟩, h4⟩ := h
      obtain ⟨n1, n2, n3, n4⟩ := o.nm h1
      have st := star_of (env := X.env) (r := []) h2
      exact .of (pd_cntI n1 n2 n3 n4 (sX k b false C X _ o h4).e st h3 (few_ok st)) rfl
    · cases h
  | .isi a t, md, C, X, ex, o, h => by
    have h : (match (generalizing := false) ex with
      | .Call (.Name x _) [y, .Name z _] [] _ => C.gl x && C.gl z && decide (x = ("isinstance" : Str)) && decide (x ∈ G.fre) && decide (z ∈ G.fre) && decide (bootBuiltins z = some (.type t)) && !decide (z = ("__name__" : Str)) && !isStar y && chX G C false a y
      | _ => false) = true := h
    split at h
    · simp only [Bool.and_eq_true, decide_eq_true_eq, Bool.not_eq_true', decide_eq_false_iff_not] at h
      obtain ⟨⟨⟨⟨⟨⟨⟨⟨h1, h2⟩, h3⟩, h4⟩, h5⟩, h6⟩, h7⟩, h8⟩, h9⟩ := h
      obtain ⟨g1, g2⟩ := o.gl h1
      obtain ⟨g3, g4⟩ := o.gl h2
      subst h3
      exact .of (pd_isi g1 (o.fre _ h4) (by decide +kernel) (by decide) g3 (o.fre _ h5) h6 h7 g2 g4 (sX k a false C X _ o h9).e (star_of h8)) rfl
    · cases h
  | .fr f, md, C, X, ex, o, h => by
    have h : (!md && chF G C f ex) = true := h
    simp only [Bool.and_eq_true, Bool.not_eq_true'] at h
    exact .val (pd_fr (sF k f C X ex o h.2)) h.1
  | .nwc f, md, C, X, ex, o, h => by
    have h : (!md && chF G C f ex) = true := h
    simp only [Bool.and_eq_true, Bool.not_eq_true'] at h
    exact .val (pd_nwc (sF k f C X ex o h.2)) h.1
  | .rev a, md, C, X, ex, o, h => by
    have h : (match (generalizing := false) ex with | .Subscript x (.Slice none none (some (.UnaryOp .USub (.Constant (.int 1) _ _) _)) _) _ => chX G C false a x | _ => false) = true := h
    split at h
    · exact .of (pd_rev (sX k a false C X _ o h).e) rfl
    · cases h
theorem sXs (k : Nat) : ∀ (es : Xps) (C : Ck) (X : Cx) (xs : List Expr), Xok G X C k → chXs G C es xs = true → PA X xs (tDA X.K (evXs G es))
  | .nil, C, X, xs, o, h => by
    have h : (match (generalizing := false) xs with | [] => true | _ => false) = true := h
    split at h
    · exact pda_nil
    · cases h
  | .cons e es, C, X, xs, o, h => by
    have h : (match (generalizing := false) xs with | x :: xs => !isStar x && chX G C false e x && chXs G C es xs | _ => false) = true := h
    split at h
    · simp only [Bool.and_eq_true, Bool.not_eq_true'] at h
      exact pda_cons (sX k e false C X _ o h.1.2).e (sXs k es C X _ o h.2) (star_of h.1.1)
    · cases h
  | .star e es, C, X, xs, o, h => by cases h
theorem sXz (k : Nat) : ∀ (es : Xps) (C : Ck) (X : Cx) (xs : List Expr), Xok G X C k → chXz G C es xs = true → PA X xs (tDA X.K (evXs G es))
  | .nil, C, X, xs, o, h => by
    have h : (match (generalizing := false) xs with | [] => true | _ => false) = true := h
    split at h
    · exact pda_nil
    · cases h
  | .cons e es, C, X, xs, o, h => by
    have h : (match (generalizing := false) xs with | x :: xs => !isStar x && chX G C false e x && chXz G C es xs | _ => false) = true := h
    split at h
    · simp only [Bool.and_eq_true, Bool.not_eq_true'] at h
      exact pda_cons (sX k e false C X _ o h.1.2).e (sXz k es C X _ o h.2) (star_of h.1.1)
    · cases h
  | .star e es, C, X, xs, o, h => by
    have h : (match (generalizing := false) xs with | (.Starred x _) :: xs => chX G C false e x && chXz G C es xs | _ => false) = true := h
    split at h
    · simp only [Bool.and_eq_true] at h
      exact pda_star (sX k e false C X _ o h.1).e (sXz k es C X _ o h.2) rfl
    · cases h
theorem sKs (k : Nat) : ∀ (es : Xps) (C : Ck) (X : Cx) (xs : List Keyword), Xok G X C k → chKs G C es xs = true → PK X xs (tDA X.K (evXs G es))
  | .nil, C, X, xs, o, h => by
    have h : (match (generalizing := false) xs with | [] => true | _ => false) = true := h
    split at h
    · exact pk_nilD
    · cases h
  | .cons e es, C, X, xs, o, h => by
    have h : (match (generalizing := false) xs with | x :: xs => chX G C false e x.value && chKs G C es xs | _ => false) = true := h
    split at h
    · rename_i x xs _
      simp only [Bool.and_eq_true] at h
      obtain ⟨nm, v, kp⟩ := x
      exact pk_consD (sX k e false C X _ o h.1).e (sKs k es C X _ o h.2)
    · cases h
  | .star e es, C, X, xs, o, h => by cases h
theorem sO (k : Nat) : ∀ (e : Xo) (C : Ck) (X : Cx) (ex : Option Expr), Xok G X C k → chO G C e ex = true → PO X ex (tDO X.K (evO G e))
  | .none, C, X, ex, o, h => by
    have h : (match (generalizing := false) ex with | none => true | _ => false) = true := h
    split at h
    · exact po_noneD
    · cases h
  | .some e, C, X, ex, o, h => by
    have h : (match (generalizing := false) ex with | some x => chX G C false e x | _ => false) = true := h
    split at h
    · exact po_someD (sX k e false C X _ o h).e
    · cases h
theorem sF (k : Nat) : ∀ (f : Fx) (C : Ck) (X : Cx) (ex : Expr), Xok G X C k → chF G C f ex = true → PE X ex (tDF X.K (evF G f))
  | .disp es, C, X, ex, o, h => by
    have h : (match (generalizing := false) ex with | .List xs _ => chXz G C es xs && decide (es.len ≤ 10000000) | _ => false) = true := h
    split at h
    · simp only [Bool.and_eq_true, decide_eq_true_eq] at h
      refine pf_disp (fun L S xs S' e => ?_) (sXz k es C X _ o h.1)
      exact Nat.le_trans (evXs_len es L S xs S' e) (Nat.le_trans h.2 (by decide))
    · cases h
  | .comp elt t w c own, C, X, ex, o, h => by
    have h : (match (generalizing := false) ex with
      | .ListComp x [⟨tg, it, ifs, as⟩] scope _ => decide (as = 0) && !isSetE it && (chW G C w it && (!w.pair || isTupE tg)) && blkC C.N (scOf C.sn) scope (ownP C.N own) && t.pu && decide (∀ j ∈ t.slots, j ∈ own) &&
          chG G (C.blk scope) t tg && chC G (C.blk scope) c ifs && chX G (C.blk scope) false elt x
      | _ => false) = true := h
    split at h
    · rename_i _ x tg it ifs as scope pos _
      rw [Bool.and_eq_true, Bool.and_eq_true, Bool.and_eq_true, Bool.and_eq_true, Bool.and_eq_true, Bool.and_eq_true, Bool.and_eq_true, Bool.and_eq_true] at h
      obtain ⟨⟨⟨⟨⟨⟨⟨⟨h1, h2⟩, h3⟩, h4⟩, h5⟩, h6⟩, h7⟩, h8⟩, h9⟩ := h
      obtain rfl := of_decide_eq_true h1
      simp only [Bool.not_eq_true', decide_eq_true_eq] at h2 h6
      rw [Bool.and_eq_true] at h3
      have bk := blk_ok o h4
      have hw : PI X tg it (tDI X.K true (evW G w)) := by
        have q := sW k w C X tg it o h3.1 (pair_of h3.2)
        cases e : w.isB with
        | true => exact q.2 e
        | false => exact PI.wk (q.1 e) tDI_weak
      have hg := fun s H A cl fp => sG k t (C.blk _) (X.blk s H _ (compEnvC _ cl A X.env) fp) _ (o.blk bk.kind s H A cl fp) h7
      rw [h5] at hg
      have r := pf_comp (X := X) (pos := pos) (own := ownP C.N own) o.calm o.nd hw bk (by rw [ownP_snd]; exact h6) hg (fun s H A cl fp => sC k c (C.blk _) (X.blk s H _ (compEnvC _ cl A X.env) fp) _ (o.blk bk.kind s H A cl fp) h8)
        (fun s H A cl fp => (sX k elt false (C.blk _) (X.blk s H _ (compEnvC _ cl A X.env) fp) _ (o.blk bk.kind s H A cl fp) h9).e) (fun x => fold_of h2 x)
      rw [ownP_snd] at r
      exact r
    · cases h
  | .compc elt t e c own, C, X, ex, o, h => by
    have h : (match (generalizing := false) ex with
      | .ListComp x [⟨tg, it, ifs, as⟩] scope _ => decide (as = 0) && !isSetE it && chX G C false e it && blkC C.N (scOf C.sn) scope (ownP C.N own) && t.pu && decide (∀ j ∈ t.slots, j ∈ own) &&
          chG G (C.blk scope) t tg && chC G (C.blk scope) c ifs && chX G (C.blk scope) false elt x
      | _ => false) = true := h
    split at h
    · rename_i _ x tg it ifs as scope pos _
      rw [Bool.and_eq_true, Bool.and_eq_true, Bool.and_eq_true, Bool.and_eq_true, Bool.and_eq_true, Bool.and_eq_true, Bool.and_eq_true, Bool.and_eq_true] at h
      obtain ⟨⟨⟨⟨⟨⟨⟨⟨h1, h2⟩, h3⟩, h4⟩, h5⟩, h6⟩, h7⟩, h8⟩, h9⟩ := h
      obtain rfl := of_decide_eq_true h1
      simp only [Bool.not_eq_true', decide_eq_true_eq] at h2 h6
      have bk := blk_ok o h4
      have hg := fun s H A cl fp => sG k t (C.blk _) (X.blk s H _ (compEnvC _ cl A X.env) fp) _ (o.blk bk.kind s H A cl fp) h7
      rw [h5] at hg
      have r := pf_compC (X := X) (pos := pos) (own := ownP C.N own) o.calm o.nd (sX k e false C X it o h3).e bk (by rw [ownP_snd]; exact h6) hg (fun s H A cl fp => sC k c (C.blk _) (X.blk s H _ (compEnvC _ cl A X.env) fp) _ (o.blk bk.kind s H A cl fp) h8)
        (fun s H A cl fp => (sX k elt false (C.blk _) (X.blk s H _ (compEnvC _ cl A X.env) fp) _ (o.blk bk.kind s H A cl fp) h9).e) (fun x => fold_of h2 x)
      rw [ownP_snd] at r
      exact r
    · cases h
  | .list e, C, X, ex, o, h => by
    have h : (match (generalizing := false) ex with | .Call (.Name x _) [y] [] _ => C.gl x && decide (x = ("list" : Str)) && decide (x ∈ G.fre) && !isStar y && chX G C false e y | _ => false) = true := h
    split at h
    · simp only [Bool.and_eq_true, decide_eq_true_eq, Bool.not_eq_true'] at h
      obtain ⟨⟨⟨⟨h1, rfl⟩, h3⟩, h4⟩, h5⟩ := h
      exact pf_list (o.gl h1).1 (o.fre _ h3) (sX k e false C X _ o h5).e (star_of h4)
    · cases h
  | .cat a b, C, X, ex, o, h => by
    have h : (match (generalizing := false) ex with | .BinOp x .Add y _ => chX G C false a x && chX G C false b y | _ => false) = true := h
    split at h
    · simp only [Bool.and_eq_true] at h
      exact pf_cat (sX k a false C X _ o h.1).e (sX k b false C X _ o h.2).e
    · cases h
  | .rep f b, C, X, ex, o, h => by
    have h : (match (generalizing := false) ex with | .BinOp x .Mult y _ => chF G C f x && chX G C false b y | _ => false) = true := h
    split at h
    · simp only [Bool.and_eq_true] at h
      exact pf_rep (sF k f C X _ o h.1) (sX k b false C X _ o h.2).e
    · cases h
  | .slc a lo hi, C, X, ex, o, h => by
    have h : (match (generalizing := false) ex with | .Subscript x (.Slice l h none _) _ => chX G C false a x && chO G C lo l && chO G C hi h | _ => false) = true := h
    split at h
    · simp only [Bool.and_eq_true] at h
      exact pf_slc (sX k a false C X _ o h.1.1).e (sO k lo C X _ o h.1.2) (sO k hi C X _ o h.2)
    · cases h
  | .comp2 elt t w c t1 w1 c1 own own1, C, X, ex, o, h => by
    have h : (match (generalizing := false) ex with
      | .ListComp x [⟨tg, it, ifs, as⟩, ⟨tg1, it1, ifs1, as1⟩] scope _ => decide (as = 0 ∧ as1 = 0) && (!isSetE it && !isSetE it1) && (chW G C w it && (!w.pair || isTupE tg)) && blkC C.N (scOf C.sn) scope (ownP C.N own) && (t.pu && t1.pu) && (decide (∀ j ∈ t.slots, j ∈ own) && decide (∀ j ∈ t1.slots, j ∈ own1) && decide (∀ j ∈ own1, j ∈ own)) &&
          chG G (C.blk scope) t tg && chC G (C.blk scope) c ifs && (!w1.isB && chW G (C.blk scope) w1 it1 && (!w1.pair || isTupE tg1)) && chG G (C.blk scope) t1 tg1 && chC G (C.blk scope) c1 ifs1 && chX G (C.blk scope) false elt x
      | _ => false) = true := h
    split at h
    · rename_i _ x tg it ifs as tg1 it1 ifs1 as1 scope pos _
      rw [Bool.and_eq_true, Bool.and_eq_true, Bool.and_eq_true, Bool.and_eq_true, Bool.and_eq_true, Bool.and_eq_true, Bool.and_eq_true, Bool.and_eq_true, Bool.and_eq_true, Bool.and_eq_true, Bool.and_eq_true] at h
      obtain ⟨⟨⟨⟨⟨⟨⟨⟨⟨⟨⟨h1, h2⟩, h3⟩, h4⟩, h5⟩, h6⟩, h7⟩, h8⟩, h9⟩, h10⟩, h11⟩, h12⟩ := h
      obtain ⟨rfl, rfl⟩ := of_decide_eq_true h1
      simp only [Bool.and_eq_true, Bool.not_eq_true', decide_eq_true_eq] at h2 h5 h6
      rw [Bool.and_eq_true] at h3
      rw [Bool.and_eq_true, Bool.and_eq_true] at h9
      have bk := blk_ok o h4
      have hw : PI X tg it (tDI X.K true (evW G w)) := by
        have q := sW k w C X tg it o h3.1 (pair_of h3.2)
        cases e : w.isB with
        | true => exact q.2 e
        | false => exact PI.wk (q.1 e) tDI_weak
      have hg := fun s H A cl fp => sG k t (C.blk _) (X.blk s H _ (compEnvC _ cl A X.env) fp) _ (o.blk bk.kind s H A cl fp) h7
      have hg1 := fun s H A cl fp => sG k t1 (C.blk _) (X.blk s H _ (compEnvC _ cl A X.env) fp) _ (o.blk bk.kind s H A cl fp) h10
      rw [h5.1] at hg
      rw [h5.2] at hg1
      have r := pf_comp2 (X := X) (pos := pos) (own := ownP C.N own) (own1 := own1) o.calm o.nd hw bk (by rw [ownP_snd]; exact h6.1.1) h6.1.2 (by rw [ownP_snd]; exact h6.2) hg
        (fun s H A cl fp => sC k c (C.blk _) (X.blk s H _ (compEnvC _ cl A X.env) fp) _ (o.blk bk.kind s H A cl fp) h8)
        (fun s H A cl fp => (sW k w1 (C.blk _) (X.blk s H _ (compEnvC _ cl A X.env) fp) tg1 it1 (o.blk bk.kind s H A cl fp) h9.1.2 (pair_of h9.2)).1 (by simpa using h9.1.1)) hg1
        (fun s H A cl fp => sC k c1 (C.blk _) (X.blk s H _ (compEnvC _ cl A X.env) fp) _ (o.blk bk.kind s H A cl fp) h11)
        (fun s H A cl fp => (sX k elt false (C.blk _) (X.blk s H _ (compEnvC _ cl A X.env) fp) _ (o.blk bk.kind s H A cl fp) h12).e) (fun x => fold_of h2.1 x) (fun env x => fold_of h2.2 x)
      rw [ownP_snd] at r
      exact r
    · cases h
theorem sC (k : Nat) : ∀ (e : Xo) (C : Ck) (X : Cx) (l : List Expr), Xok G X C k → chC G C e l = true → PTs X l (tDT X.K (evC G e))
  | .none, C, X, l, o, h => by
    have h : (match (generalizing := false) l with | [] => true | _ => false) = true := h
    split at h
    · refine ⟨fun pins s σ H Q I hq => pts_nil.run pins s σ H Q I ?_⟩
      obtain ⟨g, H0, L, S, x, S', cr, e, q⟩ := hq
      cases e
      exact q g H Ext.refl cr.s
    · cases h
  | .some e, C, X, l, o, h => by
    have h : (match (generalizing := false) l with | [x] => chX G C true e x | _ => false) = true := h
    split at h
    · exact pts_one (sX k e true C X _ o h).t
    · cases h
theorem sW (k : Nat) : ∀ (w : Wk) (C : Ck) (X : Cx) (tg ex : Expr), Xok G X C k → chW G C w ex = true → (w.pair = true → isTupE tg = true) → (w.isB = false → PI X tg ex (tDI X.K false (evW G w))) ∧ (w.isB = true → PI X tg ex (tDI X.K true (evW G w)))
  | .seq e, C, X, tg, ex, o, h, hp => ⟨fun _ => pi_seq (sX k e false C X ex o h).e, fun z => by cases z⟩
  | .bor i, C, X, tg, ex, o, h, hp => by
    have h : (match (generalizing := false) ex with | .Name x _ => C.nm i x | _ => false) = true := h
    split at h
    · obtain ⟨h1, h2, h3, h4⟩ := o.nm h
      exact ⟨fun z => by (cases z), fun _ => pi_bor h1 h2 h3 h4⟩
    · cases h
  | .range1 a, C, X, tg, ex, o, h, hp => by
    have h : (match (generalizing := false) ex with | .Call (.Name x _) [y] [] _ => C.gl x && decide (x = ("range" : Str)) && decide (x ∈ G.fre) && !isStar y && chX G C false a y | _ => false) = true := h
    split at h
    · simp only [Bool.and_eq_true, decide_eq_true_eq, Bool.not_eq_true'] at h
      obtain ⟨⟨⟨⟨h1, rfl⟩, h3⟩, h4⟩, h5⟩ := h
      exact ⟨fun _ => pi_rng1 (o.gl h1).1 (o.fre _ h3) (sX k a false C X _ o h5).e (star_of h4), fun z => by cases z⟩
    · cases h
  | .range2 a b, C, X, tg, ex, o, h, hp => by
    have h : (match (generalizing := false) ex with | .Call (.Name x _) [y, z] [] _ => C.gl x && decide (x = ("range" : Str)) && decide (x ∈ G.fre) && !isStar y && !isStar z && chX G C false a y && chX G C false b z | _ => false) = true := h
    split at h
    · simp only [Bool.and_eq_true, decide_eq_true_eq, Bool.not_eq_true'] at h
      obtain ⟨⟨⟨⟨⟨⟨h1, rfl⟩, h3⟩, h4⟩, h5⟩, h6⟩, h7⟩ := h
      exact ⟨fun _ => pi_rng2 (o.gl h1).1 (o.fre _ h3) (sX k a false C X _ o h6).e (sX k b false C X _ o h7).e (star_of h4) (star_of h5), fun z => by cases z⟩
    · cases h
  | .range3 a b c, C, X, tg, ex, o, h, hp => by
    have h : (match (generalizing := false) ex with | .Call (.Name x _) [y, z, w] [] _ => C.gl x && decide (x = ("range" : Str)) && decide (x ∈ G.fre) && !isStar y && !isStar z && !isStar w && chX G C false a y && chX G C false b z && chX G C false c w | _ => false) = true := h
    split at h
    · simp only [Bool.and_eq_true, decide_eq_true_eq, Bool.not_eq_true'] at h
      obtain ⟨⟨⟨⟨⟨⟨⟨⟨h1, rfl⟩, h3⟩, h4⟩, h5⟩, h6⟩, h7⟩, h8⟩, h9⟩ := h
      exact ⟨fun _ => pi_rng3 (o.gl h1).1 (o.fre _ h3) (sX k a false C X _ o h7).e (sX k b false C X _ o h8).e (sX k c false C X _ o h9).e (star_of h4) (star_of h5) (star_of h6), fun z => by cases z⟩
    · cases h
  | .enum e, C, X, tg, ex, o, h, hp => by
    have h : (match (generalizing := false) ex with | .Call (.Name x _) [y] [] _ => C.gl x && decide (x = ("enumerate" : Str)) && decide (x ∈ G.fre) && !isStar y && chX G C false e y | _ => false) = true := h
    split at h
    · simp only [Bool.and_eq_true, decide_eq_true_eq, Bool.not_eq_true'] at h
      obtain ⟨⟨⟨⟨h1, rfl⟩, h3⟩, h4⟩, h5⟩ := h
      obtain ⟨l, kk, tp, rfl⟩ := tup_of (hp rfl)
      exact ⟨fun _ => pi_enumD (o.gl h1).1 (o.fre _ h3) (sX k e false C X _ o h5).e (star_of h4), fun z => by cases z⟩
    · cases h
  | .enumB i, C, X, tg, ex, o, h, hp => by
    have h : (match (generalizing := false) ex with | .Call (.Name x _) [.Name y _] [] _ => C.gl x && decide (x = ("enumerate" : Str)) && decide (x ∈ G.fre) && C.nm i y | _ => false) = true := h
    split at h
    · simp only [Bool.and_eq_true, decide_eq_true_eq] at h
      obtain ⟨⟨⟨h1, rfl⟩, h3⟩, h4⟩ := h
      obtain ⟨q1, q2, q3, q4⟩ := o.nm h4
      obtain ⟨l, kk, tp, rfl⟩ := tup_of (hp rfl)
      exact ⟨fun z => by (cases z), fun _ => pi_enumB (o.gl h1).1 (o.fre _ h3) q1 q2 q3 q4 rfl⟩
    · cases h
  | .zip a b, C, X, tg, ex, o, h, hp => by
    have h : (match (generalizing := false) ex with | .Call (.Name x _) [y, z] [] _ => C.gl x && decide (x = ("zip" : Str)) && decide (x ∈ G.fre) && !isStar y && !isStar z && chX G C false a y && chX G C false b z | _ => false) = true := h
    split at h
    · simp only [Bool.and_eq_true, decide_eq_true_eq, Bool.not_eq_true'] at h
      obtain ⟨⟨⟨⟨⟨⟨h1, rfl⟩, h3⟩, h4⟩, h5⟩, h6⟩, h7⟩ := h
      obtain ⟨l, kk, tp, rfl⟩ := tup_of (hp rfl)
      exact ⟨fun _ => pi_zipD (o.gl h1).1 (o.fre _ h3) (sX k a false C X _ o h6).e (sX k b false C X _ o h7).e (star_of h4) (star_of h5), fun z => by cases z⟩
    · cases h
  | .rvd e, C, X, tg, ex, o, h, hp => by
    have h : (match (generalizing := false) ex with | .Call (.Name x _) [y] [] _ => C.gl x && decide (x = ("reversed" : Str)) && decide (x ∈ G.fre) && !isStar y && chX G C false e y | _ => false) = true := h
    split at h
    · simp only [Bool.and_eq_true, decide_eq_true_eq, Bool.not_eq_true'] at h
      obtain ⟨⟨⟨⟨h1, rfl⟩, h3⟩, h4⟩, h5⟩ := h
      exact ⟨fun _ => pi_rvd (o.gl h1).1 (o.fre _ h3) (sX k e false C X _ o h5).e (star_of h4), fun z => by cases z⟩
    · cases h
  | .rvr e, C, X, tg, ex, o, h, hp => by cases h
theorem sG (k : Nat) : ∀ (t : Tg) (C : Ck) (X : Cx) (ex : Expr), Xok G X C k → chG G C t ex = true → PG X ex (tDG X.K t.slots t.pu (evG G t))
  | .nm i, C, X, ex, o, h => by
    have h : (match (generalizing := false) ex with | .Name x _ => C.tg i x | _ => false) = true := h
    split at h
    · obtain ⟨h1, h2, h3⟩ := o.tg h
      exact pg_nm o.nd h1 h2 h3
    · cases h
  | .tup ts, C, X, ex, o, h => by
    have h : (match (generalizing := false) ex with | .Tuple xs _ _ => chGs G C ts xs | _ => false) = true := h
    split at h
    · obtain ⟨q1, q2, q3⟩ := sGs k ts C X _ o h
      refine PG.wk (pg_tupD (n := ts.len) o.calm (fun ds L S r e => evGs_len ts ds L S r e) q1 q2 q3) fun v σ H Q z => by
        obtain ⟨g, H0, L, S, d, La, S', cr, rp, e, q⟩ := z
        refine ⟨g, H0, L, S, d, La, S', cr, rp, ?_, q⟩
        cases d <;> exact e
    · cases h
  | .sub i b, C, X, ex, o, h => by
    have h : (match (generalizing := false) ex with | .Subscript (.Name x _) y _ => C.nm i x && !isSlc y && chX G C false b y | _ => false) = true := h
    split at h
    · simp only [Bool.and_eq_true, Bool.not_eq_true'] at h
      obtain ⟨h1, h2, h3, h4⟩ := o.nm h.1.1
      exact pg_subD h1 h2 h3 h4 (sX k b false C X _ o h.2).e (fun v => asub_of h.1.2 v)
    · cases h
  | .sbx a b, C, X, ex, o, h => by
    have h : (match (generalizing := false) ex with | .Subscript x y _ => !isSlc y && chX G C false a x && chX G C false b y | _ => false) = true := h
    split at h
    · simp only [Bool.and_eq_true, Bool.not_eq_true'] at h
      exact pg_sbxD (sX k a false C X _ o h.1.2).e (sX k b false C X _ o h.2).e (fun v => asubx_of h.1.1 v)
    · cases h
theorem sGs (k : Nat) : ∀ (ts : Tgs) (C : Ck) (X : Cx) (xs : List Expr), Xok G X C k → chGs G C ts xs = true → PGs X xs (tDGs X.K ts.slots ts.pu (evGs G ts)) ∧ (assignEach xs X.env).length = ts.len ∧ (assignEach xs X.env).findIdx? (·.1) = none
  | .nil, C, X, xs, o, h => by
    have h : (match (generalizing := false) xs with | [] => true | _ => false) = true := h
    split at h
    · refine ⟨pgs_nilD.wk fun v σ H Q z => ?_, rfl, rfl⟩
      obtain ⟨g, H0, L, S, d, La, S', cr, rp, e, q⟩ := z
      refine ⟨g, H0, L, S, d, La, S', cr, rp, ?_, q⟩
      cases d <;> exact e
    · cases h
  | .cons t ts, C, X, xs, o, h => by
    have h : (match (generalizing := false) xs with | x :: xs => !isStar x && chG G C t x && chGs G C ts xs | _ => false) = true := h
    split at h
    · rename_i _ x xs _
      simp only [Bool.and_eq_true, Bool.not_eq_true'] at h
      obtain ⟨q1, q2, q3⟩ := sGs k ts C X _ o h.2
      have q0 := sG k t C X _ o h.1.2
      have ae := asgn_of (env := X.env) (r := xs) h.1.1
      refine ⟨(pgs_consD q0 q1 (by rw [ae]; rfl)).wk fun v σ H Q z => ?_, by rw [ae, List.length_cons, q2]; rfl, by rw [ae, List.findIdx?_cons, q3]; rfl⟩
      obtain ⟨g, H0, L, S, d, La, S', cr, rp, e, q⟩ := z
      refine ⟨g, H0, L, S, d, La, S', cr, rp, ?_, q⟩
      cases d <;> exact e
    · cases h
end
end PD

set_option Elab.async false
set_option linter.all false
set_option maxRecDepth 100000
set_option maxHeartbeats 8000000
/-! PD, part n: the one theorem, statements. -/
namespace PD
open PySem PySem.Spec PyProof.Rows L2

/-- the new name of a list that is stored at once -/
def lcB (C : Ck) (x : Str) (px : Pos) (v : Expr) : Bool := match v with
  | .ListComp _ _ sc p => decide (C.sn.lookup x = some .local) && (px.line == p.line) && !(sc.names.any fun (n, k) => n == x && (k == .local || k == .cell))
  | _ => false
/-- a comprehension stored as all else is -/
def swF (C : Ck) (tg v : Expr) : Bool := match v with
  | .ListComp _ _ sc p => (match tg with
    | .Name x px => !(decide (C.sn.lookup x = some .local) && (px.line == p.line) && !(sc.names.any fun (n, k) => n == x && (k == .local || k == .cell)))
    | _ => true)
  | _ => false
def swSel (sn : List (Str × NameKind)) (tg v : Expr) : Bool := match tg, v with
  | .Tuple ts _ _, .Tuple vs _ _ => decide (swapB sn ts vs = some none)
  | .List _ _, _ => false
  | _, _ => true
theorem swSel_ok {env : PySem.Env} {tg v : Expr} (hk : env.scope.kind = .function) (h : swSel env.scope.names tg v = true) : swappedStores [tg] v env = pure none := by
  unfold swSel at h
  split at h
  · exact swap_of hk (of_decide_eq_true h)
  · cases h
  · rename_i h1 h2
    cases tg <;> first | rfl | (exact (h1 _ _ rfl).elim) | skip
    cases v <;> first | rfl | exact (h2 _ _ _ _ _ _ rfl rfl).elim

def lc3 (C : Ck) (t : Tg) (tg : Expr) (e : Xp) (v : Expr) : Bool := match t, tg, e with
  | .nm _, .Name x px, .fr (.comp ..) => lcB C x px v
  | _, _, _ => false
def lc2 (C : Ck) (f : Fx) (x : Str) (px : Pos) (v : Expr) : Bool := match f with
  | .comp .. => lcB C x px v
  | _ => false
def parC (C : Ck) (is : List Nat) (r : Option (Option (List Str))) : Bool := match r with
  | some (some ns) => decide (is.length = ns.length) && decide (ns.length ≤ 1000) && (is.zip ns).all (fun p => decide (C.N[p.1]? = some p.2) && decide (C.sn.lookup p.2 = some .local))
  | _ => false
variable (G : Gam)
mutual
def chS (C : Ck) : Sm → Stmt → Bool
  | .asg t e, st => match st with
    | .Assign [tg] v _ => chG G C t tg && chX G C false e v && !isStar tg && (if isComp v then lc3 C t tg e v || (swF C tg v && swSel C.sn tg v) else swSel C.sn tg v)
    | _ => false
  | .own i f, st => match st with
    | .Assign [.Name x px] v _ => C.tg i x && chF G C f v && (if isComp v then lc2 C f x px v || swF C (.Name x px) v else true)
    | _ => false
  | .par is es, st => match st with
    | .Assign [.Tuple ts _ _] (.Tuple vs _ _) _ => chXs G C es vs && parC C is (swapB C.sn ts vs)
    | _ => false
  | .aug i o e, st => match st with
    | .AugAssign (.Name x _) op v _ => decide (op = o.op) && C.tg i x && chX G C false e v
    | _ => false
  | .app i e, st => match st with
    | .Expr (.Call (.Attribute (.Name x _) m ap) [v] [] p) _ => decide (m = ("append" : Str)) && C.nm i x && !isStar v && (ap.endLine == p.line) && chX G C false e v
    | _ => false
  | .pop i, st => match st with
    | .Expr (.Call (.Attribute (.Name x _) m ap) [] [] p) _ => decide (m = ("pop" : Str)) && C.nm i x && (ap.endLine == p.line)
    | _ => false
  | .fz _, _ => false
  | .newc i es, st => match st with
    | .Assign [.Name x _] (.List vs _) _ => C.tg i x && chXs G C es vs && decide (es.len ≤ 1000)
    | _ => false
  | .retc es, st => match st with
    | .Return (some (.List vs _)) _ => chXs G C es vs && decide (es.len ≤ 1000)
    | _ => false
  | .ex e, st => match st with
    | .Expr v _ => !isComp v && chX G C false e v
    | _ => false
  | .ret e, st => match st with
    | .Return (some v) _ => chX G C false e v
    | _ => false
  | .ret0, st => match st with
    | .Return none _ => true
    | _ => false
  | .ife c a b, st => match st with
    | .If t x y _ => chX G C true c t && chSs C a x && chSs C b y
    | _ => false
  | .for_ t w b, st => match st with
    | .For tg it body [] _ => !w.isB && !isSetE it && chG G C t tg && (chW G C w it && (!w.pair || isTupE tg)) && chSs C b body
    | _ => false
  | .forc t e b, st => match st with
    | .For tg it body [] _ => !isSetE it && chG G C t tg && chX G C false e it && chSs C b body
    | _ => false
  | .wh c b, st => match st with
    | .While t body [] _ => chX G C true c t && chSs C b body
    | _ => false
  | .brk, st => match st with | .Break _ => true | _ => false
  | .cnt, st => match st with | .Continue _ => true | _ => false
  | .pass, st => match st with | .Pass _ => true | _ => false
  | .never, _ => true
def chSs (C : Ck) : Sms → List Stmt → Bool
  | .nil, l => match l with | [] => true | _ => false
  | .cons s ss, l => match s with
    | .fz _ => chSs C ss l
    | s => match l with
      | x :: l => chS C s x && chSs C ss l
      | [] => false
end
end PD

namespace PD
open PySem PySem.Spec PyProof.Rows L2
variable {G : Gam}
theorem lcB_ok {X : Cx} {C : Ck} {k : Nat} {x : Str} {px pos : Pos} {l : Nat} {elt : Expr} {gs : List Comprehension} {scope : Scope} (o : Xok G X C k) (h : lcB C x px (.ListComp elt gs scope pos) = true) :
    X.env.scope.names.lookup x = some .local ∧ swapsWith (.ListComp elt gs scope pos) (some (.Name x px)) l X.env = pure true := by
  unfold lcB at h
  simp only [Bool.and_eq_true, decide_eq_true_eq, Bool.not_eq_true'] at h
  have hl : X.env.scope.names.lookup x = some .local := by rw [o.sn]; exact h.1.1
  exact ⟨hl, sw_true o.kind hl h.1.2 h.2⟩
theorem swF_ok {X : Cx} {C : Ck} {k : Nat} {tg v : Expr} {l : Nat} (o : Xok G X C k) (h : swF C tg v = true) : swapsWith v (some tg) l X.env = pure false := by
  have hb : X.env.blockKind = .function := by unfold PySem.Env.blockKind; rw [o.kind]; rfl
  unfold swF at h
  split at h
  · rename_i sc p
    unfold swapsWith
    split at h
    · rename_i x px
      rw [← o.sn] at h
      have e : ((X.env.blockKind == .function && X.env.kindOf x == some .local && px.line == p.line && !(sc.names.any fun (n, k) => n == x && (k == .local || k == .cell)))) = false := by
        rw [hb]
        show ((true && (X.env.scope.names.lookup x == some .local)) && px.line == p.line && !(sc.names.any fun (n, k) => n == x && (k == .local || k == .cell))) = false
        rw [Bool.true_and]
        rw [Bool.not_eq_true'] at h
        rw [← h]
        congr 2
        by_cases q : X.env.scope.names.lookup x = some .local
        · rw [q]; rfl
        · rw [decide_eq_false q]
          exact beq_eq_false_iff_ne.mpr q
      show (pure _ : Sem Bool) = pure false
      exact congrArg pure e
    · rename_i hn
      cases tg <;> first | exact (hn _ _ rfl).elim | rfl
  · cases h
/-- what the look at a comprehension tells -/
structure CmpP (G : Gam) (C : Ck) (elt : Xp) (t : Tg) (w : Wk) (c : Xo) (own : List Nat) (x tg it : Expr) (ifs : List Expr) (scope : Scope) : Prop where
  g2 : isSetE it = false
  g3 : chW G C w it = true
  gp : w.pair = true → isTupE tg = true
  g4 : blkC C.N (scOf C.sn) scope (ownP C.N own) = true
  g5 : t.pu = true
  g6 : ∀ j ∈ t.slots, j ∈ own
  g7 : chG G (C.blk scope) t tg = true
  g8 : chC G (C.blk scope) c ifs = true
  g9 : chX G (C.blk scope) false elt x = true
theorem cmp_parts {C : Ck} {elt : Xp} {t : Tg} {w : Wk} {c : Xo} {own : List Nat} {v : Expr} (h : chF G C (.comp elt t w c own) v = true) : ∃ x tg it ifs scope lp, v = .ListComp x [⟨tg, it, ifs, 0⟩] scope lp ∧ CmpP G C elt t w c own x tg it ifs scope := by
  have h : (match (generalizing := false) v with
      | .ListComp x [⟨tg, it, ifs, as⟩] scope _ => decide (as = 0) && !isSetE it && (chW G C w it && (!w.pair || isTupE tg)) && blkC C.N (scOf C.sn) scope (ownP C.N own) && t.pu && decide (∀ j ∈ t.slots, j ∈ own) &&
          chG G (C.blk scope) t tg && chC G (C.blk scope) c ifs && chX G (C.blk scope) false elt x
      | _ => false) = true := h
  split at h
  · rw [Bool.and_eq_true, Bool.and_eq_true, Bool.and_eq_true, Bool.and_eq_true, Bool.and_eq_true, Bool.and_eq_true, Bool.and_eq_true, Bool.and_eq_true] at h
    obtain ⟨⟨⟨⟨⟨⟨⟨⟨h1, h2⟩, h3⟩, h4⟩, h5⟩, h6⟩, h7⟩, h8⟩, h9⟩ := h
    obtain rfl := of_decide_eq_true h1
    simp only [Bool.not_eq_true', decide_eq_true_eq] at h2 h6
    rw [Bool.and_eq_true] at h3
    exact ⟨_, _, _, _, _, _, rfl, h2, h3.1, pair_of h3.2, h4, h5, h6, h7, h8, h9⟩
  · cases h
theorem lc3_ok {C : Ck} {t : Tg} {tg : Expr} {e : Xp} {v : Expr} (h : lc3 C t tg e v = true) : ∃ i x px elt t' w c own, t = .nm i ∧ tg = .Name x px ∧ e = .fr (.comp elt t' w c own) ∧ lcB C x px v = true := by
  unfold lc3 at h
  split at h
  · exact ⟨_, _, _, _, _, _, _, _, rfl, rfl, rfl, h⟩
  · cases h
theorem lc2_ok {C : Ck} {f : Fx} {x : Str} {px : Pos} {v : Expr} (h : lc2 C f x px v = true) : ∃ elt t' w c own, f = .comp elt t' w c own ∧ lcB C x px v = true := by
  unfold lc2 at h
  split at h
  · exact ⟨_, _, _, _, _, rfl, h⟩
  · cases h
/-- what a context of a def's body is -/
structure Xos (G : Gam) (X : Cx) (C : Ck) (k : Nat) : Prop where
  x : Xok G X C k
  nx : X.xe = fun _ _ => False
theorem Xos.own {X : Cx} {C : Ck} {k : Nat} (o : Xos G X C k) : PassesOwn (model X.prog X.w) X.A X.env X.xe := by
  rw [o.nx]; exact PassesOwn.never

theorem chSs_cons {C : Ck} {s : Sm} {ss : Sms} {x : Stmt} {l : List Stmt} (hf : ¬ ∃ i, s = .fz i) : chSs G C (.cons s ss) (x :: l) = (chS G C s x && chSs G C ss l) := by
  cases s <;> first | rfl | exact (hf ⟨_, rfl⟩).elim
mutual
theorem sS (k : Nat) : ∀ (s : Sm) (C : Ck) (X : Cx) (st : Stmt), Xos G X C k → chS G C s st = true → PS X st (tDS X.K (evS G s))
  | .asg t e, C, X, st, o, h => by
    have h : (match (generalizing := false) st with
      | .Assign [tg] v _ => chG G C t tg && chX G C false e v && !isStar tg && (if isComp v then lc3 C t tg e v || (swF C tg v && swSel C.sn tg v) else swSel C.sn tg v)
      | _ => false) = true := h
    split at h
    · rename_i _ tg v pos _
      rw [Bool.and_eq_true, Bool.and_eq_true, Bool.and_eq_true, Bool.not_eq_true'] at h
      obtain ⟨⟨⟨h1, h2⟩, h3⟩, h4⟩ := h
      cases hv : isComp v with
      | false =>
        rw [hv] at h4
        have h4 : swSel C.sn tg v = true := h4
        refine ps_asgD (sX k e false C X v o.x h2).e (sG k t C X tg o.x h1) (swaps_of hv) (swSel_ok o.x.kind (by rw [o.x.sn]; exact h4)) ?_
        rw [asgn_of (r := []) h3]; rfl
      | true =>
        rw [hv, if_pos rfl, Bool.or_eq_true] at h4
        rcases h4 with h4 | h4
        rotate_left
        · obtain ⟨h5, h6⟩ := Bool.and_eq_true_iff.mp h4
          refine ps_asgD (sX k e false C X v o.x h2).e (sG k t C X tg o.x h1) (swF_ok o.x h5) (swSel_ok o.x.kind (by rw [o.x.sn]; exact h6)) ?_
          rw [asgn_of (r := []) h3]; rfl
        obtain ⟨i, x, px, elt, t', w, c, own, rfl, rfl, rfl, h4⟩ := lc3_ok h4
        have hF : chF G C (.comp elt t' w c own) v = true := by
          have q : (!false && chF G C (.comp elt t' w c own) v) = true := h2
          simpa using q
        obtain ⟨n1, _, _⟩ := o.x.tg (show C.tg i x = true from h1)
        obtain ⟨ex, tgc, it, ifs, scope, lp, rfl, q⟩ := cmp_parts hF
        have bk := blk_ok o.x q.g4
        have hw : PI X tgc it (tDI X.K true (evW G w)) := by
          have z := sW k w C X tgc it o.x q.g3 q.gp
          cases e : w.isB with
          | true => exact z.2 e
          | false => exact PI.wk (z.1 e) tDI_weak
        have hg := fun s H A cl fp => sG k t' (C.blk _) (X.blk s H _ (compEnvC _ cl A X.env) fp) _ (o.x.blk bk.kind s H A cl fp) q.g7
        rw [q.g5] at hg
        obtain ⟨l1, l2⟩ := lcB_ok (l := pos.line) o.x h4
        have r := ps_asgLc (pos := pos) (X := X) (own := ownP C.N own) o.x.calm o.x.nd n1 l1 l2 hw bk (by rw [ownP_snd]; exact q.g6) hg (fun s H A cl fp => sC k c (C.blk _) (X.blk s H _ (compEnvC _ cl A X.env) fp) _ (o.x.blk bk.kind s H A cl fp) q.g8)
          (fun s H A cl fp => (sX k elt false (C.blk _) (X.blk s H _ (compEnvC _ cl A X.env) fp) _ (o.x.blk bk.kind s H A cl fp) q.g9).e) (fun x => fold_of q.g2 x)
        rw [ownP_snd] at r
        exact r
    · cases h
  | .own i f, C, X, st, o, h => by
    have h : (match (generalizing := false) st with
      | .Assign [.Name x px] v _ => C.tg i x && chF G C f v && (if isComp v then lc2 C f x px v || swF C (.Name x px) v else true)
      | _ => false) = true := h
    split at h
    · rename_i _ x px v pos _
      rw [Bool.and_eq_true, Bool.and_eq_true] at h
      obtain ⟨⟨h1, h2⟩, h4⟩ := h
      obtain ⟨n1, n2, n3⟩ := o.x.tg h1
      cases hv : isComp v with
      | false => exact ps_ownD o.x.nd n1 n2 (sF k f C X v o.x h2) (swaps_of hv) n3
      | true =>
        rw [hv, if_pos rfl, Bool.or_eq_true] at h4
        rcases h4 with h4 | h4
        rotate_left
        · exact ps_ownD o.x.nd n1 n2 (sF k f C X v o.x h2) (swF_ok o.x h4) n3
        obtain ⟨elt, t', w, c, own, rfl, h4⟩ := lc2_ok h4
        have hF := h2
        obtain ⟨ex, tgc, it, ifs, scope, lp, rfl, q⟩ := cmp_parts hF
        have bk := blk_ok o.x q.g4
        have hw : PI X tgc it (tDI X.K true (evW G w)) := by
          have z := sW k w C X tgc it o.x q.g3 q.gp
          cases e : w.isB with
          | true => exact z.2 e
          | false => exact PI.wk (z.1 e) tDI_weak
        have hg := fun s H A cl fp => sG k t' (C.blk _) (X.blk s H _ (compEnvC _ cl A X.env) fp) _ (o.x.blk bk.kind s H A cl fp) q.g7
        rw [q.g5] at hg
        obtain ⟨l1, l2⟩ := lcB_ok (l := pos.line) o.x h4
        have r := ps_ownLc (pos := pos) (X := X) (own := ownP C.N own) o.x.calm o.x.nd n1 l1 l2 hw bk (by rw [ownP_snd]; exact q.g6) hg (fun s H A cl fp => sC k c (C.blk _) (X.blk s H _ (compEnvC _ cl A X.env) fp) _ (o.x.blk bk.kind s H A cl fp) q.g8)
          (fun s H A cl fp => (sX k elt false (C.blk _) (X.blk s H _ (compEnvC _ cl A X.env) fp) _ (o.x.blk bk.kind s H A cl fp) q.g9).e) (fun x => fold_of q.g2 x)
        rw [ownP_snd] at r
        exact r
    · cases h
  | .par is es, C, X, st, o, h => by
    have h : (match (generalizing := false) st with
      | .Assign [.Tuple ts _ _] (.Tuple vs _ _) _ => chXs G C es vs && parC C is (swapB C.sn ts vs)
      | _ => false) = true := h
    split at h
    · simp only [Bool.and_eq_true] at h
      obtain ⟨h1, h2⟩ := h
      unfold parC at h2
      split at h2
      · rename_i ns hs
        simp only [Bool.and_eq_true, decide_eq_true_eq, List.all_eq_true] at h2
        obtain ⟨⟨h3, h4⟩, h5⟩ := h2
        refine ps_parD o.x.calm o.x.nd (fun i j n k1 k2 => ?_) h3 h4 (sXs k es C X _ o.x h1) (swap_of o.x.kind (by rw [o.x.sn]; exact hs))
        have m : (j, n) ∈ is.zip ns := List.mem_of_getElem? (i := i) (by rw [List.getElem?_zip_eq_some]; exact ⟨k1, k2⟩)
        have q := h5 _ m
        rw [o.x.N, o.x.sn]
        exact q
      · cases h2
    · cases h
  | .aug i op e, C, X, st, o, h => by
    have h : (match (generalizing := false) st with
      | .AugAssign (.Name x _) op' v _ => decide (op' = op.op) && C.tg i x && chX G C false e v
      | _ => false) = true := h
    split at h
    · simp only [Bool.and_eq_true, decide_eq_true_eq] at h
      obtain ⟨⟨rfl, h1⟩, h2⟩ := h
      obtain ⟨n1, n2, n3⟩ := o.x.tg h1
      exact ps_augD op o.x.nd n1 n2 (sX k e false C X _ o.x h2).e n3
    · cases h
  | .app i e, C, X, st, o, h => by
    have h : (match (generalizing := false) st with
      | .Expr (.Call (.Attribute (.Name x _) m ap) [v] [] p) _ => decide (m = ("append" : Str)) && C.nm i x && !isStar v && (ap.endLine == p.line) && chX G C false e v
      | _ => false) = true := h
    split at h
    · simp only [Bool.and_eq_true, decide_eq_true_eq, Bool.not_eq_true'] at h
      obtain ⟨⟨⟨⟨rfl, h1⟩, h2⟩, h3⟩, h4⟩ := h
      obtain ⟨n1, n2, n3, n4⟩ := o.x.nm h1
      have st := star_of (env := X.env) (r := []) h2
      exact ps_appD n1 n2 n3 n4 (sX k e false C X _ o.x h4).e st h3 (few_ok st)
    · cases h
  | .pop i, C, X, st, o, h => by
    have h : (match (generalizing := false) st with
      | .Expr (.Call (.Attribute (.Name x _) m ap) [] [] p) _ => decide (m = ("pop" : Str)) && C.nm i x && (ap.endLine == p.line)
      | _ => false) = true := h
    split at h
    · simp only [Bool.and_eq_true, decide_eq_true_eq] at h
      obtain ⟨⟨rfl, h1⟩, h3⟩ := h
      obtain ⟨n1, n2, n3, n4⟩ := o.x.nm h1
      exact ps_popD n1 n2 n3 n4 h3
    · cases h
  | .fz i, C, X, st, o, h => by cases h
  | .newc i es, C, X, st, o, h => by
    have h : (match (generalizing := false) st with
      | .Assign [.Name x _] (.List vs _) _ => C.tg i x && chXs G C es vs && decide (es.len ≤ 1000)
      | _ => false) = true := h
    split at h
    · simp only [Bool.and_eq_true, decide_eq_true_eq] at h
      obtain ⟨⟨h1, h2⟩, h3⟩ := h
      obtain ⟨n1, n2, n3⟩ := o.x.tg h1
      refine ps_newcD o.x.nd n1 n2 (fun L S xs S' e => ?_) (sXs k es C X _ o.x h2) n3
      exact Nat.le_trans (evXs_len es L S xs S' e) (Nat.le_trans h3 (by decide))
    · cases h
  | .retc es, C, X, st, o, h => by
    have h : (match (generalizing := false) st with
      | .Return (some (.List vs _)) _ => chXs G C es vs && decide (es.len ≤ 1000)
      | _ => false) = true := h
    split at h
    · simp only [Bool.and_eq_true, decide_eq_true_eq] at h
      refine ps_retcD (fun L S xs S' e => ?_) (sXs k es C X _ o.x h.1)
      exact Nat.le_trans (evXs_len es L S xs S' e) (Nat.le_trans h.2 (by decide))
    · cases h
  | .ex e, C, X, st, o, h => by
    have h : (match (generalizing := false) st with
      | .Expr v _ => !isComp v && chX G C false e v
      | _ => false) = true := h
    split at h
    · simp only [Bool.and_eq_true, Bool.not_eq_true'] at h
      exact ps_exD (sX k e false C X _ o.x h.2).e (swaps_of h.1)
    · cases h
  | .ret e, C, X, st, o, h => by
    have h : (match (generalizing := false) st with
      | .Return (some v) _ => chX G C false e v
      | _ => false) = true := h
    split at h
    · exact ps_retD (sX k e false C X _ o.x h).e
    · cases h
  | .ret0, C, X, st, o, h => by
    have h : (match (generalizing := false) st with
      | .Return none _ => true
      | _ => false) = true := h
    split at h
    · exact ps_ret0D
    · cases h
  | .ife c a b, C, X, st, o, h => by
    have h : (match (generalizing := false) st with
      | .If t x y _ => chX G C true c t && chSs G C a x && chSs G C b y
      | _ => false) = true := h
    split at h
    · simp only [Bool.and_eq_true] at h
      exact ps_ifD (sX k c true C X _ o.x h.1.1).t (sSs k a C X _ o h.1.2) (sSs k b C X _ o h.2)
    · cases h
  | .for_ t w b, C, X, st, o, h => by
    have h : (match (generalizing := false) st with
      | .For tg it body [] _ => !w.isB && !isSetE it && chG G C t tg && (chW G C w it && (!w.pair || isTupE tg)) && chSs G C b body
      | _ => false) = true := h
    split at h
    · rename_i _ tg it body pos _
      rw [Bool.and_eq_true, Bool.and_eq_true, Bool.and_eq_true, Bool.and_eq_true, Bool.and_eq_true] at h
      obtain ⟨⟨⟨⟨h1, h2⟩, h3⟩, h4, hp⟩, h5⟩ := h
      rw [Bool.not_eq_true'] at h1 h2
      have e : evS G (.for_ t w b) = fun L S => bnd (evW G w L S) fun ds S1 => forL (fun d L S => bnd (evG G t d L S) fun L2 S2 => evSs G b L2 S2) ds L S1 := by
        funext L S
        show (if w.isB = true then none else _) = _
        rw [h1]; rfl
      rw [e]
      exact ps_forD o.own o.x.calm ((sW k w C X tg it o.x h4 (pair_of hp)).1 h1) (sG k t C X tg o.x h3) (sSs k b C X body o h5) (fun x => fold_of h2 x)
    · cases h
  | .forc t e b, C, X, st, o, h => by
    have h : (match (generalizing := false) st with
      | .For tg it body [] _ => !isSetE it && chG G C t tg && chX G C false e it && chSs G C b body
      | _ => false) = true := h
    split at h
    · rename_i _ tg it body pos _
      rw [Bool.and_eq_true, Bool.and_eq_true, Bool.and_eq_true] at h
      obtain ⟨⟨⟨h2, h3⟩, h4⟩, h5⟩ := h
      rw [Bool.not_eq_true'] at h2
      exact ps_forCD o.own o.x.calm (sX k e false C X it o.x h4).e (sG k t C X tg o.x h3) (sSs k b C X body o h5) (fun x => fold_of h2 x)
    · cases h
  | .wh c b, C, X, st, o, h => by
    have h : (match (generalizing := false) st with
      | .While t body [] _ => chX G C true c t && chSs G C b body
      | _ => false) = true := h
    split at h
    · simp only [Bool.and_eq_true] at h
      exact ps_whD o.own (sX k c true C X _ o.x h.1).t (sSs k b C X _ o h.2)
    · cases h
  | .brk, C, X, st, o, h => by
    have h : (match (generalizing := false) st with | .Break _ => true | _ => false) = true := h
    split at h
    · exact ps_brkD
    · cases h
  | .cnt, C, X, st, o, h => by
    have h : (match (generalizing := false) st with | .Continue _ => true | _ => false) = true := h
    split at h
    · exact ps_cntD
    · cases h
  | .pass, C, X, st, o, h => by
    have h : (match (generalizing := false) st with | .Pass _ => true | _ => false) = true := h
    split at h
    · exact ps_passD
    · cases h
  | .never, C, X, st, o, h => ps_neverD
theorem sSs (k : Nat) : ∀ (ss : Sms) (C : Ck) (X : Cx) (l : List Stmt), Xos G X C k → chSs G C ss l = true → PSs X l (tDS X.K (evSs G ss))
  | .nil, C, X, l, o, h => by
    have h : (match (generalizing := false) l with | [] => true | _ => false) = true := h
    split at h
    · exact pss_nilD
    · cases h
  | .cons s ss, C, X, l, o, h => by
    by_cases hf : ∃ i, s = .fz i
    · obtain ⟨i, rfl⟩ := hf
      exact pss_fzD (sSs k ss C X l o h)
    · cases l with
      | nil => cases s <;> first | (cases h; done) | exact (hf ⟨_, rfl⟩).elim
      | cons x l =>
        rw [chSs_cons hf, Bool.and_eq_true] at h
        exact pss_consD (sS k s C X x o h.1) (sSs k ss C X l o h.2)
end
end PD

set_option Elab.async false
set_option linter.all false
set_option maxRecDepth 100000
set_option maxHeartbeats 8000000
/-! PD, part o: defs, calls, the law's end. -/
namespace PD
open PySem PySem.Spec PyProof.Rows L2

/-- what a def promises: its run -/
def spD (K : PySem.W.Frag) (G : Gam) (n : Nat) (b : Sms) (ps : List Str) : Sp := fun vs H Q _ => vs.length = ps.length ∧
  ∃ g S ds d S', Gs K g H S ∧ Rps K g H vs ds ∧ runF G n b ds S = some (d, S') ∧ ∀ v g' H', Ext g H g' H' → Gs K g' H' S' → Rp K g' H' v d → Q v H'

section
variable {P : Program} {w : World} {K : PySem.W.Frag} {mg : Str → Option Value} {base : Heap} {G : Gam}
/-- what is known of the module, for a def -/
structure Mok (K : PySem.W.Frag) (mg : Str → Option Value) (G : Gam) : Prop where
  fre : ∀ x ∈ G.fre, mg x = none
  con : ∀ p ∈ G.cons, ∃ v u, mg p.1 = some u ∧ RelV v u ∧ ∀ g H, Rp K g H v p.2
  bfs : ∀ p ∈ G.bfs, mg p.1 = some (.builtin p.2)
theorem cr_start {N : List Str} {vs : List V} {ds : List D} {g : Gh} {H : Hp} {S : Store} (s : Gs K g H S) (r : Rps K g H vs ds) (hl : vs.length ≤ N.length) :
    Cr K g H (L2.start N vs) H (ds.map Lv.dat ++ List.replicate (N.length - ds.length) .un) S := by
  have hn : ∀ (i : Nat) (xs : List D), (ds.map Lv.dat ++ List.replicate (N.length - ds.length) Lv.un)[i]? = some (.own xs) → False := fun i xs h => by
    by_cases hi : i < ds.length
    · rw [List.getElem?_append_left (by simpa using hi), List.getElem?_map] at h
      cases e : ds[i]? with
      | none => rw [e] at h; cases h
      | some d => rw [e] at h; cases h
    · rw [List.getElem?_append_right (by simpa using hi), List.getElem?_replicate] at h
      split at h <;> cases h
  refine ⟨s, ⟨?_, fun b o h => ⟨o, h⟩, fun i d h => ?_, fun i xs h => (hn i xs h).elim, fun i j xs ys a h => (hn i xs h).elim⟩⟩
  · unfold L2.start
    simp only [List.length_append, List.length_map, List.length_replicate]
    have := r.length
    omega
  · by_cases hi : i < ds.length
    · rw [List.getElem?_append_left (by simpa using hi), List.getElem?_map] at h
      cases e : ds[i]? with
      | none => rw [e] at h; cases h
      | some d' =>
        rw [e] at h
        cases h
        obtain ⟨v, h1, h2⟩ := r.get e
        refine ⟨v, ?_, h2⟩
        unfold L2.start
        have hv : i < vs.length := by rw [r.length]; exact hi
        rw [List.getElem?_append_left (by simpa using hv), List.getElem?_map, h1]
        rfl
    · rw [List.getElem?_append_right (by simpa using hi), List.getElem?_replicate] at h
      split at h <;> cases h
theorem fnG_of {x qual : Str} {params : Arguments} {body : List Stmt} {scope : Scope} {dvs : List V} {kws : List (Str × V)} {f : Addr} {fd : FuncData} {N ps : List Str} {k : Nat} {b : Sms}
    (F : FunD K x qual params body scope dvs kws f fd) (S : FnScope N ps scope) (hc : chSs G ⟨N, scope.names, fun _ => true⟩ b body = true) (M : Mok K mg G) (he : ∀ e ∈ G.ents, EntOk P w K mg base k e) :
    FnG P w K mg base (k + 1) f fd ps (spD K G N.length b ps) := by
  obtain ⟨oc, od, dV, kV, doc, pm, an, cdv, ct, osl, rfl, lk, hcd, _, _⟩ := F.ex
  refine ⟨fun vs H Q E h => h.1, fun A outer s H args us vs Q E hr hg e0 hb r hsp => ?_⟩
  have hl := hsp.1
  have K0 : K.In s.heap := e0.mod.kin.keeps fun c o e => (e0.bs c o e).1
  have nolim : s.heap.NoLimit := e0.mod.nolimit.keeps fun c o e => (e0.bs c o e).1
  refine codeAny_call_function hr.depth (K0 _ _ lk) rfl S.co S.gen rfl (PySem.W.codeRec_of K0 hcd) (hb _ _ _ _ ?_)
  refine wpAny_newFunctionEnv_cells S.kind (fun ⟨n, v⟩ hy => ?_) fun env hen s1 x => ?_
  · rcases S.par n (List.of_mem_zip hy).1 with q | q
    · exact .inl q
    · exact .inr ⟨q, PySem.W.cellsFrom_some _ _ _ (.inl q)⟩
  subst hen
  refine ⟨nolim.keeps x.toInCall.keep, codeAny_func ?_⟩
  have ok : Xos G (cxOf CX0 P w K mg base N qual scope f cdv A outer s H E).nox ⟨N, scope.names, fun _ => true⟩ k :=
    ⟨⟨rfl, hr.deeper _, hg, rfl, S.nd, rfl, S.kind, fun _ _ => rfl, M.fre, M.con, M.bfs, he⟩, rfl⟩
  have ht := (sSs k b _ _ body ok hc).nox
  have I : Inv (cxOf CX0 P w K mg base N qual scope f cdv A outer s H E) [] (L2.start N vs) H s1 := inv_start S hr.hd e0 hl r x
  obtain ⟨_, g, S0, ds, d, S', s0, rp, run, fin⟩ := hsp
  obtain ⟨⟨fl, La⟩, S1, e1, e2⟩ := of_bnd run
  have hNl : vs.length ≤ N.length := by
    have := congrArg List.length S.pre
    rw [List.length_take] at this
    omega
  have hq : tDS K (evSs G b) { nx := fun _ H' => Q .non H', rt := Q } (L2.start N vs) H := by
    refine ⟨g, H, _, S0, fl, La, S1, cr_start s0 rp hNl, e1, ?_⟩
    cases fl with
    | nx =>
      cases e2
      exact fun σ g' H' x' w' c => fin .non g' H' (x' g Ext.refl) c.s .non
    | brk => cases e2
    | cnt => cases e2
    | ret d' =>
      cases e2
      exact fun v g' H' x' s' r' => fin v g' H' (x' g Ext.refl) s' r'
  refine wpAny_mono (ht.run [] s1 (L2.start N vs) H _ I hq) (fun fl2 s' hs => ?_) fun e s' hs => hs
  cases fl2 with
  | ret u =>
    obtain ⟨v, σ', H', J, rv, q⟩ := hs
    exact ⟨v, H', J.os, J.bare, J.base, J.hok, rv, q⟩
  | next =>
    obtain ⟨σ', H', J, q⟩ := hs
    exact ⟨V.non, H', J.os, J.bare, J.base, J.hok, rfl, q⟩
  | brk =>
    obtain ⟨_, _, _, q⟩ := hs
    exact q.elim
  | cont =>
    obtain ⟨_, _, _, q⟩ := hs
    exact q.elim

/-! ### ways of calling -/
/-- the values at these places -/
def pick {α : Type} (ix : List Nat) (l : List α) : List α := ix.filterMap fun i => l[i]?
theorem pick_vals {us : List Value} {vs : List V} (h : Vals vs us) : ∀ ix : List Nat, Vals (pick ix vs) (pick ix us)
  | [] => .nil
  | i :: ix => by
    unfold pick
    have t := pick_vals h ix
    unfold pick at t
    cases e : vs[i]? with
    | none =>
      have e2 : us[i]? = none := by
        rw [List.getElem?_eq_none_iff] at e ⊢
        rw [← h.length]; exact e
      rw [List.filterMap_cons, List.filterMap_cons, e, e2]
      exact t
    | some v =>
      obtain ⟨u, e2, r⟩ := h.get e
      rw [List.filterMap_cons, List.filterMap_cons, e, e2]
      exact .cons r t
theorem pick_rps {g : Gh} {H : Hp} {vs : List V} {ds : List D} (h : Rps K g H vs ds) : ∀ ix : List Nat, Rps K g H (pick ix vs) (pick ix ds)
  | [] => .nil
  | i :: ix => by
    unfold pick
    have t := pick_rps h ix
    unfold pick at t
    cases e : ds[i]? with
    | none =>
      have e2 : vs[i]? = none := by
        rw [List.getElem?_eq_none_iff] at e ⊢
        rw [h.length]; exact e
      rw [List.filterMap_cons, List.filterMap_cons, e, e2]
      exact t
    | some v =>
      obtain ⟨u, e2, r⟩ := h.get e
      rw [List.filterMap_cons, List.filterMap_cons, e, e2]
      exact .cons r t
/-- the entry of one way of calling: n positional values, keywords ks, defaults dd; ix: each parameter's place among positional values, defaults, keywords' values -/
noncomputable def mkEnt (name : Str) (n : Nat) (ks : List Str) (dd : List D) (ix : List Nat) (G : Gam) (m : Nat) (b : Sms) : Ent :=
  ⟨name, n, ks, fun ds S => runF G m b (pick ix (ds.take n ++ dd ++ ds.drop n)) S⟩
theorem kbn0 {x qual : Str} {params : Arguments} {body : List Stmt} {scope : Scope} {f : Addr} {fd : FuncData} {ps : List Str} (F : FunD K x qual params body scope [] [] f fd) (n : Nat) (ks : List Str) (ix : List Nat)
    (h : ∀ (kV doc pm : Value) (an : Option Addr) (cdv ct : Value) (us ws : List Value), us.length = n → ws.length = ks.length → bindArgs (PySem.W.fnOf x qual params body scope .none kV doc pm an cdv ct) ⟨us, ks.zip ws⟩ = pure (ps.zip (pick ix (us ++ [] ++ ws)))) :
    ∃ its : List Value, KBn K fd ps n ks (fun us ws => pick ix (us ++ its ++ ws)) (fun vs zs => pick ix (vs ++ [] ++ zs)) := by
  obtain ⟨oc, od, dV, kV, doc, pm, an, cdv, ct, osl, rfl, lk, hcd, hD, hK⟩ := F.ex
  rcases hD with ⟨_, rfl⟩ | ⟨e, _⟩
  · exact ⟨[], ⟨fun s us ws X l1 l2 => .of_eq (h kV doc pm an cdv ct us ws l1 l2), fun r1 r2 => pick_vals ((r1.append .nil).append r2) ix⟩⟩
  · exact absurd rfl e
theorem kbn1 {x qual : Str} {params : Arguments} {body : List Stmt} {scope : Scope} {dvs : List V} {f : Addr} {fd : FuncData} {ps : List Str} (F : FunD K x qual params body scope dvs [] f fd) (hd : dvs ≠ []) (n : Nat) (ks : List Str) (ix : List Nat)
    (h : ∀ (T : Addr) (kV doc pm : Value) (an : Option Addr) (cdv ct : Value) (us its ws : List Value), us.length = n → its.length = dvs.length → ws.length = ks.length →
      ∃ k, bindArgs (PySem.W.fnOf x qual params body scope (.ref T) kV doc pm an cdv ct) ⟨us, ks.zip ws⟩ = seqItems? (.ref T) >>= k ∧ k (some its.toArray) = pure (ps.zip (pick ix (us ++ its ++ ws)))) :
    ∃ its : List Value, KBn K fd ps n ks (fun us ws => pick ix (us ++ its ++ ws)) (fun vs zs => pick ix (vs ++ dvs ++ zs)) := by
  obtain ⟨oc, od, dV, kV, doc, pm, an, cdv, ct, osl, rfl, lk, hcd, hD, hK⟩ := F.ex
  rcases hD with ⟨e, _⟩ | ⟨_, T, o, its, m, rfl, lT, oT, rT⟩
  · exact absurd e hd
  · refine ⟨its, ⟨fun s us ws X l1 l2 => ?_, fun r1 r2 => pick_vals ((r1.append rT).append r2) ix⟩⟩
    obtain ⟨k, e1, e2⟩ := h T kV doc pm an cdv ct us its ws l1 rT.length.symm l2
    refine BindsTo.of_looks fun M => ?_
    rw [e1]
    exact looks_items X lT oT (.of_pure e2)
theorem rps_split {g : Gh} {H : Hp} {vs zs : List V} {ds : List D} {n : Nat} (r : Rps K g H (vs ++ zs) ds) (h : vs.length = n) : Rps K g H vs (ds.take n) ∧ Rps K g H zs (ds.drop n) := by
  have a := r.take n
  have b := r.drop n
  subst h
  rw [List.take_left'] at a
  · rw [List.drop_left'] at b
    · exact ⟨a, b⟩
    · rfl
  · rfl
theorem ent_of {name : Str} {n m k : Nat} {ks ps : List Str} {dd : List D} {dvs : List V} {ix : List Nat} {b : Sms} {f : Addr} {fd : FuncData} {gs : List Value → List Value → List Value} (hm : mg name = some (.ref f)) (hk : PySem.W.keepIn K (.ref f) = true)
    (F : FnG P w K mg base k f fd ps (spD K G m b ps)) (hb : KBn K fd ps n ks gs (fun vs zs => pick ix (vs ++ dvs ++ zs))) (hd : ∀ g H, Rps K g H dvs dd) (hl : (ix.all fun i => decide (i < n + dvs.length + ks.length)) = true) (hp : ix.length = ps.length) :
    EntOk P w K mg base k (mkEnt name n ks dd ix G m b) := by
  refine ⟨f, fd, ps, _, gs, _, hm, hk, F, hb, fun g H S vs zs ds d S' Q s r l1 l2 e q => ?_⟩
  obtain ⟨r1, r2⟩ := rps_split r l1
  have l2 : zs.length = ks.length := l2
  refine ⟨?_, g, S, _, d, S', s, pick_rps ((r1.append (hd g H)).append r2) ix, e, q⟩
  have : ∀ (ix : List Nat) (l : List V), (ix.all fun i => decide (i < l.length)) = true → (pick ix l).length = ix.length := by
    intro ix l
    induction ix with
    | nil => intro _; rfl
    | cons i ix ih =>
      intro h
      simp only [List.all_cons, Bool.and_eq_true, decide_eq_true_eq] at h
      unfold pick
      rw [List.filterMap_cons, List.getElem?_eq_getElem h.1]
      show (pick ix l).length + 1 = ix.length + 1
      rw [ih h.2]
  rw [this ix _ (by rw [List.length_append, List.length_append, l1, l2]; exact hl), hp]
end
end PD

set_option Elab.async false
set_option linter.all false
set_option maxRecDepth 100000
set_option maxHeartbeats 4000000
/-! PD, part v: cells made within a call become values at its end. -/
namespace PD
open PySem PySem.Spec PyProof.Rows L2

mutual
/-- no cells from n on -/
def D.low (n : Nat) : D → Bool
  | .cell k => decide (k < n)
  | .tup xs => D.lows n xs | .lst xs => D.lows n xs
  | _ => true
def D.lows (n : Nat) : List D → Bool
  | [] => true | x :: xs => x.low n && D.lows n xs
end
mutual
/-- cells from n on read as what they hold (f: what may stand there) -/
def sealD (n : Nat) (S : Store) (f : List D → Option (List D)) : D → Option D
  | .cell k => if k < n then some (.cell k) else match S[k]? with | some xs => (f xs).map .lst | none => none
  | .tup xs => (sealDs n S f xs).map .tup
  | .lst xs => (sealDs n S f xs).map .lst
  | .non => some .non | .bl b => some (.bl b) | .int i => some (.int i) | .str x => some (.str x) | .ty t => some (.ty t)
def sealDs (n : Nat) (S : Store) (f : List D → Option (List D)) : List D → Option (List D)
  | [] => some []
  | x :: xs => match sealD n S f x, sealDs n S f xs with
    | some y, some ys => some (y :: ys)
    | _, _ => none
end
def seal0 (n : Nat) (xs : List D) : Option (List D) := if D.lows n xs then some xs else none
/-- two levels of cells -/
def sealV (n : Nat) (S : Store) (d : D) : Option D := sealD n S (sealDs n S (seal0 n)) d
/-- no cell of before holds a new one -/
def SealOk (S S' : Store) : Prop := ∀ i row, i < S.length → S'[i]? = some row → S[i]? = some row ∨ D.lows S.length row = true
open Classical in
noncomputable def sealR (S : Store) (r : Option (D × Store)) : Option (D × Store) :=
  bnd r fun d S' => if SealOk S S' then match sealV S.length S' d with | some d' => some (d', S'.take S.length) | none => none else none
noncomputable def sealE (e : Ent) : Ent := ⟨e.name, e.n, e.ks, fun ds S => sealR S (e.sem ds S)⟩

section
variable {K : PySem.W.Frag} {g g' : Gh} {H H' : Hp} {m : List Addr}
/-- what is left of the ghost -/
def Gh.seal (g g' : Gh) : Gh := ⟨g.ca, fun b => g'.W b ∧ b ∉ g'.ca.drop g.ca.length⟩
mutual
theorem Rp.seal0 (em : g'.ca = g.ca ++ m) : ∀ {v : V} {d : D}, Rp K g' H' v d → d.low g.ca.length = true → Rp K (g.seal g') H' v d
  | _, _, .non, _ => .non
  | _, _, .bl b, _ => .bl b
  | _, _, .int i, _ => .int i
  | _, _, .str x, _ => .str x
  | _, _, .ty n, _ => .ty n
  | _, _, .tup h r, e => .tup (h.elim (fun z => .inl ⟨z.1, fun w => z.2 w.1⟩) .inr) (Rps.seal0 em r (by simpa [D.low] using e))
  | _, _, .lst h r, e => .lst (h.elim (fun z => .inl ⟨z.1, fun w => z.2 w.1⟩) .inr) (Rps.seal0 em r (by simpa [D.low] using e))
  | _, _, .cell (a := a) (n := n) h, e => by
    simp only [D.low, decide_eq_true_eq] at e
    refine .cell ?_
    rw [em, List.getElem?_append_left e] at h
    exact h
theorem Rps.seal0 (em : g'.ca = g.ca ++ m) : ∀ {vs : List V} {ds : List D}, Rps K g' H' vs ds → D.lows g.ca.length ds = true → Rps K (g.seal g') H' vs ds
  | _, _, .nil, _ => .nil
  | _, _, .cons h r, e => by
    simp only [D.lows, Bool.and_eq_true] at e
    exact .cons (Rp.seal0 em h e.1) (Rps.seal0 em r e.2)
end
mutual
theorem Rp.sealD (em : g'.ca = g.ca ++ m) {S' : Store} (s : Gs K g' H' S') {f : List D → Option (List D)} (hf : ∀ xs ds ds', Rps K g' H' xs ds → f ds = some ds' → Rps K (g.seal g') H' xs ds') :
    ∀ {v : V} {d d' : D}, Rp K g' H' v d → PD.sealD g.ca.length S' f d = some d' → Rp K (g.seal g') H' v d'
  | _, _, _, .non, e => by simp only [PD.sealD, Option.some.injEq] at e; subst e; exact .non
  | _, _, _, .bl b, e => by simp only [PD.sealD, Option.some.injEq] at e; subst e; exact .bl b
  | _, _, _, .int i, e => by simp only [PD.sealD, Option.some.injEq] at e; subst e; exact .int i
  | _, _, _, .str x, e => by simp only [PD.sealD, Option.some.injEq] at e; subst e; exact .str x
  | _, _, _, .ty n, e => by simp only [PD.sealD, Option.some.injEq] at e; subst e; exact .ty n
  | _, _, _, .tup (ds := ds) h r, e => by
    simp only [PD.sealD] at e
    cases k : PD.sealDs g.ca.length S' f ds with
    | none => rw [k] at e; cases e
    | some ys =>
      rw [k] at e
      cases e
      exact .tup (h.elim (fun z => .inl ⟨z.1, fun w => z.2 w.1⟩) .inr) (Rps.sealDs em s hf r k)
  | _, _, _, .lst (ds := ds) h r, e => by
    simp only [PD.sealD] at e
    cases k : PD.sealDs g.ca.length S' f ds with
    | none => rw [k] at e; cases e
    | some ys =>
      rw [k] at e
      cases e
      exact .lst (h.elim (fun z => .inl ⟨z.1, fun w => z.2 w.1⟩) .inr) (Rps.sealDs em s hf r k)
  | _, _, _, .cell (a := a) (n := n) h, e => by
    simp only [PD.sealD] at e
    split at e
    · rename_i hn
      cases e
      refine .cell ?_
      rw [em, List.getElem?_append_left hn] at h
      exact h
    · rename_i hn
      cases k : S'[n]? with
      | none => rw [k] at e; cases e
      | some ds =>
        rw [k] at e
        cases k2 : f ds with
        | none => simp [k2] at e
        | some ds' =>
          simp [k2] at e
          subst e
          obtain ⟨xs, h2, r2⟩ := s.st n a ds h k
          refine .lst (.inl ⟨.inl h2, fun w => w.2 ?_⟩) (hf xs ds ds' r2 k2)
          refine List.mem_of_getElem? (i := n - g.ca.length) ?_
          rw [List.getElem?_drop]
          rw [show g.ca.length + (n - g.ca.length) = n by omega]
          exact h
theorem Rps.sealDs (em : g'.ca = g.ca ++ m) {S' : Store} (s : Gs K g' H' S') {f : List D → Option (List D)} (hf : ∀ xs ds ds', Rps K g' H' xs ds → f ds = some ds' → Rps K (g.seal g') H' xs ds') :
    ∀ {vs : List V} {ds ds' : List D}, Rps K g' H' vs ds → PD.sealDs g.ca.length S' f ds = some ds' → Rps K (g.seal g') H' vs ds'
  | _, _, _, .nil, e => by simp only [PD.sealDs, Option.some.injEq] at e; subst e; exact .nil
  | _, _, _, .cons (d := d) (ds := ds) h r, e => by
    simp only [PD.sealDs] at e
    split at e
    · rename_i y ys h1 h2
      cases e
      exact .cons (Rp.sealD em s hf h h1) (Rps.sealDs em s hf r h2)
    · cases e
end
theorem ext_seal {S S' : Store} (x : Ext g H g' H') (s : Gs K g H S) (s' : Gs K g' H' S') : Ext g H (g.seal g') H' := by
  obtain ⟨m, em⟩ := x.ca
  have nd := s'.nd
  rw [em] at nd
  refine ⟨x.keep, x.there, fun b o h => ⟨fun w => (x.wk b o h).mp w.1, fun w => ⟨(x.wk b o h).mpr w, fun z => ?_⟩⟩, ⟨[], by simp [Gh.seal]⟩, fun c hc => .inl hc⟩
  rw [em, List.drop_left'] at z
  · rcases x.new b (by rw [em]; exact List.mem_append.mpr (.inr z)) with q | q
    · exact (List.nodup_append.mp nd).2.2 b q b z rfl
    · rw [h] at q; cases q
  · rfl
mutual
theorem Rp.lowS : ∀ {v : V} {d : D}, Rp K g H v d → d.low g.ca.length = true
  | _, _, .non => rfl
  | _, _, .bl b => rfl
  | _, _, .int i => rfl
  | _, _, .str x => rfl
  | _, _, .ty n => rfl
  | _, _, .tup h r => by simp only [D.low]; exact Rps.lowS r
  | _, _, .lst h r => by simp only [D.low]; exact Rps.lowS r
  | _, _, .cell h => by simp only [D.low, decide_eq_true_eq]; exact (List.getElem?_eq_some_iff.mp h).1
theorem Rps.lowS : ∀ {vs : List V} {ds : List D}, Rps K g H vs ds → D.lows g.ca.length ds = true
  | _, _, .nil => rfl
  | _, _, .cons h r => by simp only [D.lows, Bool.and_eq_true]; exact ⟨Rp.lowS h, Rps.lowS r⟩
end
theorem gs_seal {S S' : Store} (x : Ext g H g' H') (s : Gs K g H S) (s' : Gs K g' H' S') (h : SealOk S S') : Gs K (g.seal g') H' (S'.take S.length) := by
  obtain ⟨m, em⟩ := x.ca
  have nd := s'.nd
  rw [em] at nd
  have l1 := s.len
  have l2 := s'.len
  refine ⟨fun b w => s'.wi b w.1, fun a ha => ⟨s'.cw a (by rw [em]; exact List.mem_append.mpr (.inl ha)), fun z => ?_⟩, s.nd, ?_, fun n a ds h1 h2 => ?_⟩
  · rw [em, List.drop_left'] at z
    · exact (List.nodup_append.mp nd).2.2 a ha a z rfl
    · rfl
  · show g.ca.length = _
    rw [List.length_take, l1]
    have : g'.ca.length = g.ca.length + m.length := by rw [em, List.length_append]
    omega
  · have h1 : g.ca[n]? = some a := h1
    have hn : n < g.ca.length := (List.getElem?_eq_some_iff.mp h1).1
    have h2' : S'[n]? = some ds := by
      rw [List.getElem?_take_of_lt (by omega)] at h2
      exact h2
    have h1' : g'.ca[n]? = some a := by rw [em, List.getElem?_append_left hn]; exact h1
    obtain ⟨xs, h3, r3⟩ := s'.st n a ds h1' h2'
    refine ⟨xs, h3, Rps.seal0 em r3 ?_⟩
    rcases h n ds (by omega) h2' with q | q
    · obtain ⟨ys, _, rr⟩ := s.st n a ds h1 q
      exact rr.lowS
    · rw [l1]; exact q
end
/-- a call whose new cells become values -/
theorem ent_seal {P : Program} {w : World} {K : PySem.W.Frag} {mg : Str → Option Value} {base : Heap} {k : Nat} {e : Ent} (h : EntOk P w K mg base k e) : EntOk P w K mg base k (sealE e) := by
  obtain ⟨f, fd, ps, sp, gs, gv, hm, hkp, F, hb, hsp⟩ := h
  refine ⟨f, fd, ps, sp, gs, gv, hm, hkp, F, hb, fun g H S vs zs ds d S' Q s r l1 l2 he q => ?_⟩
  have he : sealR S (e.sem ds S) = some (d, S') := he
  unfold sealR at he
  obtain ⟨d0, S0, e1, e2⟩ := of_bnd he
  split at e2
  · rename_i hl
    split at e2
    · rename_i d' hd
      cases e2
      refine hsp g H S vs zs ds d0 S0 Q s r l1 l2 e1 fun v g' H' x' s' r' => ?_
      obtain ⟨m, em⟩ := x'.ca
      refine q v (g.seal g') H' (ext_seal x' s s') (gs_seal x' s s' hl) ?_
      unfold sealV at hd
      rw [← s.len] at hd
      exact Rp.sealD em s' (fun xs ds ds' r h => Rps.sealDs em s' (fun xs ds ds' r h => by
        unfold PD.seal0 at h
        split at h
        · rename_i hh
          cases h
          exact Rps.seal0 em r hh
        · cases h) r h) r' hd
    · cases e2
  · cases e2
section
variable {e : Ent}
@[simp] theorem se_n : (sealE e).n = e.n := rfl
@[simp] theorem se_ks : (sealE e).ks = e.ks := rfl
@[simp] theorem se_sem {ds : List D} {S : Store} : (sealE e).sem ds S = sealR S (e.sem ds S) := rfl
@[simp] theorem se_name : (sealE e).name = e.name := rfl
end
mutual
theorem sealD_low {n : Nat} {S : Store} {f : List D → Option (List D)} : ∀ {d : D}, d.low n = true → sealD n S f d = some d
  | .non, _ => rfl
  | .bl _, _ => rfl
  | .int _, _ => rfl
  | .str _, _ => rfl
  | .ty _, _ => rfl
  | .tup xs, h => by
    simp only [D.low] at h
    simp only [sealD, sealDs_low h, Option.map_some]
  | .lst xs, h => by
    simp only [D.low] at h
    simp only [sealD, sealDs_low h, Option.map_some]
  | .cell k, h => by
    simp only [D.low, decide_eq_true_eq] at h
    simp only [sealD, if_pos h]
theorem sealDs_low {n : Nat} {S : Store} {f : List D → Option (List D)} : ∀ {d : List D}, D.lows n d = true → sealDs n S f d = some d
  | [], _ => rfl
  | x :: xs, h => by
    simp only [D.lows, Bool.and_eq_true] at h
    simp only [sealDs, sealD_low h.1, sealDs_low h.2]
end
mutual
theorem low_pure {n : Nat} : ∀ {d : D}, d.pure = true → d.low n = true
  | .non, _ => rfl
  | .bl _, _ => rfl
  | .int _, _ => rfl
  | .str _, _ => rfl
  | .ty _, h => by simp [D.pure] at h
  | .tup xs, h => by simp only [D.pure] at h; simp only [D.low, lows_pure h]
  | .lst xs, h => by simp only [D.pure] at h; simp only [D.low, lows_pure h]
  | .cell k, h => by simp [D.pure] at h
theorem lows_pure {n : Nat} : ∀ {d : List D}, D.pures d = true → D.lows n d = true
  | [], _ => rfl
  | x :: xs, h => by
    simp only [D.pures, Bool.and_eq_true] at h
    simp only [D.lows, low_pure h.1, lows_pure h.2, Bool.and_self]
end
theorem sealOk_app {S T : Store} : SealOk S (S ++ T) := fun i row hi h => .inl (by rw [List.getElem?_append_left hi] at h; exact h)
theorem sealR_of {S S' : Store} {d d' : D} (ok : SealOk S S') (h : sealV S.length S' d = some d') : sealR S (some (d, S')) = some (d', S'.take S.length) := by
  unfold sealR
  rw [bnd_some, if_pos ok, h]
theorem sealV_low {n : Nat} {S : Store} {d : D} (h : d.low n = true) : sealV n S d = some d := sealD_low h
/-- a result without new cells: what was added to the store is dropped -/
theorem sealR_low {S T : Store} {d : D} (hd : d.low S.length = true) : sealR S (some (d, S ++ T)) = some (d, S) := by
  rw [sealR_of sealOk_app (sealV_low hd), List.take_left' rfl]
end PD

set_option Elab.async false
set_option linter.all false
set_option maxRecDepth 100000
set_option maxHeartbeats 8000000
/-! PD, part p: the law's end. -/
namespace PD
open PySem PySem.Spec PyProof.Rows L2

/-- the law's def keeps its promise at the heap behind the top -/
theorem lawG {P : Program} {w : World} {K : PySem.W.Frag} {mg mb : Str → Option Value} {k : Nat} {fl sc : Addr} {fd : FuncData} {x : Str} {sp : Sp} {s1 : Shared} {vs : List Value} {ns : List Int}
    (KX : K.In s1.heap) (hns : s1.heap.Ns mainGlobals mg) (hbn : s1.heap.Ns builtinsNs mb) (hbb : ∀ y : Str, y ≠ "__name__" → mb y = bootBuiltins y)
    (hlim : s1.heap.NoLimit) (hgen : s1.gens = #[]) (hobj : s1.heap.get? sc = some { cls := .type "list", data := .seq vs.toArray }) (hi : IntsAre vs ns) (hl : ns.length ≤ sizeLine)
    (hr : Room k callerA) (F : ∀ base : Heap, K.In base → base.Ns mainGlobals mg → FnG P w K mg base k fl fd [x] sp) (hbind : ∀ (s : Shared) (u : Value), BindsTo s fd ⟨[u], []⟩ [(x, u)])
    (hsp : ∀ H : Hp, (∀ b, H b = none ∨ ∃ o ys, H b = some (.frz o (.lst ys))) → LX K H sc (ns.map V.int) → sp [.ref sc] H (fun v _ => v = .bl true) E0) :
    codeAny (model P w) callerA (.call (.ref fl) ⟨[.ref sc], []⟩) (fun r t => r = .ok (.ret (.bool true)) ∧ OldK s1.heap t.heap ∧ t.os = s1.os ∧ AllBare t.gens) s1 := by
  have rints := vals_ints hi
  have llen := hi.length
  have main : ∀ Hx : Hp, (∀ b, Hx b = none ∨ ∃ o ys, Hx b = some (.frz o (.lst ys))) → LX K Hx sc (ns.map V.int) → HOk P w Hx s1.heap → (∀ b, Hx b ≠ none → b = sc) → (Hx sc ≠ none → K.lookup sc = none) →
      codeAny (model P w) callerA (.call (.ref fl) ⟨[.ref sc], []⟩) (fun r t => r = .ok (.ret (.bool true)) ∧ OldK s1.heap t.heap ∧ t.os = s1.os ∧ AllBare t.gens) s1 := by
    intro Hx only hseq hok one noK
    have vis : ∀ {b : Addr} {o : Obj}, s1.heap.get? b = some o → Hx b = none → (hidT s1.heap Hx).get? b = some o := fun e n => hidT_get e n
    have nodict : ∀ {b : Addr} {o : Obj} {es : Array DictEntry} {ep : Nat}, s1.heap.get? b = some o → o.data = .dict es ep → Hx b = none := by
      intro b o es ep e d
      cases q : Hx b with
      | none => rfl
      | some u =>
        obtain rfl : b = sc := one b (by rw [q]; simp)
        rw [hobj] at e
        cases e
        have dd : Data.seq vs.toArray _ = Data.dict es ep := d
        cases dd
    have nsH : ∀ {b : Addr} {m : Str → Option Value}, s1.heap.Ns b m → (hidT s1.heap Hx).Ns b m := by
      rintro b m ⟨o, es, ep, e, d, r⟩
      exact ⟨o, es, ep, vis e (nodict e d), d, r⟩
    have Kin : K.In (hidT s1.heap Hx) := by
      intro b o e
      refine vis (KX b o e) ?_
      cases q : Hx b with
      | none => rfl
      | some u =>
        obtain rfl : b = sc := one b (by rw [q]; simp)
        rw [noK (by rw [q]; simp)] at e
        cases e
    obtain ⟨mc, lim1, lim2⟩ := hlim
    have env0 : Env0 P w K mg (hidT s1.heap Hx) callerA [] s1 Hx :=
      ⟨rfl, ⟨Kin, nsH hns, ⟨mb, nsH hbn, hbb⟩, mc, nsH lim1, lim2⟩, fun b o e => of_hidT e, Nat.le_of_eq (hidT_size _ _), trivial, fun b z => absurd (show b ∈ ([] : List Addr) from z) (by simp), hok, .of_eq hgen⟩
    refine codeAny_mono ((F _ Kin (nsH hns)).run callerA [] s1 Hx ⟨[.ref sc], []⟩ [.ref sc] [.ref sc] _ _ hr rfl env0 (hbind s1 (.ref sc)) (.cons rfl .nil) (hsp Hx only hseq)) ?_
    rintro (e | f) t h
    · exact h.elim
    · cases f with
      | next => exact h.elim
      | brk => exact h.elim
      | cont => exact h.elim
      | ret u =>
        obtain ⟨v, H', hos, hbare, un, hok2, rv, q⟩ := h
        obtain rfl : v = .bl true := q
        obtain rfl : u = Value.bool true := rv
        refine ⟨rfl, OldK.of_keep fun b o e => ?_, hos, hbare⟩
        rcases only b with z | ⟨ob, ys, z⟩
        · exact un.keep b o e z (fun m => absurd (show b ∈ ([] : List Addr) from m) (by simp)) (by simp)
        · obtain ⟨g1, _⟩ := hok b _ z
          obtain ⟨g2, _⟩ := hok2 b _ (un.frzs b ob _ z)
          rw [e] at g1
          cases g1
          exact g2
  have hsz : (ns.map V.int).length ≤ sizeLine := by rw [List.length_map]; exact hl
  cases hK : K.lookup sc with
  | some o =>
    have e := KX sc o hK
    rw [hobj] at e
    cases e
    refine main (fun _ => none) (fun _ => .inl rfl) (.inr ⟨vs, _, hK, by rw [llen]; exact hl, rints⟩) (fun b u z => ?_) (fun b z => absurd rfl z) fun z => absurd rfl z
    have z2 : (none : Option HO) = some u := z
    cases z2
  | none =>
    refine main (fun b => if b = sc then some (.frz { cls := .type "list", data := .seq vs.toArray } (.lst (ns.map V.int))) else none) (fun b => ?_) (.inl (.inr ⟨_, if_pos rfl⟩)) (fun b u z => ?_) (fun b z => ?_) fun _ => hK
    · by_cases q : b = sc
      · exact .inr ⟨_, _, if_pos q⟩
      · exact .inl (if_neg q)
    · by_cases q : b = sc
      · have z2 := (if_pos q).symm.trans z
        cases z2
        subst q
        exact ⟨hobj, hsz, vs, _, rints, hobj⟩
      · have z2 := (if_neg q).symm.trans z
        cases z2
    · by_cases q : b = sc
      · exact q
      · exact absurd (if_neg q) z

/-- the script as a datum -/
theorem rp_script {K : PySem.W.Frag} {H : Hp} {a : Addr} {ns : List Int} (h : LX K H a (ns.map V.int)) : Rp K ⟨[], fun _ => False⟩ H (.ref a) (.lst (ns.map D.int)) := by
  refine .lst ?_ (Rps.of_ints ns)
  rcases h with h | h
  · exact .inl ⟨h, fun q => q⟩
  · exact .inr h
theorem gs_nil {K : PySem.W.Frag} {H : Hp} : Gs K ⟨[], fun _ => False⟩ H [] :=
  ⟨fun _ (z : False) => z.elim, fun _ z => absurd z (by simp), List.nodup_nil, rfl, fun n a ds z => absurd z (by simp)⟩

/-- the whole way of a law: the def's run answers True at every script -/
theorem walkG {l : PySem.W.OpenLaw} {k : Nat} {q : Program} {loose : List Str} {XP : (Str → Option Value) → Heap → Prop} {YP : World → Heap → Prop} {d : DefRec} {x : Str} {G : Gam} {m : Nat} {b : Sms}
    (hn : l.most = some 63) (hdf : d.params.defaults = []) (hr : Room k callerA)
    (F : ∀ (w : World) (mg : Str → Option Value) (fa : Addr) (h : Heap), YP w h → h.Ns mainGlobals mg → mg d.name = some (.ref fa) →
      ∃ (K : PySem.W.Frag) (fd : FuncData), K.In h ∧ (∀ (s : Shared) (u : Value), BindsTo s fd ⟨[u], []⟩ [(x, u)]) ∧
        ∀ base : Heap, K.In base → base.Ns mainGlobals mg → FnG l.prog w K mg base k fa fd [x] (spD K G m b [x]))
    (run : ∀ ns : List Int, ns.length ≤ 63 → ∃ S, runF G m b [.lst (ns.map D.int)] [] = some (.bl true, S)) :
    PySem.W.WalkO q loose XP YP l.row.toRowW d [] (fun f vs => PySem.call f vs) := by
  refine Att.attach_call hn hdf fun w s0 s1 mg mb fa o pm cd doc a vs ns Gr Y ho hd hcd hmg hobj hi hlen hg => ?_
  obtain ⟨K, fd, KX, hb, hF⟩ := F w mg fa _ Y Gr.T.g hmg
  have h63 : (63 : Nat) ≤ sizeLine := by decide
  refine lawG KX Gr.T.g Gr.T.b Gr.T.builtins Gr.T.nolimit hg hobj hi (Nat.le_trans hlen h63) hr hF hb fun H only hs => ?_
  obtain ⟨S, e⟩ := run ns hlen
  refine ⟨rfl, _, [], [.lst (ns.map D.int)], _, S, gs_nil, .cons (rp_script hs) .nil, e, fun v g' H' _ _ r => ?_⟩
  cases r with
  | bl => rfl

/-- the whole way of a law, the numbers of 2 ^ 20 bits at most: the def's run answers True at every script -/
theorem walkGB {l : PySem.W.OpenLaw} {k : Nat} {q : Program} {loose : List Str} {XP : (Str → Option Value) → Heap → Prop} {YP : World → Heap → Prop} {d : DefRec} {x : Str} {G : Gam} {m : Nat} {b : Sms}
    (hn : l.most = some 63) (hdf : d.params.defaults = []) (hr : Room k callerA)
    (F : ∀ (w : World) (mg : Str → Option Value) (fa : Addr) (h : Heap), YP w h → h.Ns mainGlobals mg → mg d.name = some (.ref fa) →
      ∃ (K : PySem.W.Frag) (fd : FuncData), K.In h ∧ (∀ (s : Shared) (u : Value), BindsTo s fd ⟨[u], []⟩ [(x, u)]) ∧
        ∀ base : Heap, K.In base → base.Ns mainGlobals mg → FnG l.prog w K mg base k fa fd [x] (spD K G m b [x]))
    (run : ∀ ns : List Int, ns.length ≤ 63 → (∀ z ∈ ns, Builtin.Int.intBits z ≤ 1048576) → ∃ S, runF G m b [.lst (ns.map D.int)] [] = some (.bl true, S)) :
    PySem.W.WalkO q loose XP YP l.row.toRowW d [] (fun f vs => PySem.call f vs) := by
  refine Att.attach_callB hn hdf fun w s0 s1 mg mb fa o pm cd doc a vs ns Gr Y ho hd hcd hmg hobj hi hlen hbt hg => ?_
  obtain ⟨K, fd, KX, hb, hF⟩ := F w mg fa _ Y Gr.T.g hmg
  have h63 : (63 : Nat) ≤ sizeLine := by decide
  refine lawG KX Gr.T.g Gr.T.b Gr.T.builtins Gr.T.nolimit hg hobj hi (Nat.le_trans hlen h63) hr hF hb fun H only hs => ?_
  obtain ⟨S, e⟩ := run ns hlen hbt
  refine ⟨rfl, _, [], [.lst (ns.map D.int)], _, S, gs_nil, .cons (rp_script hs) .nil, e, fun v g' H' _ _ r => ?_⟩
  cases r with
  | bl => rfl
end PD

set_option Elab.async false
set_option linter.all false
set_option maxRecDepth 100000
set_option maxHeartbeats 8000000
/-! PD, part q: what the head tells. -/
namespace PD
open PySem PySem.Spec PyProof.Rows L2

mutual
/-- a value of the written part is this datum -/
def matB (K : PySem.W.Frag) : D → Value → Bool
  | .non, u => match u with | .none => true | _ => false
  | .bl b, u => match u with | .bool c => b == c | _ => false
  | .int i, u => match u with | .int j _ => decide (i = j) | _ => false
  | .str x, u => match u with | .str y _ => decide (x = y) | _ => false
  | .tup ds, u => match u with
    | .ref a => match K.lookup a with
      | some ⟨.type c, _, .seq its _, _⟩ => decide (c = "tuple") && decide (its.size ≤ sizeLine) && matBs K ds its.toList
      | _ => false
    | _ => false
  | _, _ => false
def matBs (K : PySem.W.Frag) : List D → List Value → Bool
  | [], us => match us with | [] => true | _ => false
  | d :: ds, us => match us with | u :: us => matB K d u && matBs K ds us | _ => false
end
mutual
theorem matB_ok {K : PySem.W.Frag} : ∀ {d : D} {u : Value}, matB K d u = true → ∃ v, RelV v u ∧ ∀ g H, Rp K g H v d
  | .non, u, h => by cases u <;> first | exact ⟨.non, rfl, fun g H => .non⟩ | cases h
  | .bl b, u, h => by
    cases u <;> first | (cases h; done) | skip
    rename_i c
    have e : (b == c) = true := h
    obtain rfl := eq_of_beq e
    exact ⟨.bl b, rfl, fun g H => .bl _⟩
  | .int i, u, h => by
    cases u <;> first | (cases h; done) | skip
    obtain rfl := of_decide_eq_true (show decide (i = _) = true from h)
    exact ⟨.int i, ⟨_, rfl⟩, fun g H => .int _⟩
  | .str i, u, h => by
    cases u <;> first | (cases h; done) | skip
    obtain rfl := of_decide_eq_true (show decide (i = _) = true from h)
    exact ⟨.str i, ⟨_, rfl⟩, fun g H => .str _⟩
  | .tup ds, u, h => by
    cases u <;> first | (cases h; done) | skip
    rename_i a
    have h : (match K.lookup a with
      | some ⟨.type c, _, .seq its _, _⟩ => decide (c = "tuple") && decide (its.size ≤ sizeLine) && matBs K ds its.toList
      | _ => false) = true := h
    split at h
    · rename_i c od its n osl hl
      simp only [Bool.and_eq_true, decide_eq_true_eq] at h
      obtain ⟨⟨rfl, h2⟩, h3⟩ := h
      obtain ⟨vs, r, q⟩ := matBs_ok h3
      exact ⟨.ref a, rfl, fun g H => .tup (.inr ⟨_, its, n, hl, rfl, rfl, h2, r⟩) (q g H)⟩
    · cases h
  | .ty _, u, h => by cases h
  | .lst _, u, h => by cases h
  | .cell _, u, h => by cases h
theorem matBs_ok {K : PySem.W.Frag} : ∀ {ds : List D} {us : List Value}, matBs K ds us = true → ∃ vs, Vals vs us ∧ ∀ g H, Rps K g H vs ds
  | [], us, h => by cases us <;> first | exact ⟨[], .nil, fun g H => .nil⟩ | cases h
  | d :: ds, us, h => by
    cases us with
    | nil => cases h
    | cons u us =>
      obtain ⟨h1, h2⟩ := Bool.and_eq_true_iff.mp (show (matB K d u && matBs K ds us) = true from h)
      obtain ⟨v, r, q⟩ := matB_ok h1
      obtain ⟨vs, rs, qs⟩ := matBs_ok h2
      exact ⟨v :: vs, .cons r rs, fun g H => .cons (q g H) (qs g H)⟩
end
def conB (K : PySem.W.Frag) (p : Str × D) : Bool := match PySem.W.nsIn K mainGlobals p.1 with
  | some (some u) => matB K p.2 u
  | _ => false
def bfB (K : PySem.W.Frag) (p : Str × String) : Bool := match PySem.W.nsIn K mainGlobals p.1 with
  | some (some (.builtin i)) => decide (i = p.2)
  | _ => false
/-- a default that is a tuple -/
def dflB (K : PySem.W.Frag) (p : Str × Nat × D) : Bool := matB K p.2.2 (.ref (He.dflAt (p.1, none) p.2.1 K))
theorem dfl_ok {K : PySem.W.Frag} {p : Str × Nat × D} (h : dflB K p = true) (g : Gh) (H : Hp) : Rp K g H (.ref (He.dflAt (p.1, none) p.2.1 K)) p.2.2 := by
  obtain ⟨v, r, q⟩ := matB_ok h
  cases v with
  | ref a =>
    have e : Value.ref (He.dflAt (p.1, none) p.2.1 K) = Value.ref a := r
    cases e
    exact q g H
  | _ => first | (cases r; done) | (obtain ⟨_, e⟩ := r; cases e)
/-- more that the head looks at -/
def exB (cs : List (Str × D)) (bs : List (Str × String)) (ds : List (Str × Nat × D)) (K : PySem.W.Frag) : Bool := (cs.all fun p => conB K p) && ((bs.all fun p => bfB K p) && ds.all fun p => dflB K p)
theorem con_ok {K : PySem.W.Frag} {h : Heap} {mg : Str → Option Value} (X : K.In h) (G : h.Ns mainGlobals mg) {p : Str × D} (c : conB K p = true) : ∃ v u, mg p.1 = some u ∧ RelV v u ∧ ∀ g H, Rp K g H v p.2 := by
  unfold conB at c
  split at c
  · rename_i u e
    obtain ⟨v, r, q⟩ := matB_ok c
    exact ⟨v, u, PySem.W.mg_of X G e, r, q⟩
  · cases c
theorem bf_ok {K : PySem.W.Frag} {h : Heap} {mg : Str → Option Value} (X : K.In h) (G : h.Ns mainGlobals mg) {p : Str × String} (c : bfB K p = true) : mg p.1 = some (.builtin p.2) := by
  unfold bfB at c
  split at c
  · rename_i i e
    obtain rfl : i = p.2 := of_decide_eq_true c
    exact PySem.W.mg_of X G e
  · cases c

/-! ### the Hook -/
def obsC (fa : List He.Fa) (fn : List He.DefD) (cs : List (Str × D)) (bs : List (Str × String)) (ds : List (Str × Nat × D)) (K : PySem.W.Frag) : He.AlD := ((He.obsD fa fn K).1 && exB cs bs ds K, (He.obsD fa fn K).2)
/-- what the objects at these places name; the globals themselves are left out -/
def outA (g : Addr → Option Obj) (as : List Addr) : List Addr := as.flatMap fun a => match a == mainGlobals || a == builtinsNs with
  | true => []
  | false => match g a with
    | some o => He.refsD o
    | none => []
/-- the globals, the objects of these names, three steps on -/
def asN (g : Addr → Option Obj) (nms : List Str) : List Addr :=
  (fun a1 => (fun a2 => (fun a3 => mainGlobals :: (a1 ++ (a2 ++ (a3 ++ outA g a3)))) (outA g a2)) (outA g a1)) (nms.map (He.ga (He.frG g [mainGlobals])))
def obsCG (n : Nat) (fa : List He.Fa) (fn : List He.DefD) (cs : List (Str × D)) (bs : List (Str × String)) (ds : List (Str × Nat × D)) (g : Addr → Option Obj) : He.AlD := obsC fa fn cs bs ds (He.frG g (asN g (fn.map (fun d => d.at_.1) ++ cs.map (·.1))))
structure SaysC (fa : List He.Fa) (fn : List He.DefD) (cs : List (Str × D)) (bs : List (Str × String)) (ds : List (Str × Nat × D)) (K : PySem.W.Frag) : Prop where
  d : He.SaysD fa fn K
  c : ∀ p ∈ cs, conB K p = true
  b : ∀ p ∈ bs, bfB K p = true
  z : ∀ p ∈ ds, dflB K p = true
theorem saysC_of {fa : List He.Fa} {fn : List He.DefD} {cs : List (Str × D)} {bs : List (Str × String)} {ds : List (Str × Nat × D)} {K : PySem.W.Frag} (e : obsC fa fn cs bs ds K = He.valD fn) : SaysC fa fn cs bs ds K := by
  have e1 : ((He.obsD fa fn K).1 && exB cs bs ds K) = true := congrArg (fun z : He.AlD => z.1) e
  have e2 : (He.obsD fa fn K).2 = (He.valD fn).2 := by
    have z := congrArg (fun z : He.AlD => z.2) (show ((_, _) : He.AlD) = _ from e)
    exact z
  obtain ⟨h1, h2⟩ := Bool.and_eq_true_iff.mp e1
  obtain ⟨h3, h4⟩ := Bool.and_eq_true_iff.mp h2
  obtain ⟨h5, h6⟩ := Bool.and_eq_true_iff.mp h4
  exact ⟨Prod.ext h1 e2, List.all_eq_true.mp h3, List.all_eq_true.mp h5, List.all_eq_true.mp h6⟩
def hookC (n : Nat) (fa : List He.Fa) (fn : List He.DefD) (cs : List (Str × D)) (bs : List (Str × String)) (ds : List (Str × Nat × D)) : PySem.W.Hook where
  α := He.AlD
  obs := fun s => obsCG n fa fn cs bs ds s.heap.get?
  val := fun _ => He.valD fn
  says := fun _ h => ∃ K : PySem.W.Frag, K.In h ∧ SaysC fa fn cs bs ds K
  of := fun _ _ e => ⟨_, He.frG_in, saysC_of e⟩
  keeps := fun _ _ _ ⟨K, hK, c⟩ k => ⟨K, PySem.W.Frag.In.keeps hK k, c⟩
theorem obsCG_eq {n : Nat} {fa : List He.Fa} {fn : List He.DefD} {cs : List (Str × D)} {bs : List (Str × String)} {ds : List (Str × Nat × D)} {g : Addr → Option Obj} {s : Shared} (h : ∀ a, g a = s.heap.get? a) : obsCG n fa fn cs bs ds g = (hookC n fa fn cs bs ds).obs s := by
  have e : g = s.heap.get? := funext h
  rw [e]; rfl
theorem EntOk.mono {P : Program} {w : World} {K : PySem.W.Frag} {mg : Str → Option Value} {base : Heap} {j k : Nat} {e : Ent} (h : EntOk P w K mg base j e) (le : j ≤ k) : EntOk P w K mg base k e := by
  obtain ⟨f, fd, ps, sp, gs, gv, h1, h2, h3, h4, h5⟩ := h
  exact ⟨f, fd, ps, sp, gs, gv, h1, h2, h3.mono le, h4, h5⟩
theorem ents_nil {P : Program} {w : World} {K : PySem.W.Frag} {mg : Str → Option Value} {base : Heap} {k : Nat} : ∀ e ∈ ([] : List Ent), EntOk P w K mg base k e := fun _ h => by cases h
theorem ents_cons {P : Program} {w : World} {K : PySem.W.Frag} {mg : Str → Option Value} {base : Heap} {j k : Nat} {e : Ent} {es : List Ent} (h : EntOk P w K mg base j e) (le : j ≤ k) (t : ∀ e ∈ es, EntOk P w K mg base k e) : ∀ z ∈ e :: es, EntOk P w K mg base k z := fun z hz => by
  rcases List.mem_cons.mp hz with q | hz
  · rw [q]; exact h.mono le
  · exact t z hz
end PD
namespace PD
theorem fa_nil {α : Type} {p : α → Prop} : ∀ z ∈ ([] : List α), p z := fun _ h => by cases h
theorem fa_cons {α : Type} {p : α → Prop} {a : α} {l : List α} (h : p a) (t : ∀ z ∈ l, p z) : ∀ z ∈ a :: l, p z := fun z hz => by
  rcases List.mem_cons.mp hz with q | hz
  · rw [q]; exact h
  · exact t z hz
end PD

set_option Elab.async false
set_option linter.all false
set_option maxRecDepth 100000
set_option maxHeartbeats 8000000
/-! PD, part r: the evaluator's equations. -/
namespace PD
open PySem PySem.Spec PyProof.Rows L2
section
variable {G : Gam} {L : Loc} {S : Store}
@[simp] theorem evX_nm {i : Nat} : evX G (.nm i) L S = match L[i]? with
    | some (.dat d) => some (.d d, S)
    | some (.own xs) => some (.b xs, S)
    | _ => none := rfl
@[simp] theorem evX_lit {d : D} : evX G (.lit d) L S = some (.d d, S) := rfl
@[simp] theorem evX_gc {j : Nat} : evX G (.gc j) L S = match G.cons[j]? with | some p => some (.d p.2, S) | none => none := rfl
@[simp] theorem evX_bin {o : BO} {a b : Xp} : evX G (.bin o a b) L S = bnd (evX G a L S) fun x S1 => bnd (evX G b L S1) fun y S2 => lft ((binV o x y).map .d) S2 := rfl
@[simp] theorem evX_neg {a : Xp} : evX G (.neg a) L S = bnd (evX G a L S) fun x S1 => lft ((negV x).map .d) S1 := rfl
@[simp] theorem evX_cmp {o : CO} {a b : Xp} : evX G (.cmp o a b) L S = bnd (evX G a L S) fun x S1 => bnd (evX G b L S1) fun y S2 => lft ((cmpV o x y).map fun c => .d (.bl c)) S2 := rfl
@[simp] theorem evX_cmp2 {o o' : CO} {a b c : Xp} : evX G (.cmp2 o o' a b c) L S = bnd (evX G a L S) fun x S1 => bnd (evX G b L S1) fun y S2 => bnd (lft (cmpV o x y) S2) fun k S2 =>
      if k = true then bnd (evX G c L S2) fun z S3 => lft ((cmpV o' y z).map fun c => .d (.bl c)) S3 else some (.d (.bl false), S2) := rfl
@[simp] theorem evX_and {a b : Xp} : evX G (.and a b) L S = bnd (evX G a L S) fun x S1 => bnd (lft (asB x) S1) fun c S1 => if c = true then evX G b L S1 else some (.d (.bl false), S1) := rfl
@[simp] theorem evX_or {a b : Xp} : evX G (.or a b) L S = bnd (evX G a L S) fun x S1 => bnd (lft (asB x) S1) fun c S1 => if c = true then some (.d (.bl true), S1) else evX G b L S1 := rfl
@[simp] theorem evX_not {a : Xp} : evX G (.not a) L S = bnd (evX G a L S) fun x S1 => lft ((asB x).map fun c => .d (.bl (!c))) S1 := rfl
@[simp] theorem evX_ife {c a b : Xp} : evX G (.ife c a b) L S = bnd (evX G c L S) fun x S1 => bnd (lft (asB x) S1) fun c S1 => if c = true then evX G a L S1 else evX G b L S1 := rfl
@[simp] theorem evX_tup {es : Xps} : evX G (.tup es) L S = bnd (evXs G es L S) fun xs S1 => lft ((unVs xs).map fun ds => .d (.tup ds)) S1 := rfl
@[simp] theorem evX_ix {a b : Xp} : evX G (.ix a b) L S = bnd (evX G a L S) fun x S1 => bnd (evX G b L S1) fun y S2 => lft ((ixV x y S2).map .d) S2 := rfl
@[simp] theorem evX_slc {a : Xp} {lo hi : Xo} : evX G (.slc a lo hi) L S = bnd (evX G a L S) fun x S1 => bnd (evO G lo L S1) fun l S2 => bnd (evO G hi L S2) fun h S3 => lft ((slcS x l h S3).map .d) S3 := rfl
@[simp] theorem slcS_tup {xs : List D} {l h : Option Int} {S : Store} : slcS (.d (.tup xs)) l h S = slcT (.d (.tup xs)) l h := rfl
@[simp] theorem slcS_lst {xs : List D} {l h : Option Int} {S : Store} : slcS (.d (.lst xs)) l h S = slcT (.d (.lst xs)) l h := rfl
@[simp] theorem slcS_b {xs : List D} {l h : Option Int} {S : Store} : slcS (.b xs) l h S = slcT (.b xs) l h := rfl
@[simp] theorem slcLS_lst {xs : List D} {l h : Option Int} {S : Store} : slcLS (.d (.lst xs)) l h S = slcL (.d (.lst xs)) l h := rfl
@[simp] theorem slcLS_b {xs : List D} {l h : Option Int} {S : Store} : slcLS (.b xs) l h S = slcL (.b xs) l h := rfl
theorem evX_cntI {i : Nat} {b : Xp} : evX G (.cntI i b) L S = match L[i]? with
    | some (.dat (.lst ds)) => bnd (evX G b L S) fun y S1 => lft (match y with | .d (.int k) => (intsOf ds).map fun l => .d (.int (l.count k : Nat)) | _ => none) S1
    | _ => none := rfl
@[simp] theorem evX_call {j : Nat} {es ks : Xps} : evX G (.call j es ks) L S = match G.ents[j]? with
    | some e => bnd (evXs G es L S) fun xs S1 => bnd (evXs G ks L S1) fun zs S2 => bnd (lft (unVs (xs ++ zs)) S2) fun ds S2 =>
        if xs.length = e.n ∧ zs.length = e.ks.length then bnd (e.sem ds S2) fun d S3 => some (.d d, S3) else none
    | none => none := rfl
@[simp] theorem evX_bi {b : Bi} {es : Xps} : evX G (.bi b es) L S = bnd (evXs G es L S) fun xs S1 => lft ((biV b xs).map .d) S1 := rfl
@[simp] theorem evX_isi {a : Xp} {t : String} : evX G (.isi a t) L S = bnd (evX G a L S) fun x S1 => lft ((isiV x t).map fun c => .d (.bl c)) S1 := rfl
@[simp] theorem evX_fr {f : Fx} : evX G (.fr f) L S = bnd (evF G f L S) fun xs S1 => some (.d (.lst xs), S1) := rfl
@[simp] theorem evX_bic {b : Bi} {es : Xps} : evX G (.bic b es) L S = bnd (evXs G es L S) fun xs S1 => lft ((bicV b xs S1).map .d) S1 := rfl
@[simp] theorem evX_nwc {f : Fx} : evX G (.nwc f) L S = bnd (evF G f L S) fun xs S1 => some (.d (.cell S1.length), S1 ++ [xs]) := rfl
@[simp] theorem evX_rev {a : Xp} : evX G (.rev a) L S = bnd (evX G a L S) fun x S1 => lft ((revV x).map .d) S1 := rfl
@[simp] theorem revV_tup {xs : List D} : revV (.d (.tup xs)) = some (.tup xs.reverse) := rfl
@[simp] theorem revV_lst {xs : List D} : revV (.d (.lst xs)) = some (.lst xs.reverse) := rfl
@[simp] theorem evW_range3 {a b c : Xp} : evW G (.range3 a b c) L S = bnd (evX G a L S) fun x S1 => bnd (evX G b L S1) fun y S2 => bnd (evX G c L S2) fun z S3 => lft (match x, y, z with
      | .d (.int m), .d (.int n), .d (.int k) => if k = -1 ∧ n < 2 ^ 62 ∧ -(2 ^ 62) ≤ n ∧ m < 2 ^ 62 ∧ -(2 ^ 62) ≤ m then some ((List.range (m - n).toNat).map fun i => .int (m + (i : Nat) * (-1))) else none
      | _, _, _ => none) S3 := rfl
@[simp] theorem evXs_nil : evXs G .nil L S = some ([], S) := rfl
@[simp] theorem evXs_cons {e : Xp} {es : Xps} : evXs G (.cons e es) L S = bnd (evX G e L S) fun x S1 => bnd (evXs G es L S1) fun xs S2 => some (x :: xs, S2) := rfl
@[simp] theorem evXs_star {e : Xp} {es : Xps} : evXs G (.star e es) L S = bnd (evX G e L S) fun x S1 => bnd (lft (seqV x) S1) fun l S1 => bnd (evXs G es L S1) fun xs S2 => if l.length ≤ 100000 then some (l.map .d ++ xs, S2) else none := rfl
@[simp] theorem seqV_lst {xs : List D} : seqV (.d (.lst xs)) = some xs := rfl
@[simp] theorem seqV_tup {xs : List D} : seqV (.d (.tup xs)) = some xs := rfl
@[simp] theorem seqV_b {xs : List D} : seqV (.b xs) = some xs := rfl
@[simp] theorem evW_enum {e : Xp} : evW G (.enum e) L S = bnd (evX G e L S) fun x S1 => lft ((match x with | .d (.lst l) => some l | .d (.tup l) => some l | _ => none).map enumD) S1 := rfl
@[simp] theorem evW_enumB {i : Nat} : evW G (.enumB i) L S = match L[i]? with
    | some (.own xs) => some (enumD xs, S)
    | _ => none := rfl
@[simp] theorem evW_zip {a b : Xp} : evW G (.zip a b) L S = bnd (evX G a L S) fun x S1 => bnd (evX G b L S1) fun y S2 => lft (match x, y with
      | .d (.lst l), .d (.lst m) => some (zipD l m)
      | .d (.tup l), .d (.tup m) => some (zipD l m)
      | .d (.tup l), .d (.lst m) => some (zipD l m)
      | _, _ => none) S2 := rfl
@[simp] theorem evW_rvd {e : Xp} : evW G (.rvd e) L S = bnd (evX G e L S) fun x S1 => lft (match x with | .d (.lst l) => some l.reverse | .d (.tup l) => some l.reverse | _ => none) S1 := rfl
@[simp] theorem evF_comp2 {elt : Xp} {t t1 : Tg} {w w1 : Wk} {c c1 : Xo} {own own1 : List Nat} : evF G (.comp2 elt t w c t1 w1 c1 own own1) L S = bnd (evW G w L S) fun ds S1 => bnd (compN (fun d S => bnd (evG G t d (wipeL L own) S) fun L2 S => bnd (evC G c L2 S) fun k S => if k = true then
        bnd (evW G w1 L2 S) fun es S => compL (fun d S => bnd (evG G t1 d (wipeL L2 own1) S) fun L3 S => bnd (evC G c1 L3 S) fun k S => if k = true then bnd (evX G elt L3 S) fun x S => bnd (lft (unV x) S) fun y S => some (some y, S) else some (none, S)) es S
      else some ([], S)) ds S1) fun xs S2 => if xs.length ≤ line then some (xs, S2) else none := rfl
@[simp] theorem biV_reprb {b : Bool} : biV .repr [.d (.bl b)] = some (.str (if b then "True" else "False")) := rfl
@[simp] theorem cmpV_isB {a b : Bool} : cmpV .isN (.d (.bl a)) (.d (.bl b)) = some (decide (a = b)) := rfl
@[simp] theorem cmpV_notB {a b : Bool} : cmpV .notN (.d (.bl a)) (.d (.bl b)) = some (!decide (a = b)) := rfl
@[simp] theorem biV_reprn : biV .repr [.d .non] = some (.str "None") := rfl
@[simp] theorem biV_intb {i : Bool} : biV .int1 [.d (.bl i)] = some (.int (if i then 1 else 0)) := rfl
@[simp] theorem biV_fact {i : Int} : biV .fact [.d (.int i)] = if 0 ≤ i ∧ i ≤ 100 then some (.int ((Builtin.Math.factorialNat i.toNat : Nat) : Int)) else none := rfl
@[simp] theorem evO_none : evO G .none L S = some (none, S) := rfl
@[simp] theorem evO_some {e : Xp} : evO G (.some e) L S = bnd (evX G e L S) fun x S1 => lft (optI (some x)) S1 := rfl
@[simp] theorem evF_disp {es : Xps} : evF G (.disp es) L S = bnd (evXs G es L S) fun xs S1 => lft (unVs xs) S1 := rfl
@[simp] theorem evF_comp {elt : Xp} {t : Tg} {w : Wk} {c : Xo} {own : List Nat} : evF G (.comp elt t w c own) L S = bnd (evW G w L S) fun ds S1 => if ds.length < line then
      compL (fun d S => bnd (evG G t d (wipeL L own) S) fun L2 S => bnd (evC G c L2 S) fun k S => if k = true then bnd (evX G elt L2 S) fun x S => bnd (lft (unV x) S) fun y S => some (some y, S) else some (none, S)) ds S1
      else none := rfl
theorem evF_compc {elt : Xp} {t : Tg} {e : Xp} {c : Xo} {own : List Nat} : evF G (.compc elt t e c own) L S = bnd (evX G e L S) fun x S1 => bnd (lft (cellOf x S1) S1) fun p S1 => if p.2.length < line then
      bnd (compL (fun d S => if sameC S p.1 p.2 = true then bnd (evG G t d (wipeL L own) S) fun L2 S => bnd (evC G c L2 S) fun k S => if k = true then bnd (evX G elt L2 S) fun x S => bnd (lft (unV x) S) fun y S => some (some y, S) else some (none, S) else none) p.2 S1) fun xs S2 =>
        if sameC S2 p.1 p.2 = true then some (xs, S2) else none
      else none := rfl
@[simp] theorem evF_list {e : Xp} : evF G (.list e) L S = bnd (evX G e L S) fun x S1 => lft (match asL x with | some l => some l | none => asT x) S1 := rfl
@[simp] theorem evF_cat {a b : Xp} : evF G (.cat a b) L S = bnd (evX G a L S) fun x S1 => bnd (evX G b L S1) fun y S2 => lft (match asL x, asL y with
      | some l, some m => if l.length + m.length ≤ line then some (l ++ m) else none
      | _, _ => none) S2 := rfl
@[simp] theorem evF_slc {a : Xp} {lo hi : Xo} : evF G (.slc a lo hi) L S = bnd (evX G a L S) fun x S1 => bnd (evO G lo L S1) fun l S2 => bnd (evO G hi L S2) fun h S3 => lft (slcLS x l h S3) S3 := rfl
@[simp] theorem evC_none : evC G .none L S = some (true, S) := rfl
@[simp] theorem evC_some {e : Xp} : evC G (.some e) L S = bnd (evX G e L S) fun x S1 => lft (asB x) S1 := rfl
@[simp] theorem evW_seq {e : Xp} : evW G (.seq e) L S = bnd (evX G e L S) fun x S1 => lft (match x with | .d (.lst l) => some l | .d (.tup l) => some l | _ => none) S1 := rfl
@[simp] theorem evW_bor {i : Nat} : evW G (.bor i) L S = match L[i]? with
    | some (.own xs) => some (xs, S)
    | _ => none := rfl
@[simp] theorem evW_range1 {a : Xp} : evW G (.range1 a) L S = bnd (evX G a L S) fun x S1 => lft (match x with
      | .d (.int n) => if n < 2 ^ 62 ∧ -(2 ^ 62) ≤ n then some ((List.range n.toNat).map fun i => .int (i : Nat)) else none
      | _ => none) S1 := rfl
@[simp] theorem evG_nm {i : Nat} {d : D} : evG G (.nm i) d L S = some (L.set i (.dat d), S) := rfl
@[simp] theorem evG_tup {ts : Tgs} {ds : List D} : evG G (.tup ts) (.tup ds) L S = evGs G ts ds L S := rfl
@[simp] theorem evG_sub {i : Nat} {b : Xp} {d : D} : evG G (.sub i b) d L S = bnd (evX G b L S) fun y S1 => match y with
    | .d (.int k) => match L[i]? with
      | some (.own xs) => match ixN xs.length k with | some j => some (L.set i (.own (xs.set j d)), S1) | none => none
      | some (.dat (.cell n)) => match S1[n]? with
        | some xs => match ixN xs.length k with | some j => some (L, S1.set n (xs.set j d)) | none => none
        | none => none
      | _ => none
    | _ => none := rfl
@[simp] theorem evG_sbx {a b : Xp} {d : D} : evG G (.sbx a b) d L S = bnd (evX G a L S) fun x S1 => bnd (evX G b L S1) fun y S2 => match x, y with
    | .d (.cell n), .d (.int k) => match S2[n]? with
      | some xs => match ixN xs.length k with | some j => some (L, S2.set n (xs.set j d)) | none => none
      | none => none
    | _, _ => none := rfl
@[simp] theorem evGs_nil : evGs G .nil [] L S = some (L, S) := rfl
@[simp] theorem evGs_cons {t : Tg} {ts : Tgs} {d : D} {ds : List D} : evGs G (.cons t ts) (d :: ds) L S = bnd (evG G t d L S) fun L1 S1 => evGs G ts ds L1 S1 := rfl
@[simp] theorem evSs_nil : evSs G .nil L S = some ((.nx, L), S) := rfl
@[simp] theorem evSs_cons {s : Sm} {ss : Sms} : evSs G (.cons s ss) L S = bnd (evS G s L S) fun r S1 => match r.1 with
    | .nx => evSs G ss r.2 S1
    | f => some ((f, r.2), S1) := rfl
@[simp] theorem evS_asg {t : Tg} {e : Xp} : evS G (.asg t e) L S = bnd (evX G e L S) fun x S1 => bnd (lft (unV x) S1) fun d S1 => bnd (evG G t d L S1) fun L2 S2 => some ((.nx, L2), S2) := rfl
@[simp] theorem evS_own {i : Nat} {f : Fx} : evS G (.own i f) L S = bnd (evF G f L S) fun xs S1 => some ((.nx, L.set i (.own xs)), S1) := rfl
@[simp] theorem evS_par {is : List Nat} {es : Xps} : evS G (.par is es) L S = bnd (evXs G es L S) fun xs S1 => bnd (lft (unVs xs) S1) fun ds S1 => if ds.length = is.length then some ((.nx, setAll is.reverse ds.reverse L), S1) else none := rfl
@[simp] theorem evS_aug {i : Nat} {o : BO} {e : Xp} : evS G (.aug i o e) L S = match L[i]? with
    | some (.dat d) => bnd (evX G e L S) fun y S1 => bnd (lft (augV o d y) S1) fun z S1 => some ((.nx, L.set i (.dat z)), S1)
    | _ => none := rfl
@[simp] theorem evS_app {i : Nat} {e : Xp} : evS G (.app i e) L S = bnd (evX G e L S) fun x S1 => bnd (lft (unV x) S1) fun d S1 => match L[i]? with
    | some (.own xs) => if xs.length < line then some ((.nx, L.set i (.own (xs ++ [d]))), S1) else none
    | some (.dat (.cell n)) => match S1[n]? with
      | some xs => if xs.length < line then some ((.nx, L), S1.set n (xs ++ [d])) else none
      | none => none
    | _ => none := rfl
@[simp] theorem evS_fz {i : Nat} : evS G (.fz i) L S = match L[i]? with
    | some (.own xs) => some ((.nx, L.set i (.dat (.lst xs))), S)
    | _ => some ((.nx, L), S) := rfl
@[simp] theorem evS_retc {es : Xps} : evS G (.retc es) L S = bnd (evXs G es L S) fun xs S1 => bnd (lft (unVs xs) S1) fun ds S1 => some ((.ret (.cell S1.length), L), S1 ++ [ds]) := rfl
@[simp] theorem evS_ex {e : Xp} : evS G (.ex e) L S = bnd (evX G e L S) fun _ S1 => some ((.nx, L), S1) := rfl
@[simp] theorem evS_ret {e : Xp} : evS G (.ret e) L S = bnd (evX G e L S) fun x S1 => bnd (lft (unV x) S1) fun d S1 => some ((.ret d, L), S1) := rfl
@[simp] theorem evS_ret0 : evS G .ret0 L S = some ((.ret .non, L), S) := rfl
@[simp] theorem evS_ife {c : Xp} {a b : Sms} : evS G (.ife c a b) L S = bnd (evX G c L S) fun x S1 => bnd (lft (asB x) S1) fun k S1 => if k = true then evSs G a L S1 else evSs G b L S1 := rfl
theorem ev_for {t : Tg} {w : Wk} {b : Sms} {ds : List D} {S1 : Store} {r : (Fl × Loc) × Store} (h : w.isB = false) (hw : evW G w L S = some (ds, S1)) (hl : forL (fun d L S => bnd (evG G t d L S) fun L2 S2 => evSs G b L2 S2) ds L S1 = some r) : evS G (.for_ t w b) L S = some r := by
  show (if w.isB = true then none else bnd (evW G w L S) fun ds S1 => forL (fun d L S => bnd (evG G t d L S) fun L2 S2 => evSs G b L2 S2) ds L S1) = _
  rw [h, hw, ← hl]
  rfl
theorem evS_for {t : Tg} {w : Wk} {b : Sms} : evS G (.for_ t w b) L S = if w.isB then none else bnd (evW G w L S) fun ds S1 => forL (fun d L S => bnd (evG G t d L S) fun L2 S2 => evSs G b L2 S2) ds L S1 := rfl
theorem ev_forc {t : Tg} {e : Xp} {b : Sms} {n : Nat} {ds : List D} {S1 S2 : Store} {r : Fl × Loc} (he : evX G e L S = some (.d (.cell n), S1)) (hn : S1[n]? = some ds)
    (hl : forL (fun d L S => if sameC S n ds = true then bnd (evG G t d L S) fun L2 S2 => evSs G b L2 S2 else none) ds L S1 = some (r, S2)) (h2 : S2[n]? = some ds) : evS G (.forc t e b) L S = some (r, S2) := by
  show (bnd (evX G e L S) fun x S1 => bnd (lft (cellOf x S1) S1) fun p S1 => bnd (forL (fun d L S => if sameC S p.1 p.2 = true then bnd (evG G t d L S) fun L2 S2 => evSs G b L2 S2 else none) p.2 L S1) fun r S2 => if sameC S2 p.1 p.2 = true then some (r, S2) else none) = _
  have hc : cellOf (.d (.cell n)) S1 = some (n, ds) := by show (S1[n]?).map _ = _; rw [hn]; rfl
  rw [he, bnd_some, hc]
  show (bnd (forL _ ds L S1) _) = _
  rw [hl, bnd_some, if_pos (sameC_of h2)]
theorem evS_wh {c : Xp} {b : Sms} : evS G (.wh c b) L S = whL (fun L S => bnd (evX G c L S) fun x S1 => lft (asB x) S1) (fun L S => evSs G b L S) L S := rfl
theorem wh_go {c : Xp} {b : Sms} {L2 : Loc} {S1 S2 : Store} (hc : evX G c L S = some (.d (.bl true), S1)) (hb : evSs G b L S1 = some ((.nx, L2), S2)) : evS G (.wh c b) L S = evS G (.wh c b) L2 S2 := by
  rw [evS_wh, whL_eq, hc, bnd_some]
  show bnd (some (true, S1)) _ = _
  rw [bnd_some, if_pos rfl, hb]
  rfl
theorem wh_stop {c : Xp} {b : Sms} {S1 : Store} (hc : evX G c L S = some (.d (.bl false), S1)) : evS G (.wh c b) L S = some ((.nx, L), S1) := by
  rw [evS_wh, whL_eq, hc]
  rfl
@[simp] theorem evS_never : evS G .never L S = none := rfl
@[simp] theorem compL_nil {turn : D → Store → Option (Option D × Store)} : compL turn [] S = some ([], S) := rfl
@[simp] theorem compL_cons {turn : D → Store → Option (Option D × Store)} {d : D} {ds : List D} : compL turn (d :: ds) S = bnd (turn d S) fun r S1 => bnd (compL turn ds S1) fun rs S2 => some ((match r with | some x => x :: rs | none => rs), S2) := rfl
@[simp] theorem wipeL_nil : wipeL L [] = L := rfl
@[simp] theorem wipeL_cons {v : Nat} {vs : List Nat} : wipeL L (v :: vs) = (wipeL L vs).set v .un := rfl
theorem runF_eq {n : Nat} {b : Sms} {ds : List D} : runF G n b ds S = bnd (evSs G b (ds.map .dat ++ List.replicate (n - ds.length) .un) S) fun r S1 => match r.1 with
    | .ret d => some (d, S1)
    | .nx => some (.non, S1)
    | _ => none := rfl
@[simp] theorem binV_add {i j : Int} : binV .add (.d (.int i)) (.d (.int j)) = some (.int (i + j)) := rfl
@[simp] theorem binV_sub {i j : Int} : binV .sub (.d (.int i)) (.d (.int j)) = some (.int (i - j)) := rfl
@[simp] theorem binV_mul {i j : Int} : binV .mul (.d (.int i)) (.d (.int j)) = if okMul i j then some (.int (i * j)) else none := rfl
@[simp] theorem binV_fdiv {i j : Int} : binV .fdiv (.d (.int i)) (.d (.int j)) = if okDiv j then some (.int (i.fdiv j)) else none := rfl
@[simp] theorem binV_mod {i j : Int} : binV .mod (.d (.int i)) (.d (.int j)) = if j ≠ 0 then some (.int (i.fmod j)) else none := rfl
@[simp] theorem binV_pow {i j : Int} : binV .pow (.d (.int i)) (.d (.int j)) = if okPow i j then some (.int (i ^ j.toNat)) else none := rfl
@[simp] theorem binV_subB {i j : Bool} : binV .sub (.d (.bl i)) (.d (.bl j)) = some (.int ((if i then 1 else 0) - (if j then 1 else 0))) := rfl
@[simp] theorem negV_int {i : Int} : negV (.d (.int i)) = some (.int (-i)) := rfl
@[simp] theorem cmpV_lt {i j : Int} : cmpV .lt (.d (.int i)) (.d (.int j)) = some (decide (i < j)) := rfl
@[simp] theorem cmpV_le {i j : Int} : cmpV .le (.d (.int i)) (.d (.int j)) = some (decide (i ≤ j)) := rfl
@[simp] theorem cmpV_gt {i j : Int} : cmpV .gt (.d (.int i)) (.d (.int j)) = some (decide (j < i)) := rfl
@[simp] theorem cmpV_ge {i j : Int} : cmpV .ge (.d (.int i)) (.d (.int j)) = some (decide (j ≤ i)) := rfl
@[simp] theorem eqOk_int {i : Int} : eqOk (.int i) = true := rfl

@[simp] theorem cmpV_eqI {i j : Int} : cmpV .eq (.d (.int i)) (.d (.int j)) = some (decide (i = j)) := by
  show (if (eqOk (.int i) && eqOk (.int j)) then some (eqD (.int i) (.int j)) else none) = _
  rw [eqOk_int, eqOk_int]; rfl
@[simp] theorem cmpV_neI {i j : Int} : cmpV .ne (.d (.int i)) (.d (.int j)) = some (!decide (i = j)) := by
  show (if (eqOk (.int i) && eqOk (.int j)) then some (!eqD (.int i) (.int j)) else none) = _
  rw [eqOk_int, eqOk_int]; rfl
@[simp] theorem cmpV_eqS {i j : Str} : cmpV .eq (.d (.str i)) (.d (.str j)) = some (decide (i = j)) := rfl
@[simp] theorem cmpV_neS {i j : Str} : cmpV .ne (.d (.str i)) (.d (.str j)) = some (!decide (i = j)) := rfl
@[simp] theorem unV_d {d : D} : unV (.d d) = some d := rfl
@[simp] theorem unVs_nil : unVs [] = some [] := rfl
@[simp] theorem unVs_cons {d : D} {r : List Va} : unVs (.d d :: r) = match unVs r with | some l => some (d :: l) | none => none := rfl
@[simp] theorem asB_bl {b : Bool} : asB (.d (.bl b)) = some b := rfl
@[simp] theorem ixV_tup {xs : List D} {i : Int} {S : Store} : ixV (.d (.tup xs)) (.d (.int i)) S = atI xs i := rfl
@[simp] theorem ixV_lst {xs : List D} {i : Int} {S : Store} : ixV (.d (.lst xs)) (.d (.int i)) S = atI xs i := rfl
@[simp] theorem ixV_cell {n : Nat} {i : Int} {S : Store} : ixV (.d (.cell n)) (.d (.int i)) S = match S[n]? with | some xs => atI xs i | none => none := rfl
@[simp] theorem biV_abs {i : Int} : biV .abs [.d (.int i)] = some (.int (if i < 0 then -i else i)) := rfl
@[simp] theorem biV_gcd {i j : Int} : biV .gcd [.d (.int i), .d (.int j)] = some (.int ((Nat.gcd i.natAbs j.natAbs : Nat) : Int)) := rfl
@[simp] theorem biV_min {i j : Int} : biV .min2 [.d (.int i), .d (.int j)] = some (.int (if j < i then j else i)) := rfl
@[simp] theorem biV_max {i j : Int} : biV .max2 [.d (.int i), .d (.int j)] = some (.int (if j > i then j else i)) := rfl
@[simp] theorem biV_int {i : Int} : biV .int1 [.d (.int i)] = some (.int i) := rfl
@[simp] theorem biV_lenT {xs : List D} : biV .len [.d (.tup xs)] = some (.int xs.length) := rfl
@[simp] theorem biV_lenL {xs : List D} : biV .len [.d (.lst xs)] = some (.int xs.length) := rfl
@[simp] theorem biV_divmod {i j : Int} : biV .divmod [.d (.int i), .d (.int j)] = if 0 < j ∧ j < 1073741824 then some (.tup [.int (i / j), .int (i % j)]) else none := rfl
@[simp] theorem setAll_nil {ds : List D} : setAll [] ds L = L := by cases ds <;> rfl
@[simp] theorem setAll_cons {i : Nat} {is : List Nat} {d : D} {ds : List D} : setAll (i :: is) (d :: ds) L = setAll is ds (L.set i (.dat d)) := rfl
@[simp] theorem atI_2_0 {α : Type} {a b : α} : atI [a, b] 0 = some a := rfl
@[simp] theorem atI_2_1 {α : Type} {a b : α} : atI [a, b] 1 = some b := rfl
@[simp] theorem atI_3_0 {α : Type} {a b c : α} : atI [a, b, c] 0 = some a := rfl
@[simp] theorem atI_3_1 {α : Type} {a b c : α} : atI [a, b, c] 1 = some b := rfl
@[simp] theorem atI_3_2 {α : Type} {a b c : α} : atI [a, b, c] 2 = some c := rfl
@[simp] theorem mk_n {name : Str} {n m : Nat} {ks : List Str} {dd : List D} {ix : List Nat} {b : Sms} : (mkEnt name n ks dd ix G m b).n = n := rfl
@[simp] theorem mk_ks {name : Str} {n m : Nat} {ks : List Str} {dd : List D} {ix : List Nat} {b : Sms} : (mkEnt name n ks dd ix G m b).ks = ks := rfl
@[simp] theorem mk_sem {name : Str} {n m : Nat} {ks : List Str} {dd : List D} {ix : List Nat} {b : Sms} {ds : List D} : (mkEnt name n ks dd ix G m b).sem ds S = runF G m b (pick ix (ds.take n ++ dd ++ ds.drop n)) S := rfl
end
end PD

set_option Elab.async false
set_option linter.all false
set_option maxRecDepth 100000
set_option maxHeartbeats 1000000
/-! PD, part s: sizes, fractions. -/
namespace PD
open PySem PySem.Spec PyProof.Rows L2

/-- of at most k bits -/
def sz (k : Nat) (i : Int) : Prop := i.natAbs < 2 ^ k
theorem sz.log {k : Nat} {i : Int} (h : sz k i) : i.natAbs.log2 ≤ k := by
  by_cases z : i.natAbs = 0
  · rw [z, show Nat.log2 0 = 0 by decide]; exact Nat.zero_le _
  · exact Nat.le_of_lt ((Nat.log2_lt z).mpr h)
theorem sz.mono {k l : Nat} {i : Int} (h : sz k i) (le : k ≤ l) : sz l i := Nat.lt_of_lt_of_le h (Nat.pow_le_pow_right (by decide) le)
theorem sz.mul {k l : Nat} {i j : Int} (h : sz k i) (h' : sz l j) : sz (k + l) (i * j) := by
  unfold sz at *
  rw [Int.natAbs_mul, Nat.pow_add]
  exact Nat.mul_lt_mul'' h h'
theorem sz.add {k : Nat} {i j : Int} (h : sz k i) (h' : sz k j) : sz (k + 1) (i + j) := by
  unfold sz at *
  rw [Nat.pow_succ]
  omega
theorem sz.sub {k : Nat} {i j : Int} (h : sz k i) (h' : sz k j) : sz (k + 1) (i - j) := by
  unfold sz at *
  rw [Nat.pow_succ]
  omega
theorem sz.neg {k : Nat} {i : Int} (h : sz k i) : sz k (-i) := by
  unfold sz at *
  omega
theorem sz.le {k : Nat} {i j : Int} (h : sz k i) (le : j.natAbs ≤ i.natAbs) : sz k j := Nat.lt_of_le_of_lt le h
theorem okMul_sz {k l : Nat} {i j : Int} (h : sz k i) (h' : sz l j) (le : k + l < 4000000) : okMul i j = true := by
  unfold okMul
  have := h.log
  have := h'.log
  exact decide_eq_true (by omega)
theorem okDiv_sz {k : Nat} {j : Int} (h : sz k j) (hj : j ≠ 0) (le : k < 9000) : okDiv j = true := by
  unfold okDiv
  have := h.log
  rw [Bool.and_eq_true]
  exact ⟨decide_eq_true hj, decide_eq_true (by omega)⟩

/-! ### fractions -/
def F (r : Rat) : D := .tup [.int r.num, .int r.den]
def Nm (p : Rat × Rat) : D := .tup [F p.1, F p.2]
/-- numerator and denominator of at most k bits -/
structure Sz (k : Nat) (r : Rat) : Prop where
  n : sz k r.num
  d : sz k (r.den : Int)
theorem Sz.mono {k l : Nat} {r : Rat} (h : Sz k r) (le : k ≤ l) : Sz l r := ⟨h.n.mono le, h.d.mono le⟩
theorem den_pos (r : Rat) : (0 : Int) < r.den := by have := r.den_pos; omega
theorem den_ne (r : Rat) : (r.den : Int) ≠ 0 := by have := r.den_pos; omega
/-- reduced -/
theorem Sz.div {k : Nat} {n m : Int} (hn : sz k n) (hm : sz k m) (h : m ≠ 0) : Sz k (Rat.divInt n m) := by
  refine ⟨?_, ?_⟩
  · rw [Rat.num_divInt]
    refine hn.le ?_
    have e : (m.sign * n / (m.gcd n : Int)).natAbs ≤ (m.sign * n).natAbs := by
      rw [Int.natAbs_ediv_of_dvd]
      · exact Nat.div_le_self _ _
      · exact Int.dvd_mul_of_dvd_right (Int.gcd_dvd_right ..)
    refine Nat.le_trans e ?_
    rw [Int.natAbs_mul, Int.natAbs_sign_of_ne_zero h, Nat.one_mul]
    exact Nat.le_refl _
  · rw [Rat.den_divInt, if_neg h]
    refine hm.le ?_
    rw [Int.natAbs_natCast]
    exact Nat.div_le_self _ _
theorem red_num {n m : Int} (h : m ≠ 0) : (n.fdiv (if 0 < m then ((Nat.gcd n.natAbs m.natAbs : Nat) : Int) else -((Nat.gcd n.natAbs m.natAbs : Nat) : Int))) = (Rat.divInt n m).num := by
  rw [Rat.num_divInt]
  have eg : (m.gcd n) = Nat.gcd n.natAbs m.natAbs := by show Nat.gcd m.natAbs n.natAbs = _; exact Nat.gcd_comm _ _
  rw [eg]
  split
  · rename_i hp
    rw [Int.sign_eq_one_of_pos hp, Int.one_mul, Int.fdiv_eq_ediv_of_nonneg _ (by omega)]
  · have hn : m < 0 := by omega
    rw [Int.sign_eq_neg_one_of_neg hn, Int.neg_one_mul, ← Int.neg_neg n, Int.neg_fdiv_neg, Int.fdiv_eq_ediv_of_nonneg _ (by omega), Int.neg_neg]
theorem red_den {n m : Int} (h : m ≠ 0) : (m.fdiv (if 0 < m then ((Nat.gcd n.natAbs m.natAbs : Nat) : Int) else -((Nat.gcd n.natAbs m.natAbs : Nat) : Int))) = ((Rat.divInt n m).den : Int) := by
  rw [Rat.den_divInt, if_neg h]
  have eg : (m.gcd n) = Nat.gcd n.natAbs m.natAbs := by show Nat.gcd m.natAbs n.natAbs = _; exact Nat.gcd_comm _ _
  rw [eg, Int.natCast_ediv]
  split
  · rename_i hp
    rw [Int.fdiv_eq_ediv_of_nonneg _ (by omega), Int.natAbs_of_nonneg (by omega)]
  · have hn : m < 0 := by omega
    have e : (m.natAbs : Int) = -m := by omega
    rw [e, ← Int.neg_neg m, Int.neg_fdiv_neg, Int.fdiv_eq_ediv_of_nonneg _ (by omega), Int.natAbs_neg, Int.neg_neg]
theorem red_F {n m : Int} (h : m ≠ 0) : D.tup [.int (n.fdiv (if 0 < m then ((Nat.gcd n.natAbs m.natAbs : Nat) : Int) else -((Nat.gcd n.natAbs m.natAbs : Nat) : Int))), .int (m.fdiv (if 0 < m then ((Nat.gcd n.natAbs m.natAbs : Nat) : Int) else -((Nat.gcd n.natAbs m.natAbs : Nat) : Int)))] = F (Rat.divInt n m) := by
  rw [red_num h, red_den h]; rfl
theorem gcd_sz {n m : Int} (h : m ≠ 0) : (Nat.gcd n.natAbs m.natAbs) ≤ m.natAbs ∧ 0 < Nat.gcd n.natAbs m.natAbs :=
  ⟨Nat.le_of_dvd (by omega) (Nat.gcd_dvd_right _ _), Nat.gcd_pos_of_pos_right _ (by omega)⟩
end PD

set_option Elab.async false
set_option linter.all false
set_option maxRecDepth 100000
set_option maxHeartbeats 1000000
/-! PD, part t: what may be shown. -/
namespace PD
open PySem PySem.Spec PyProof.Rows L2
mutual
def D.okSh : D → Prop
  | .non => True | .bl _ => True | .int i => i.natAbs.log2 < 1920 | .str x => x.cps.size ≤ 100 ∧ (PyData.str x).showable = true ∧ (x.cps.toList.all fun c => decide (c < 16 ^ 8)) = true
  | .ty _ => False | .cell _ => False
  | .tup xs => D.okShs xs | .lst xs => D.okShs xs
def D.okShs : List D → Prop
  | [] => True | x :: xs => x.okSh ∧ D.okShs xs
end
mutual
def D.cnt : D → Nat
  | .tup xs => D.cnts xs + 1 | .lst xs => D.cnts xs + 1 | _ => 1
def D.cnts : List D → Nat
  | [] => 0 | x :: xs => x.cnt + D.cnts xs
end
mutual
theorem okSh_pure : ∀ {d : D}, d.okSh → d.pure = true
  | .non, _ => rfl
  | .bl _, _ => rfl
  | .int _, _ => rfl
  | .str _, _ => rfl
  | .ty _, h => h.elim
  | .cell _, h => h.elim
  | .tup xs, h => okShs_pure (xs := xs) h
  | .lst xs, h => okShs_pure (xs := xs) h
theorem okShs_pure : ∀ {xs : List D}, D.okShs xs → D.pures xs = true
  | [], _ => rfl
  | x :: xs, h => by
    show (x.pure && D.pures xs) = true
    rw [okSh_pure h.1, okShs_pure h.2]; rfl
end
mutual
theorem okSh_showable : ∀ {d : D}, d.okSh → d.py.showable = true
  | .non, _ => by simp only [D.py, PyData.showable]
  | .bl _, _ => by simp only [D.py, PyData.showable]
  | .int i, h => by
    have h : i.natAbs.log2 < 1920 := h
    simp only [D.py, PyData.showable, decide_eq_true h]
  | .str _, h => h.2.1
  | .ty _, h => h.elim
  | .cell _, h => h.elim
  | .tup xs, h => by
    simp only [D.py, PyData.showable]
    exact okShs_showable (xs := xs) h
  | .lst xs, h => by
    simp only [D.py, PyData.showable]
    exact okShs_showable (xs := xs) h
theorem okShs_showable : ∀ {xs : List D}, D.okShs xs → PyData.showableAll (D.pys xs) = true
  | [], _ => by simp only [D.pys, PyData.showableAll]
  | x :: xs, h => by
    simp only [D.pys, PyData.showableAll]
    rw [okSh_showable h.1, okShs_showable h.2]; rfl
end
mutual
theorem okSh_len : ∀ {d : D}, d.okSh → d.py.shown.length + 2 ≤ 1995 * d.cnt
  | .non, _ => by decide +kernel
  | .bl true, _ => by decide +kernel
  | .bl false, _ => by decide +kernel
  | .int i, h => by
    have h : i.natAbs.log2 < 1920 := h
    have := int_text_len_1921 h
    simp only [D.py, PyData.shown, D.cnt]
    omega
  | .str x, h => by
    have a := PyData.shown_le 8 (by decide) (.str x) (by simp only [PyData.leavesShort]; exact h.2.2)
    have b := h.1
    simp only [PyData.weight] at a
    simp only [D.py, D.cnt]
    omega
  | .ty _, h => h.elim
  | .cell _, h => h.elim
  | .tup xs, h => by
    have h1 := okShs_len (xs := xs) h
    have h2 := tupleText_len_le (PyData.shownAll (D.pys xs))
    simp only [D.py, PyData.shown, D.cnt]
    omega
  | .lst xs, h => by
    have h1 := okShs_len (xs := xs) h
    have h2 := listText_len_le (PyData.shownAll (D.pys xs))
    simp only [D.py, PyData.shown, D.cnt]
    omega
theorem okShs_len : ∀ {xs : List D}, D.okShs xs → ((PyData.shownAll (D.pys xs)).map (·.length)).sum + 2 * (PyData.shownAll (D.pys xs)).length ≤ 1995 * D.cnts xs
  | [], _ => by simp only [D.pys, PyData.shownAll, D.cnts]; decide
  | x :: xs, h => by
    have h1 := okSh_len h.1
    have h2 := okShs_len h.2
    have h3 : 1 ≤ x.cnt := by cases x <;> simp [D.cnt]
    simp only [D.pys, PyData.shownAll, D.cnts, List.map_cons, List.sum_cons, List.length_cons]
    omega
end
/-- may be shown -/
theorem shOk_sz {d : D} (h : d.okSh) (hd : d.py.depth ≤ 64) (hc : d.cnt ≤ 8000) : shOk d = true := by
  unfold shOk
  have h1 := okSh_len h
  simp only [Bool.and_eq_true, decide_eq_true_eq]
  exact ⟨⟨⟨okSh_pure h, okSh_showable h⟩, hd⟩, by omega⟩
theorem okSh_F {r : Rat} (h : Sz 1900 r) : (F r).okSh := by
  have a := h.n.log
  have b := h.d.log
  exact ⟨by show r.num.natAbs.log2 < 1920; omega, by show (r.den : Int).natAbs.log2 < 1920; omega, trivial⟩
theorem okSh_Nm {p : Rat × Rat} (h1 : Sz 1900 p.1) (h2 : Sz 1900 p.2) : (Nm p).okSh := ⟨okSh_F h1, okSh_F h2, trivial⟩
end PD

set_option Elab.async false
set_option linter.all false
set_option maxRecDepth 100000
set_option maxHeartbeats 1000000
/-! PD, part u: numbers by a common number below (sizes that grow slowly). -/
namespace PD
open PySem PySem.Spec PyProof.Rows L2
/-- M times the number is whole in both parts, of size up to B -/
def Gd (M B : Nat) (p : Rat × Rat) : Prop := 0 < M ∧ ∃ a b : Int, p = (Rat.divInt a M, Rat.divInt b M) ∧ a.natAbs ≤ B ∧ b.natAbs ≤ B
theorem Gd.sz {M B k : Nat} {p : Rat × Rat} (h : Gd M B p) (hM : M < 2 ^ k) (hB : B < 2 ^ k) : Sz k p.1 ∧ Sz k p.2 := by
  obtain ⟨h0, a, b, rfl, ha, hb⟩ := h
  have m : PD.sz k (M : Int) := by unfold PD.sz; rw [Int.natAbs_natCast]; exact hM
  exact ⟨Sz.div (Nat.lt_of_le_of_lt ha hB) m (by omega), Sz.div (Nat.lt_of_le_of_lt hb hB) m (by omega)⟩
theorem Gd.mono {M B B' : Nat} {p : Rat × Rat} (h : Gd M B p) (le : B ≤ B') : Gd M B' p := by
  obtain ⟨h0, a, b, h1, ha, hb⟩ := h
  exact ⟨h0, a, b, h1, Nat.le_trans ha le, Nat.le_trans hb le⟩
theorem Gd.up {M B : Nat} {p : Rat × Rat} (c : Nat) (hc : 0 < c) (h : Gd M B p) : Gd (M * c) (B * c) p := by
  obtain ⟨h0, a, b, rfl, ha, hb⟩ := h
  have c0 : (c : Int) ≠ 0 := by omega
  have e : ((M * c : Nat) : Int) = (M : Int) * c := by simp
  refine ⟨Nat.mul_pos h0 hc, a * c, b * c, ?_, ?_, ?_⟩
  · rw [e, Rat.divInt_mul_right c0, Rat.divInt_mul_right c0]
  · rw [Int.natAbs_mul, Int.natAbs_natCast]; exact Nat.mul_le_mul_right _ ha
  · rw [Int.natAbs_mul, Int.natAbs_natCast]; exact Nat.mul_le_mul_right _ hb
theorem same_add (a b m : Int) : Rat.divInt a m + Rat.divInt b m = Rat.divInt (a + b) m := by
  rw [Rat.divInt_eq_div, Rat.divInt_eq_div, Rat.divInt_eq_div, Rat.intCast_add]
  grind
theorem same_sub (a b m : Int) : Rat.divInt a m - Rat.divInt b m = Rat.divInt (a - b) m := by
  rw [Rat.divInt_eq_div, Rat.divInt_eq_div, Rat.divInt_eq_div, Rat.intCast_sub]
  grind
theorem Gd.add {M B B' : Nat} {p q : Rat × Rat} (h : Gd M B p) (h' : Gd M B' q) : Gd M (B + B') (p.1 + q.1, p.2 + q.2) := by
  obtain ⟨h0, a, b, rfl, ha, hb⟩ := h
  obtain ⟨_, a', b', rfl, ha', hb'⟩ := h'
  refine ⟨h0, a + a', b + b', ?_, by omega, by omega⟩
  rw [← same_add, ← same_add]
theorem Gd.mul {M N B B' : Nat} {p q : Rat × Rat} (h : Gd M B p) (h' : Gd N B' q) : Gd (M * N) (2 * (B * B')) (p.1 * q.1 - p.2 * q.2, p.1 * q.2 + p.2 * q.1) := by
  obtain ⟨h0, a, b, rfl, ha, hb⟩ := h
  obtain ⟨h1, a', b', rfl, ha', hb'⟩ := h'
  have e : ((M * N : Nat) : Int) = (M : Int) * N := by simp
  have f : ∀ x y : Int, x.natAbs ≤ B → y.natAbs ≤ B' → (x * y).natAbs ≤ B * B' := fun x y hx hy => by
    rw [Int.natAbs_mul]; exact Nat.mul_le_mul hx hy
  have f1 := f a a' ha ha'
  have f2 := f b b' hb hb'
  have f3 := f a b' ha hb'
  have f4 := f b a' hb ha'
  refine ⟨Nat.mul_pos h0 h1, a * a' - b * b', a * b' + b * a', ?_, by omega, by omega⟩
  rw [e, ← same_sub, ← same_add]
  simp only [Rat.divInt_mul_divInt]
end PD

set_option Elab.async false
set_option linter.all false
set_option maxRecDepth 100000
set_option maxHeartbeats 1000000
/-! NB: numbers a + b i over d as reduced triples; bits. Pure mathematics, no program. -/
namespace PD
open PySem PySem.Spec PyProof.Rows L2
theorem rne {B : Int} (h : B ≠ 0) : (B : Rat) ≠ 0 := by
  intro e
  exact h (by exact_mod_cast e)
theorem divInt_eq {A B : Int} {r : Rat} (hB : B ≠ 0) (h : (A : Rat) = r * (B : Rat)) : Rat.divInt A B = r := by
  have := rne hB
  rw [Rat.divInt_eq_div, h]
  grind
theorem nd (x : Rat) : (x.num : Rat) = x * ((x.den : Int) : Rat) := by
  have h := Rat.num_divInt_den x
  rw [Rat.divInt_eq_div] at h
  have := rne (den_ne x)
  grind
theorem di {a d : Int} (h : d ≠ 0) : (a : Rat) = Rat.divInt a d * (d : Rat) := by
  have := rne h
  rw [Rat.divInt_eq_div]
  grind
theorem num_ne {x : Rat} (h : x ≠ 0) : x.num ≠ 0 := fun e => h (Rat.num_eq_zero.mp e)
theorem add_eq (x y : Rat) : Rat.divInt (x.num * y.den + y.num * x.den) (x.den * y.den) = x + y := by
  refine divInt_eq (Int.mul_ne_zero (den_ne x) (den_ne y)) ?_
  simp only [Rat.intCast_mul, Rat.intCast_add, nd x, nd y]
  grind
theorem sub_eq (x y : Rat) : Rat.divInt (x.num * y.den - y.num * x.den) (x.den * y.den) = x - y := by
  refine divInt_eq (Int.mul_ne_zero (den_ne x) (den_ne y)) ?_
  simp only [Rat.intCast_mul, Rat.intCast_sub, nd x, nd y]
  grind
theorem mul_eq (x y : Rat) : Rat.divInt (x.num * y.num) (x.den * y.den) = x * y := by
  refine divInt_eq (Int.mul_ne_zero (den_ne x) (den_ne y)) ?_
  simp only [Rat.intCast_mul, nd x, nd y]
  grind
theorem over_eq (x y : Rat) (hy : y ≠ 0) : Rat.divInt (x.num * y.den) (x.den * y.num) = x / y := by
  refine divInt_eq (Int.mul_ne_zero (den_ne x) (num_ne hy)) ?_
  simp only [Rat.intCast_mul, nd x, nd y]
  grind
abbrev Cq := Rat × Rat
def mulN (p q : Cq) : Cq := (p.1 * q.1 - p.2 * q.2, p.1 * q.2 + p.2 * q.1)
def conN (p : Cq) : Cq := (p.1, -p.2)
def sizN (p : Cq) : Rat := p.1 * p.1 + p.2 * p.2
def addN (p q : Cq) : Cq := (p.1 + q.1, p.2 + q.2)
def subN (p q : Cq) : Cq := (p.1 - q.1, p.2 - q.2)
def negN (p : Cq) : Cq := (-p.1, -p.2)
def sclN (p : Cq) (r : Rat) : Cq := (p.1 * r, p.2 * r)
def ovrN (p q : Cq) : Cq := sclN (mulN p (conN q)) (1 / sizN q)
def c0 : Cq := (0, 0)
def c1 : Cq := (1, 0)
/-- both parts of at most k bits -/
def Szn (k : Nat) (p : Cq) : Prop := Sz k p.1 ∧ Sz k p.2
theorem Szn.mono {k l : Nat} {p : Cq} (h : Szn k p) (le : k ≤ l) : Szn l p := ⟨h.1.mono le, h.2.mono le⟩
/-- (a + b i) / d -/
def q3 (a b d : Int) : Cq := (Rat.divInt a d, Rat.divInt b d)
theorem q3_inj {a b d a' b' d' : Int} (h : d ≠ 0) (h' : d' ≠ 0) (e : q3 a b d = q3 a' b' d') : a * d' = a' * d ∧ b * d' = b' * d := by
  unfold q3 at e
  simp only [Prod.mk.injEq] at e
  exact ⟨(Rat.divInt_eq_divInt_iff h h').mp e.1, (Rat.divInt_eq_divInt_iff h h').mp e.2⟩
/-- the reduced triple -/
def red3 (a b d : Int) : Int × Int × Int :=
  let g : Int := ((Nat.gcd (Nat.gcd a.natAbs b.natAbs) d.natAbs : Nat) : Int)
  (a / g, b / g, d / g)
theorem red3_spec {a b d : Int} (h : 0 < d) : ∃ g : Int, 0 < g ∧ (red3 a b d).1 * g = a ∧ (red3 a b d).2.1 * g = b ∧ (red3 a b d).2.2 * g = d ∧ 0 < (red3 a b d).2.2 ∧
    Nat.gcd (Nat.gcd (red3 a b d).1.natAbs (red3 a b d).2.1.natAbs) (red3 a b d).2.2.natAbs = 1 ∧ g = ((Nat.gcd (Nat.gcd a.natAbs b.natAbs) d.natAbs : Nat) : Int) := by
  obtain ⟨g, hg⟩ : ∃ g : Nat, Nat.gcd (Nat.gcd a.natAbs b.natAbs) d.natAbs = g := ⟨_, rfl⟩
  have g0 : 0 < g := by rw [← hg]; exact Nat.gcd_pos_of_pos_right _ (by omega)
  have gd : g ∣ d.natAbs := by rw [← hg]; exact Nat.gcd_dvd_right _ _
  have ga : g ∣ a.natAbs := by rw [← hg]; exact Nat.dvd_trans (Nat.gcd_dvd_left _ _) (Nat.gcd_dvd_left _ _)
  have gb : g ∣ b.natAbs := by rw [← hg]; exact Nat.dvd_trans (Nat.gcd_dvd_left _ _) (Nat.gcd_dvd_right _ _)
  obtain ⟨a', ea⟩ : (g : Int) ∣ a := Int.natAbs_dvd_natAbs.mp (by simpa using ga)
  obtain ⟨b', eb⟩ : (g : Int) ∣ b := Int.natAbs_dvd_natAbs.mp (by simpa using gb)
  obtain ⟨d', ed⟩ : (g : Int) ∣ d := Int.natAbs_dvd_natAbs.mp (by simpa using gd)
  have gz : (g : Int) ≠ 0 := by omega
  have r1 : (red3 a b d).1 = a' := by
    show a / ((Nat.gcd (Nat.gcd a.natAbs b.natAbs) d.natAbs : Nat) : Int) = a'
    rw [hg, ea, Int.mul_ediv_cancel_left _ gz]
  have r2 : (red3 a b d).2.1 = b' := by
    show b / ((Nat.gcd (Nat.gcd a.natAbs b.natAbs) d.natAbs : Nat) : Int) = b'
    rw [hg, eb, Int.mul_ediv_cancel_left _ gz]
  have r3 : (red3 a b d).2.2 = d' := by
    show d / ((Nat.gcd (Nat.gcd a.natAbs b.natAbs) d.natAbs : Nat) : Int) = d'
    rw [hg, ed, Int.mul_ediv_cancel_left _ gz]
  rw [r1, r2, r3, hg]
  refine ⟨g, by omega, by rw [ea, Int.mul_comm], by rw [eb, Int.mul_comm], by rw [ed, Int.mul_comm], ?_, ?_, rfl⟩
  · by_cases q : 0 < d'
    · exact q
    · have := Int.mul_le_mul_of_nonneg_left (show d' ≤ 0 by omega) (show (0 : Int) ≤ g by omega)
      rw [Int.mul_zero, ← ed] at this
      omega
  · rw [ea, eb, ed] at hg
    simp only [Int.natAbs_mul, Int.natAbs_natCast] at hg
    rw [Nat.gcd_mul_left, Nat.gcd_mul_left] at hg
    have : g * Nat.gcd (Nat.gcd a'.natAbs b'.natAbs) d'.natAbs = g * 1 := by omega
    exact Nat.eq_of_mul_eq_mul_left g0 this
theorem q3_red3 {a b d : Int} (h : 0 < d) : q3 (red3 a b d).1 (red3 a b d).2.1 (red3 a b d).2.2 = q3 a b d := by
  obtain ⟨g, g0, e1, e2, e3, _, _⟩ := red3_spec (a := a) (b := b) h
  have gz : g ≠ 0 := by omega
  generalize (red3 a b d) = t at *
  subst e1 e2 e3
  unfold q3
  rw [Rat.divInt_mul_right gz, Rat.divInt_mul_right gz]
theorem gcd3_dvd {a b d n d' : Nat} (h1 : d' ∣ a * n) (h2 : d' ∣ b * n) (h3 : d' ∣ d * n) (h : Nat.gcd (Nat.gcd a b) d = 1) : d' ∣ n := by
  have e1 := Nat.dvd_gcd (Nat.dvd_gcd h1 h2) h3
  rw [Nat.gcd_mul_right, Nat.gcd_mul_right, h, Nat.one_mul] at e1
  exact e1
theorem red_unique {a b d a' b' d' : Int} (h : 0 < d) (h' : 0 < d') (g : Nat.gcd (Nat.gcd a.natAbs b.natAbs) d.natAbs = 1) (g' : Nat.gcd (Nat.gcd a'.natAbs b'.natAbs) d'.natAbs = 1)
    (e : q3 a b d = q3 a' b' d') : a = a' ∧ b = b' ∧ d = d' := by
  obtain ⟨e1, e2⟩ := q3_inj (by omega) (by omega) e
  have n1 : a.natAbs * d'.natAbs = a'.natAbs * d.natAbs := by rw [← Int.natAbs_mul, ← Int.natAbs_mul, e1]
  have n2 : b.natAbs * d'.natAbs = b'.natAbs * d.natAbs := by rw [← Int.natAbs_mul, ← Int.natAbs_mul, e2]
  have k1 : d.natAbs ∣ d'.natAbs := gcd3_dvd (n := d'.natAbs) ⟨a'.natAbs, by rw [n1, Nat.mul_comm]⟩ ⟨b'.natAbs, by rw [n2, Nat.mul_comm]⟩ ⟨d'.natAbs, rfl⟩ g
  have k2 : d'.natAbs ∣ d.natAbs := gcd3_dvd (n := d.natAbs) ⟨a.natAbs, by rw [← n1, Nat.mul_comm]⟩ ⟨b.natAbs, by rw [← n2, Nat.mul_comm]⟩ ⟨d.natAbs, rfl⟩ g'
  have k3 := Nat.dvd_antisymm k1 k2
  have ed : d = d' := by omega
  subst ed
  exact ⟨Int.eq_of_mul_eq_mul_right (by omega) e1, Int.eq_of_mul_eq_mul_right (by omega) e2, rfl⟩
/-- the triple of a number -/
def t3 (p : Cq) : Int × Int × Int := red3 (p.1.num * p.2.den) (p.2.num * p.1.den) (p.1.den * p.2.den)
def T (p : Cq) : D := .tup [.int (t3 p).1, .int (t3 p).2.1, .int (t3 p).2.2]
theorem dd_pos (p : Cq) : (0 : Int) < p.1.den * p.2.den := Int.mul_pos (den_pos _) (den_pos _)
theorem q3_self (p : Cq) : q3 (p.1.num * p.2.den) (p.2.num * p.1.den) (p.1.den * p.2.den) = p := by
  unfold q3
  rw [Rat.divInt_mul_right (den_ne p.2), Int.mul_comm (p.1.den : Int), Rat.divInt_mul_right (den_ne p.1), Rat.num_divInt_den, Rat.num_divInt_den]
theorem t3_q3 (p : Cq) : q3 (t3 p).1 (t3 p).2.1 (t3 p).2.2 = p := by
  unfold t3
  rw [q3_red3 (dd_pos p), q3_self]
theorem t3_pos (p : Cq) : 0 < (t3 p).2.2 := by
  obtain ⟨g, _, _, _, _, h, _⟩ := red3_spec (a := p.1.num * p.2.den) (b := p.2.num * p.1.den) (dd_pos p)
  exact h
theorem t3_gcd (p : Cq) : Nat.gcd (Nat.gcd (t3 p).1.natAbs (t3 p).2.1.natAbs) (t3 p).2.2.natAbs = 1 := by
  obtain ⟨g, _, _, _, _, _, h, _⟩ := red3_spec (a := p.1.num * p.2.den) (b := p.2.num * p.1.den) (dd_pos p)
  exact h
theorem t3_of {a b d : Int} (h : 0 < d) (g : Nat.gcd (Nat.gcd a.natAbs b.natAbs) d.natAbs = 1) : t3 (q3 a b d) = (a, b, d) := by
  obtain ⟨e1, e2, e3⟩ := red_unique (t3_pos (q3 a b d)) h (t3_gcd _) g (t3_q3 _)
  exact Prod.ext e1 (Prod.ext e2 e3)
theorem t3_red {a b d : Int} (h : 0 < d) : t3 (q3 a b d) = red3 a b d := by
  obtain ⟨g, _, _, _, _, h1, h2, _⟩ := red3_spec (a := a) (b := b) h
  have := t3_of h1 h2
  rw [q3_red3 h] at this
  exact this
theorem t3_inj {p q : Cq} (h : t3 p = t3 q) : p = q := by rw [← t3_q3 p, ← t3_q3 q, h]
/-- at most k bits, the parts over one number -/
def hb (k : Nat) (p : Cq) : Prop := sz k (t3 p).1 ∧ sz k (t3 p).2.1 ∧ sz k (t3 p).2.2
theorem hb.mono {k l : Nat} {p : Cq} (h : hb k p) (le : k ≤ l) : hb l p := ⟨h.1.mono le, h.2.1.mono le, h.2.2.mono le⟩
theorem hb_q3 {k : Nat} {a b d : Int} (h : 0 < d) (ha : sz k a) (hb' : sz k b) (hd : sz k d) : hb k (q3 a b d) := by
  obtain ⟨g, g0, e1, e2, e3, _, _, _⟩ := red3_spec (a := a) (b := b) h
  unfold hb
  rw [t3_red h]
  have le : ∀ z : Int, z.natAbs ≤ (z * g).natAbs := fun z => by
    rw [Int.natAbs_mul]
    exact Nat.le_mul_of_pos_right _ (by omega)
  generalize (red3 a b d) = t at *
  subst e1 e2 e3
  exact ⟨ha.le (le _), hb'.le (le _), hd.le (le _)⟩
theorem hb_q3' {k : Nat} {a b d : Int} (h : d ≠ 0) (ha : sz k a) (hb' : sz k b) (hd : sz k d) : hb k (q3 a b d) := by
  by_cases hp : 0 < d
  · exact hb_q3 hp ha hb' hd
  · have e : q3 a b d = q3 (-a) (-b) (-d) := by unfold q3; rw [Rat.neg_divInt_neg, Rat.neg_divInt_neg]
    rw [e]
    exact hb_q3 (by omega) ha.neg hb'.neg hd.neg
theorem hb.szn {k : Nat} {p : Cq} (h : hb k p) : Szn k p := by
  rw [← t3_q3 p]
  exact ⟨Sz.div h.1 h.2.2 (by have := t3_pos p; omega), Sz.div h.2.1 h.2.2 (by have := t3_pos p; omega)⟩
section
variable {a b d a' b' d' : Int}
theorem q3_mul (h : d ≠ 0) (h' : d' ≠ 0) : q3 (a * a' - b * b') (a * b' + b * a') (d * d') = mulN (q3 a b d) (q3 a' b' d') := by
  have k1 := rne h
  have k2 := rne h'
  simp only [q3, mulN, Rat.divInt_eq_div, Rat.intCast_mul, Rat.intCast_add, Rat.intCast_sub, Prod.mk.injEq]
  constructor <;> grind
theorem q3_add (h : d ≠ 0) (h' : d' ≠ 0) : q3 (a * d' + a' * d) (b * d' + b' * d) (d * d') = addN (q3 a b d) (q3 a' b' d') := by
  have k1 := rne h
  have k2 := rne h'
  simp only [q3, addN, Rat.divInt_eq_div, Rat.intCast_mul, Rat.intCast_add, Prod.mk.injEq]
  constructor <;> grind
theorem q3_sub (h : d ≠ 0) (h' : d' ≠ 0) : q3 (a * d' - a' * d) (b * d' - b' * d) (d * d') = subN (q3 a b d) (q3 a' b' d') := by
  have k1 := rne h
  have k2 := rne h'
  simp only [q3, subN, Rat.divInt_eq_div, Rat.intCast_mul, Rat.intCast_sub, Prod.mk.injEq]
  constructor <;> grind
theorem q3_con : q3 a (-b) d = conN (q3 a b d) := by
  simp only [q3, conN, Rat.divInt_eq_div, Rat.intCast_neg, Prod.mk.injEq, true_and]
  grind
theorem q3_neg : q3 (-a) (-b) d = negN (q3 a b d) := by
  simp only [q3, negN, Rat.divInt_eq_div, Rat.intCast_neg, Prod.mk.injEq]
  constructor <;> grind
theorem q3_siz (h : d ≠ 0) : Rat.divInt (a * a + b * b) (d * d) = sizN (q3 a b d) := by
  have k1 := rne h
  simp only [q3, sizN, Rat.divInt_eq_div, Rat.intCast_mul, Rat.intCast_add]
  grind
theorem q3_ovr (h : d ≠ 0) (h' : d' ≠ 0) (hn : a' * a' + b' * b' ≠ 0) : q3 ((a * a' + b * b') * d') ((b * a' - a * b') * d') (d * (a' * a' + b' * b')) = ovrN (q3 a b d) (q3 a' b' d') := by
  have k1 := rne h
  have k2 := rne h'
  have k3 := rne hn
  have k4 : ((a' : Rat) * a' + (b' : Rat) * b') ≠ 0 := by simpa only [Rat.intCast_add, Rat.intCast_mul] using k3
  simp only [q3, ovrN, sclN, mulN, conN, sizN, Rat.divInt_eq_div, Rat.intCast_mul, Rat.intCast_add, Rat.intCast_sub, Prod.mk.injEq]
  have e1 : (a' : Rat) / d' * (a' / d') + (b' : Rat) / d' * (b' / d') = ((a' : Rat) * a' + (b' : Rat) * b') / ((d' : Rat) * d') := by grind
  rw [e1]
  generalize ((a' : Rat) * a' + (b' : Rat) * b') = n at *
  constructor <;> grind
end
theorem sqq_nn (a : Rat) : 0 ≤ a * a := by
  rcases Rat.nonneg_total a with h | h
  · exact Rat.mul_nonneg h h
  · have := Rat.mul_nonneg h h
    have e : -a * -a = a * a := by grind
    rw [e] at this
    exact this
theorem sizN_nn (q : Cq) : 0 ≤ sizN q := by
  have h1 := sqq_nn q.1
  have h2 := sqq_nn q.2
  unfold sizN
  grind
theorem sizN_zero {q : Cq} (e : sizN q = 0) : q = c0 := by
  unfold sizN at e
  have h1 := sqq_nn q.1
  have h2 := sqq_nn q.2
  have e1 : q.1 * q.1 = 0 := by grind
  have e2 : q.2 * q.2 = 0 := by grind
  have z1 : q.1 = 0 := by rcases Rat.mul_eq_zero.mp e1 with z | z <;> exact z
  have z2 : q.2 = 0 := by rcases Rat.mul_eq_zero.mp e2 with z | z <;> exact z
  show (q.1, q.2) = (0, 0)
  rw [z1, z2]
theorem sizN_ne {q : Cq} (h : q ≠ c0) : sizN q ≠ 0 := fun e => h (sizN_zero e)
theorem sq_pos {a b : Int} (h : a ≠ 0 ∨ b ≠ 0) : 0 < a * a + b * b := by
  have f : ∀ x : Int, 0 ≤ x * x := fun x => by
    rcases Int.le_total 0 x with z | z
    · exact Int.mul_nonneg z z
    · exact Int.mul_nonneg_of_nonpos_of_nonpos z z
  have g : ∀ x : Int, x ≠ 0 → 0 < x * x := fun x z => by
    rcases Int.lt_or_gt_of_ne z with q | q
    · exact Int.mul_pos_of_neg_of_neg q q
    · exact Int.mul_pos q q
  rcases h with h | h
  · have := g a h; have := f b; omega
  · have := g b h; have := f a; omega
theorem q3_zero {a b d : Int} (h : d ≠ 0) : q3 a b d = c0 ↔ a = 0 ∧ b = 0 := by
  unfold q3 c0
  simp only [Prod.mk.injEq]
  constructor
  · rintro ⟨e1, e2⟩
    have f : ∀ x : Int, Rat.divInt x d = 0 → x = 0 := fun x e => by
      have := di (a := x) h
      rw [e, Rat.zero_mul] at this
      exact_mod_cast this
    exact ⟨f a e1, f b e2⟩
  · rintro ⟨rfl, rfl⟩
    exact ⟨Rat.zero_divInt _, Rat.zero_divInt _⟩
theorem t3_ne {p : Cq} (h : p ≠ c0) : (t3 p).1 ≠ 0 ∨ (t3 p).2.1 ≠ 0 := by
  by_cases z : (t3 p).1 = 0
  · right
    intro z2
    exact h (by rw [← t3_q3 p]; exact (q3_zero (by have := t3_pos p; omega)).mpr ⟨z, z2⟩)
  · exact .inl z
theorem t3_zero (p : Cq) : ((t3 p).1 = 0 ∧ (t3 p).2.1 = 0) ↔ p = c0 := by
  constructor
  · intro h
    rw [← t3_q3 p]; exact (q3_zero (by have := t3_pos p; omega)).mpr h
  · intro h
    by_cases z : (t3 p).1 = 0 ∧ (t3 p).2.1 = 0
    · exact z
    · rw [← t3_q3 p] at h
      exact (q3_zero (by have := t3_pos p; omega)).mp h
section
variable {k l : Nat} {p q : Cq}
theorem hb.mul (h : hb k p) (h' : hb l q) : hb (k + l + 1) (mulN p q) := by
  have p1 := t3_pos p
  have p2 := t3_pos q
  have e := q3_mul (a := (t3 p).1) (b := (t3 p).2.1) (a' := (t3 q).1) (b' := (t3 q).2.1) (by omega : (t3 p).2.2 ≠ 0) (by omega : (t3 q).2.2 ≠ 0)
  rw [t3_q3, t3_q3] at e
  rw [← e]
  obtain ⟨x1, x2, x3⟩ := h
  obtain ⟨y1, y2, y3⟩ := h'
  exact hb_q3 (Int.mul_pos p1 p2) ((x1.mul y1).sub (x2.mul y2)) ((x1.mul y2).add (x2.mul y1)) ((x3.mul y3).mono (by omega))
theorem hb.add (h : hb k p) (h' : hb l q) : hb (k + l + 1) (addN p q) := by
  have p1 := t3_pos p
  have p2 := t3_pos q
  have e := q3_add (a := (t3 p).1) (b := (t3 p).2.1) (a' := (t3 q).1) (b' := (t3 q).2.1) (by omega : (t3 p).2.2 ≠ 0) (by omega : (t3 q).2.2 ≠ 0)
  rw [t3_q3, t3_q3] at e
  rw [← e]
  obtain ⟨x1, x2, x3⟩ := h
  obtain ⟨y1, y2, y3⟩ := h'
  exact hb_q3 (Int.mul_pos p1 p2) ((x1.mul y3).add ((y1.mul x3).mono (by omega))) ((x2.mul y3).add ((y2.mul x3).mono (by omega))) ((x3.mul y3).mono (by omega))
theorem hb.sub (h : hb k p) (h' : hb l q) : hb (k + l + 1) (subN p q) := by
  have p1 := t3_pos p
  have p2 := t3_pos q
  have e := q3_sub (a := (t3 p).1) (b := (t3 p).2.1) (a' := (t3 q).1) (b' := (t3 q).2.1) (by omega : (t3 p).2.2 ≠ 0) (by omega : (t3 q).2.2 ≠ 0)
  rw [t3_q3, t3_q3] at e
  rw [← e]
  obtain ⟨x1, x2, x3⟩ := h
  obtain ⟨y1, y2, y3⟩ := h'
  exact hb_q3 (Int.mul_pos p1 p2) ((x1.mul y3).sub ((y1.mul x3).mono (by omega))) ((x2.mul y3).sub ((y2.mul x3).mono (by omega))) ((x3.mul y3).mono (by omega))
theorem hb.con (h : hb k p) : hb k (conN p) := by
  have p1 := t3_pos p
  have e := q3_con (a := (t3 p).1) (b := (t3 p).2.1) (d := (t3 p).2.2)
  rw [t3_q3] at e
  rw [← e]
  exact hb_q3 p1 h.1 h.2.1.neg h.2.2
theorem hb.neg (h : hb k p) : hb k (negN p) := by
  have p1 := t3_pos p
  have e := q3_neg (a := (t3 p).1) (b := (t3 p).2.1) (d := (t3 p).2.2)
  rw [t3_q3] at e
  rw [← e]
  exact hb_q3 p1 h.1.neg h.2.1.neg h.2.2
theorem hb.siz (h : hb k p) : Sz (2 * k + 1) (sizN p) := by
  have p1 := t3_pos p
  have e := q3_siz (a := (t3 p).1) (b := (t3 p).2.1) (by omega : (t3 p).2.2 ≠ 0)
  rw [t3_q3] at e
  rw [← e]
  exact Sz.div (((h.1.mul h.1).add (h.2.1.mul h.2.1)).mono (by omega)) ((h.2.2.mul h.2.2).mono (by omega)) (Int.mul_ne_zero (by omega) (by omega))
theorem hb.ovr (h : hb k p) (h' : hb l q) (hq : q ≠ c0) : hb (k + 2 * l + 1) (ovrN p q) := by
  have p1 := t3_pos p
  have p2 := t3_pos q
  have n := sq_pos (t3_ne hq)
  have e := q3_ovr (a := (t3 p).1) (b := (t3 p).2.1) (a' := (t3 q).1) (b' := (t3 q).2.1) (by omega : (t3 p).2.2 ≠ 0) (by omega : (t3 q).2.2 ≠ 0) (by omega)
  rw [t3_q3, t3_q3] at e
  rw [← e]
  obtain ⟨x1, x2, x3⟩ := h
  obtain ⟨y1, y2, y3⟩ := h'
  refine hb_q3 (Int.mul_pos p1 n) ?_ ?_ ?_
  · exact ((((x1.mul y1).add (x2.mul y2)).mul y3)).mono (by omega)
  · refine (PD.sz.mul (k := k + l + 1) ?_ y3).mono (by omega)
    exact ((x2.mul y1).sub (x1.mul y2))
  · exact (x3.mul ((y1.mul y1).add (y2.mul y2))).mono (by omega)
end
theorem hb_c0 : hb 1 c0 := by
  have : c0 = q3 0 0 1 := by unfold c0 q3; rw [Rat.zero_divInt]
  rw [this]
  exact hb_q3 (by decide) (by unfold sz; decide) (by unfold sz; decide) (by unfold sz; decide)
theorem hb_c1 : hb 1 c1 := by
  have : c1 = q3 1 0 1 := by unfold c1 q3; rw [Rat.zero_divInt, show Rat.divInt 1 1 = 1 by decide +kernel]
  rw [this]
  exact hb_q3 (by decide) (by unfold sz; decide) (by unfold sz; decide) (by unfold sz; decide)
theorem hb_real {k : Nat} {r : Rat} (h : Sz k r) : hb (k + 1) (r, 0) := by
  have e : ((r, 0) : Cq) = q3 r.num 0 r.den := by unfold q3; rw [Rat.num_divInt_den, Rat.zero_divInt]
  rw [e]
  exact hb_q3 (den_pos r) (h.n.mono (by omega)) (by unfold sz; exact Nat.pow_pos (by decide)) (h.d.mono (by omega))
theorem T_q3 {a b d : Int} (h : 0 < d) : T (q3 a b d) = .tup [.int (red3 a b d).1, .int (red3 a b d).2.1, .int (red3 a b d).2.2] := by unfold T; rw [t3_red h]
theorem T_c0 : T c0 = .tup [.int 0, .int 0, .int 1] := by
  have : c0 = q3 0 0 1 := by unfold c0 q3; rw [Rat.zero_divInt]
  rw [this, T_q3 (by decide)]; rfl
theorem T_c1 : T c1 = .tup [.int 1, .int 0, .int 1] := by
  have : c1 = q3 1 0 1 := by unfold c1 q3; rw [Rat.zero_divInt, show Rat.divInt 1 1 = 1 by decide +kernel]
  rw [this, T_q3 (by decide)]; rfl
theorem T_con (p : Cq) : .tup [.int (t3 p).1, .int (-(t3 p).2.1), .int (t3 p).2.2] = T (conN p) := by
  have e := q3_con (a := (t3 p).1) (b := (t3 p).2.1) (d := (t3 p).2.2)
  rw [t3_q3] at e
  rw [← e]
  unfold T
  rw [t3_of (t3_pos p) (by rw [Int.natAbs_neg]; exact t3_gcd p)]
theorem T_neg (p : Cq) : .tup [.int (-(t3 p).1), .int (-(t3 p).2.1), .int (t3 p).2.2] = T (negN p) := by
  have e := q3_neg (a := (t3 p).1) (b := (t3 p).2.1) (d := (t3 p).2.2)
  rw [t3_q3] at e
  rw [← e]
  unfold T
  rw [t3_of (t3_pos p) (by rw [Int.natAbs_neg, Int.natAbs_neg]; exact t3_gcd p)]
end PD

set_option Elab.async false
set_option linter.all false
set_option autoImplicit false
set_option maxRecDepth 100000
set_option maxHeartbeats 1000000
/-! NC: numbers a + b i are a field (so that grind reasons about them). -/
namespace PD
section
theorem cx {p q : Cq} (h1 : p.1 = q.1) (h2 : p.2 = q.2) : p = q := Prod.ext h1 h2
instance : Add Cq := ⟨addN⟩
instance : Mul Cq := ⟨mulN⟩
instance : Neg Cq := ⟨negN⟩
instance : Sub Cq := ⟨subN⟩
instance : NatCast Cq := ⟨fun n => ((n : Rat), 0)⟩
instance : IntCast Cq := ⟨fun n => ((n : Rat), 0)⟩
instance (n : Nat) : OfNat Cq n := ⟨((OfNat.ofNat n : Rat), 0)⟩
def powN (p : Cq) : Nat → Cq
  | 0 => 1 | n + 1 => powN p n * p
instance : HPow Cq Nat Cq := ⟨powN⟩
instance : SMul Nat Cq := ⟨fun n p => (n : Cq) * p⟩
instance : SMul Int Cq := ⟨fun n p => (n : Cq) * p⟩
def invN (q : Cq) : Cq := (q.1 / sizN q, -q.2 / sizN q)
instance : Inv Cq := ⟨invN⟩
instance : Div Cq := ⟨fun p q => p * q⁻¹⟩
theorem a1 (p q : Cq) : (p + q).1 = p.1 + q.1 := rfl
theorem a2 (p q : Cq) : (p + q).2 = p.2 + q.2 := rfl
theorem m1 (p q : Cq) : (p * q).1 = p.1 * q.1 - p.2 * q.2 := rfl
theorem m2 (p q : Cq) : (p * q).2 = p.1 * q.2 + p.2 * q.1 := rfl
theorem n1 (p : Cq) : (-p).1 = -p.1 := rfl
theorem n2 (p : Cq) : (-p).2 = -p.2 := rfl
theorem s1 (p q : Cq) : (p - q).1 = p.1 - q.1 := rfl
theorem s2 (p q : Cq) : (p - q).2 = p.2 - q.2 := rfl
theorem o1 : (1 : Cq).1 = 1 := rfl
theorem o2 : (1 : Cq).2 = 0 := rfl
theorem z1 : (0 : Cq).1 = 0 := rfl
theorem z2 : (0 : Cq).2 = 0 := rfl
theorem nc1 (n : Nat) : (n : Cq).1 = (n : Rat) := rfl
theorem nc2 (n : Nat) : (n : Cq).2 = 0 := rfl
theorem i1 (q : Cq) : (q⁻¹).1 = q.1 / sizN q := rfl
theorem i2 (q : Cq) : (q⁻¹).2 = -q.2 / sizN q := rfl
theorem on1 (n : Nat) : (OfNat.ofNat n : Cq).1 = (OfNat.ofNat n : Rat) := rfl
theorem on2 (n : Nat) : (OfNat.ofNat n : Cq).2 = 0 := rfl
theorem c0_eq : c0 = (0 : Cq) := rfl
theorem c1_eq : c1 = (1 : Cq) := rfl
theorem mul_comm' (p q : Cq) : p * q = q * p := cx (by rw [m1, m1]; grind) (by rw [m2, m2]; grind)
instance : Lean.Grind.CommRing Cq where
  natCast := inferInstance
  ofNat := inferInstance
  nsmul := inferInstance
  npow := inferInstance
  intCast := inferInstance
  zsmul := inferInstance
  add_zero := fun p => cx (by rw [a1, z1]; grind) (by rw [a2, z2]; grind)
  add_comm := fun p q => cx (by rw [a1, a1]; grind) (by rw [a2, a2]; grind)
  add_assoc := fun p q r => cx (by simp only [a1]; grind) (by simp only [a2]; grind)
  mul_assoc := fun p q r => cx (by simp only [m1, m2]; grind) (by simp only [m1, m2]; grind)
  mul_one := fun p => cx (by simp only [m1, o1, o2]; grind) (by simp only [m2, o1, o2]; grind)
  one_mul := fun p => cx (by simp only [m1, o1, o2]; grind) (by simp only [m2, o1, o2]; grind)
  left_distrib := fun p q r => cx (by simp only [m1, a1, a2]; grind) (by simp only [m2, a1, a2]; grind)
  right_distrib := fun p q r => cx (by simp only [m1, a1, a2]; grind) (by simp only [m2, a1, a2]; grind)
  zero_mul := fun p => cx (by simp only [m1, z1, z2]; grind) (by simp only [m2, z1, z2]; grind)
  mul_zero := fun p => cx (by simp only [m1, z1, z2]; grind) (by simp only [m2, z1, z2]; grind)
  pow_zero := fun p => rfl
  pow_succ := fun p n => rfl
  ofNat_succ := fun n => cx (by rw [a1, on1, on1, o1]; exact Lean.Grind.Semiring.ofNat_succ n) (by rw [a2, on2, on2, o2]; grind)
  ofNat_eq_natCast := fun n => cx (by rw [on1, nc1]; exact Lean.Grind.Semiring.ofNat_eq_natCast n) rfl
  nsmul_eq_natCast_mul := fun n p => rfl
  neg_add_cancel := fun p => cx (by rw [a1, n1, z1]; grind) (by rw [a2, n2, z2]; grind)
  sub_eq_add_neg := fun p q => cx (by rw [s1, a1, n1]; grind) (by rw [s2, a2, n2]; grind)
  neg_zsmul := fun i p => by
    show ((-i : Int) : Cq) * p = -((i : Cq) * p)
    have e1 : ((-i : Int) : Cq).1 = -(i : Rat) := Rat.intCast_neg i
    have e2 : ((-i : Int) : Cq).2 = 0 := rfl
    have e3 : ((i : Int) : Cq).1 = (i : Rat) := rfl
    have e4 : ((i : Int) : Cq).2 = 0 := rfl
    exact cx (by simp only [m1, n1, e1, e2, e3, e4]; grind) (by simp only [m2, n2, e1, e2, e3, e4]; grind)
  zsmul_natCast_eq_nsmul := fun n p => by
    show (((n : Nat) : Int) : Cq) * p = ((n : Nat) : Cq) * p
    have : (((n : Nat) : Int) : Cq) = ((n : Nat) : Cq) := cx (Rat.intCast_natCast n) rfl
    rw [this]
  intCast_ofNat := fun n => cx (by exact Rat.intCast_ofNat) rfl
  intCast_neg := fun i => cx (by rw [n1]; exact Rat.intCast_neg i) (by rw [n2]; show (0 : Rat) = -0; grind)
  mul_comm := mul_comm'
theorem inv_z : ((0 : Cq)⁻¹) = 0 := cx (by rw [i1, z1, Rat.div_def, Rat.zero_mul]) (by rw [i2, z2, Rat.div_def]; grind)
theorem mul_inv' (p : Cq) (h : p ≠ 0) : p * p⁻¹ = 1 := by
  have k := sizN_ne (q := p) h
  refine cx ?_ ?_
  · rw [m1, i1, i2, o1]
    have : sizN p = p.1 * p.1 + p.2 * p.2 := rfl
    generalize sizN p = s at *
    grind
  · rw [m2, i1, i2, o2]
    have : sizN p = p.1 * p.1 + p.2 * p.2 := rfl
    generalize sizN p = s at *
    grind
def zpowN (p : Cq) : Int → Cq
  | .ofNat n => p ^ n | .negSucc n => (p ^ (n + 1))⁻¹
theorem one_ne' : (0 : Cq) ≠ 1 := fun e => by
  have := congrArg Prod.fst e
  rw [z1, o1] at this
  exact absurd this (by decide)
theorem inv_inv' (p : Cq) : p⁻¹⁻¹ = p := by
  by_cases h : p = 0
  · rw [h, inv_z, inv_z]
  · have e := mul_inv' p h
    have h2 : p⁻¹ ≠ 0 := fun z => by
      rw [z] at e
      exact one_ne' (by rw [← e]; grind)
    have e2 := mul_inv' _ h2
    have : p⁻¹⁻¹ = p * (p⁻¹ * p⁻¹⁻¹) := by
      rw [← Lean.Grind.Semiring.mul_assoc, e, Lean.Grind.Semiring.one_mul]
    rw [this, e2, Lean.Grind.Semiring.mul_one]
theorem inv_one' : (1 : Cq)⁻¹ = 1 := by
  have e := mul_inv' 1 (fun z => one_ne' z.symm)
  rw [Lean.Grind.Semiring.one_mul] at e
  exact e
instance : HPow Cq Int Cq := ⟨zpowN⟩
instance : Lean.Grind.Field Cq where
  zpow := inferInstance
  div_eq_mul_inv := fun p q => rfl
  zero_ne_one := one_ne'
  inv_zero := inv_z
  mul_inv_cancel := fun {p} h => mul_inv' p h
  zpow_zero := fun p => rfl
  zpow_succ := fun p n => rfl
  zpow_neg := fun p n => by
    cases n with
    | ofNat m =>
      cases m with
      | zero => exact inv_one'.symm
      | succ m => rfl
    | negSucc m => exact (inv_inv' _).symm
instance : Lean.Grind.IsCharP Cq 0 where
  ofNat_ext_iff := fun {x y} => by
    have h := Lean.Grind.IsCharP.ofNat_ext_iff (α := Rat) (p := 0) (x := x) (y := y)
    rw [← h]
    exact ⟨fun e => congrArg Prod.fst e, fun e => cx e rfl⟩
instance : Lean.Grind.NoNatZeroDivisors Cq where
  no_nat_zero_divisors := fun k a b hk h => by
    have e : ((k : Nat) : Cq) * a = ((k : Nat) : Cq) * b := h
    have k0 : ((k : Nat) : Rat) ≠ 0 := by exact_mod_cast hk
    have e1 := congrArg Prod.fst e
    have e2 := congrArg Prod.snd e
    rw [m1, m1, nc1, nc2] at e1
    rw [m2, m2, nc1, nc2] at e2
    exact cx (by grind) (by grind)
/-- mirrored -/
theorem con_add (p q : Cq) : conN (p + q) = conN p + conN q := cx rfl (by show -(p.2 + q.2) = -p.2 + -q.2; grind)
theorem con_sub (p q : Cq) : conN (p - q) = conN p - conN q := cx rfl (by show -(p.2 - q.2) = -p.2 - -q.2; grind)
theorem con_neg (p : Cq) : conN (-p) = -conN p := rfl
theorem con_mul (p q : Cq) : conN (p * q) = conN p * conN q := cx (by show p.1 * q.1 - p.2 * q.2 = p.1 * q.1 - -p.2 * -q.2; grind) (by show -(p.1 * q.2 + p.2 * q.1) = p.1 * -q.2 + -p.2 * q.1; grind)
theorem con_one : conN 1 = 1 := cx rfl (by show -(0 : Rat) = 0; grind)
theorem con_zero : conN 0 = 0 := cx rfl (by show -(0 : Rat) = 0; grind)
theorem con_con (p : Cq) : conN (conN p) = p := cx rfl (by show - -p.2 = p.2; grind)
theorem con_inj {p q : Cq} (h : conN p = conN q) : p = q := by rw [← con_con p, h, con_con]
theorem con_z {p : Cq} (h : conN p = 0) : p = 0 := con_inj (h.trans con_zero.symm)
theorem con_inv (p : Cq) : conN p⁻¹ = (conN p)⁻¹ := by
  by_cases h : p = 0
  · rw [h, inv_z, con_zero, inv_z]
  · have e := mul_inv' p h
    have e1 : conN p * conN p⁻¹ = 1 := by rw [← con_mul, e, con_one]
    have h2 : conN p ≠ 0 := fun z => h (con_z z)
    have e2 := mul_inv' _ h2
    grind
theorem con_div (p q : Cq) : conN (p / q) = conN p / conN q := by
  show conN (p * q⁻¹) = conN p * (conN q)⁻¹
  rw [con_mul, con_inv]
/-- a fraction as a number -/
def re (r : Rat) : Cq := (r, 0)
theorem re_add (x y : Rat) : re (x + y) = re x + re y := cx rfl (by show (0 : Rat) = 0 + 0; grind)
theorem re_sub (x y : Rat) : re (x - y) = re x - re y := cx rfl (by show (0 : Rat) = 0 - 0; grind)
theorem re_mul (x y : Rat) : re (x * y) = re x * re y := cx (by show x * y = x * y - 0 * 0; grind) (by show (0 : Rat) = x * 0 + 0 * y; grind)
theorem re_one : re 1 = 1 := rfl
theorem re_zero : re 0 = 0 := rfl
theorem re_inj {x y : Rat} (h : re x = re y) : x = y := congrArg Prod.fst h
theorem re_ne {x : Rat} (h : x ≠ 0) : re x ≠ 0 := fun e => h (re_inj e)
theorem con_re (x : Rat) : conN (re x) = re x := cx rfl (by show -(0 : Rat) = 0; grind)
theorem siz_eq (p : Cq) : re (sizN p) = p * conN p := cx (by show p.1 * p.1 + p.2 * p.2 = p.1 * p.1 - p.2 * -p.2; grind) (by show (0 : Rat) = p.1 * -p.2 + p.2 * p.1; grind)
theorem re_inv (x : Rat) : re x⁻¹ = (re x)⁻¹ := by
  by_cases h : x = 0
  · subst h; rw [show (0 : Rat)⁻¹ = 0 by decide +kernel, re_zero, inv_z]
  · have e : re x * re x⁻¹ = 1 := by rw [← re_mul, Rat.mul_inv_cancel _ h]; rfl
    have h2 := re_ne h
    have e2 := mul_inv' _ h2
    grind
theorem re_div (x y : Rat) : re (x / y) = re x / re y := by
  rw [Rat.div_def, re_mul, re_inv]; rfl
theorem siz_mul (p q : Cq) : sizN (p * q) = sizN p * sizN q := by
  show (p.1 * q.1 - p.2 * q.2) * (p.1 * q.1 - p.2 * q.2) + (p.1 * q.2 + p.2 * q.1) * (p.1 * q.2 + p.2 * q.1) = (p.1 * p.1 + p.2 * p.2) * (q.1 * q.1 + q.2 * q.2)
  grind
theorem siz_con (p : Cq) : sizN (conN p) = sizN p := by show p.1 * p.1 + -p.2 * -p.2 = p.1 * p.1 + p.2 * p.2; grind
theorem siz_one : sizN 1 = 1 := by decide +kernel
theorem siz_zero : sizN 0 = 0 := by decide +kernel
theorem siz_z {p : Cq} : sizN p = 0 ↔ p = 0 := ⟨sizN_zero, fun h => by rw [h]; exact siz_zero⟩
theorem siz_inv (p : Cq) : sizN p⁻¹ = (sizN p)⁻¹ := by
  by_cases h : p = 0
  · rw [h, inv_z, siz_zero]; decide +kernel
  · have e := congrArg sizN (mul_inv' p h)
    rw [siz_mul, siz_one] at e
    have k := sizN_ne (q := p) h
    grind
theorem siz_div (p q : Cq) : sizN (p / q) = sizN p / sizN q := by
  show sizN (p * q⁻¹) = _
  rw [siz_mul, siz_inv, Rat.div_def]
theorem ovr_eq (p q : Cq) : ovrN p q = p / q := by
  show sclN (mulN p (conN q)) (1 / sizN q) = p * q⁻¹
  refine cx ?_ ?_
  · show (p.1 * q.1 - p.2 * -q.2) * (1 / sizN q) = p.1 * (q.1 / sizN q) - p.2 * (-q.2 / sizN q)
    grind
  · show (p.1 * -q.2 + p.2 * q.1) * (1 / sizN q) = p.1 * (-q.2 / sizN q) + p.2 * (q.1 / sizN q)
    grind
theorem scl_eq (p : Cq) (r : Rat) : sclN p r = p * re r := by
  refine cx ?_ ?_
  · show p.1 * r = p.1 * r - p.2 * 0
    grind
  · show p.2 * r = p.1 * 0 + p.2 * r
    grind
theorem add_N (p q : Cq) : addN p q = p + q := rfl
theorem sub_N (p q : Cq) : subN p q = p - q := rfl
theorem mul_N (p q : Cq) : mulN p q = p * q := rfl
theorem neg_N (p : Cq) : negN p = -p := rfl
end
end PD

set_option Elab.async false
set_option linter.all false
set_option autoImplicit false
set_option maxRecDepth 100000
set_option maxHeartbeats 1000000
/-! N46: turns of the disc. Pure mathematics. -/
namespace PD
def lowN (c : Cq) (t : Rat) : Cq := conN c * re (1 / t)
def ledN (u c : Cq) (t : Rat) (z : Cq) : Option Cq := if 1 - lowN c t * z = 0 then none else some (u * (z - c) / (1 - lowN c t * z))
theorem re_inv1 (t : Rat) : re (1 / t) = (re t)⁻¹ := by rw [re_div, re_one]; show 1 * (re t)⁻¹ = _; grind
theorem low_law (c z : Cq) (t : Rat) : conN c * z / re t = lowN c t * z := by
  unfold lowN
  rw [re_inv1]
  show conN c * z * (re t)⁻¹ = _
  grind
theorem rat_mul_lt {a b t : Rat} (ha : 0 ≤ a) (ha' : a < t) (hb' : b < t) : a * b < t * t := by
  have t0 : 0 < t := by grind
  have h1 : a * b ≤ a * t := Rat.mul_le_mul_of_nonneg_left (by grind) ha
  have h2 : a * t < t * t := Rat.mul_lt_mul_of_pos_right ha' t0
  grind
theorem siz_re (x : Rat) : sizN (re x) = x * x := by show x * x + 0 * 0 = x * x; grind
theorem siz_low (c : Cq) {t : Rat} (ht : t ≠ 0) : sizN (lowN c t) = sizN c / (t * t) := by
  unfold lowN
  rw [siz_mul, siz_con, siz_re]
  grind
theorem siz_neg (p : Cq) : sizN (-p) = sizN p := by show -p.1 * -p.1 + -p.2 * -p.2 = p.1 * p.1 + p.2 * p.2; grind
section
variable {u v c d : Cq} {t : Rat}
theorem along_ne (hu : sizN u = 1) (hc : sizN c < t) (hd : sizN d < t) : u + d * lowN c t ≠ 0 := by
  intro h
  have t0 : 0 < t := by have := sizN_nn c; grind
  have e : u = -(d * lowN c t) := by grind
  have k := congrArg sizN e
  rw [hu, siz_neg, siz_mul, siz_low c (by grind)] at k
  have m := rat_mul_lt (sizN_nn d) hd hc
  have : sizN d * (sizN c / (t * t)) * (t * t) = sizN d * sizN c := by grind
  rw [← k] at this
  grind
def alongN (u c d : Cq) (t : Rat) : Cq := u + d * lowN c t
def rndN (u c v d : Cq) (t : Rat) : Cq := v * alongN u c d t / (u * conN (alongN u c d t))
def ctrN (u c d : Cq) (t : Rat) : Cq := (u * c + d) / alongN u c d t
theorem u_unit (hu : sizN u = 1) : u * conN u = 1 := by rw [← siz_eq, hu]; rfl
theorem u_ne (hu : sizN u = 1) : u ≠ 0 := fun h => by rw [h, siz_zero] at hu; exact absurd hu (by decide)
theorem rnd_size (hu : sizN u = 1) (hv : sizN v = 1) (ha : alongN u c d t ≠ 0) : sizN (rndN u c v d t) = 1 := by
  unfold rndN
  have := sizN_ne (q := alongN u c d t) ha
  rw [siz_div, siz_mul, siz_mul, siz_con, hu, hv]
  grind
theorem ctr_id (hu : sizN u = 1) (ht : t ≠ 0) : t * sizN (alongN u c d t) - sizN (u * c + d) = (t - sizN c) * (t - sizN d) / t := by
  apply re_inj
  have k := u_unit hu
  have n := re_ne ht
  rw [re_sub, re_mul, siz_eq, siz_eq, re_div, re_mul, re_sub, re_sub, siz_eq, siz_eq]
  unfold alongN lowN
  simp only [con_add, con_mul, con_con, con_re, re_inv1, con_inv]
  generalize re t = T at *
  generalize conN u = u' at *
  generalize conN c = c' at *
  generalize conN d = d' at *
  grind
theorem rat_mul_pos {a b : Rat} (ha : 0 < a) (hb : 0 < b) : 0 < a * b := Rat.mul_pos ha hb
theorem ctr_size (hu : sizN u = 1) (hc : sizN c < t) (hd : sizN d < t) : sizN (ctrN u c d t) < t := by
  have t0 : 0 < t := by have := sizN_nn c; grind
  have ha := along_ne hu hc hd
  have e := ctr_id (c := c) (d := d) hu (show t ≠ 0 by grind)
  have p1 : 0 < (t - sizN c) * (t - sizN d) := Rat.mul_pos (by grind) (by grind)
  have p2 : 0 < (t - sizN c) * (t - sizN d) / t := by
    rw [Rat.div_def]
    exact Rat.mul_pos p1 (Rat.inv_pos.mpr t0)
  have n : sizN (alongN u c d t) ≠ 0 := sizN_ne ha
  have n0 : 0 < sizN (alongN u c d t) := by have := sizN_nn (alongN u c d t); grind
  unfold ctrN
  rw [siz_div]
  rw [← e] at p2
  have : sizN (u * c + d) / sizN (alongN u c d t) * sizN (alongN u c d t) = sizN (u * c + d) := by grind
  apply Rat.lt_of_mul_lt_mul_right (c := sizN (alongN u c d t)) _ (by grind)
  rw [this]
  grind
theorem behind_led (hu : sizN u = 1) (hc : sizN c < t) (hd : sizN d < t) {z w : Cq} (h : ledN u c t z = some w) : ledN (rndN u c v d t) (ctrN u c d t) t z = ledN v d t w := by
  have t0 : 0 < t := by have := sizN_nn c; grind
  have tn := re_ne (show t ≠ 0 by grind)
  have ha := along_ne hu hc hd
  have k := u_unit hu
  have un := u_ne hu
  unfold ledN at h
  split at h
  · cases h
  · rename_i n1
    cases h
    have hA : conN (alongN u c d t) ≠ 0 := fun z => ha (con_z z)
    have key : (1 - lowN c t * z) * (1 - lowN d t * (u * (z - c) / (1 - lowN c t * z))) = u * conN (alongN u c d t) * (1 - lowN (ctrN u c d t) t * z) := by
      unfold lowN ctrN at *
      rw [con_div]
      unfold alongN lowN at *
      simp only [con_add, con_mul, con_con, con_re, re_inv1, con_inv] at *
      generalize re t = T at *
      generalize conN u = u' at *
      generalize conN c = c' at *
      generalize conN d = d' at *
      grind
    have key2 : (1 - lowN c t * z) * (u * (z - c) / (1 - lowN c t * z) - d) = alongN u c d t * (z - ctrN u c d t) := by
      unfold ctrN
      unfold alongN lowN at *
      generalize conN c * re (1 / t) = e at *
      grind
    have ne : u * conN (alongN u c d t) ≠ 0 := by grind
    generalize e1 : 1 - lowN d t * (u * (z - c) / (1 - lowN c t * z)) = D2 at *
    generalize e2 : 1 - lowN (ctrN u c d t) t * z = D at *
    unfold ledN
    rw [e1, e2]
    by_cases hD : D = 0
    · have : D2 = 0 := by grind
      rw [if_pos hD, if_pos this]
    · have : D2 ≠ 0 := by grind
      rw [if_neg hD, if_neg this]
      refine congrArg some ?_
      unfold rndN
      generalize ctrN u c d t = m at *
      generalize alongN u c d t = A at *
      generalize conN A = A' at *
      generalize u * (z - c) / (1 - lowN c t * z) = w at *
      grind
theorem back_led (hu : sizN u = 1) (hc : sizN c < t) {z w : Cq} (h : ledN u c t z = some w) : ledN (conN u) (-(u * c)) t w = some z := by
  have t0 : 0 < t := by have := sizN_nn c; grind
  have tn := re_ne (show t ≠ 0 by grind)
  have k := u_unit hu
  have un := u_ne hu
  have sc : re t - c * conN c ≠ 0 := by
    rw [← siz_eq, ← re_sub]
    exact re_ne (by grind)
  unfold ledN at h
  split at h
  · cases h
  · rename_i n1
    cases h
    have key : (1 - lowN (-(u * c)) t * (u * (z - c) / (1 - lowN c t * z))) * (1 - lowN c t * z) * re t = re t - c * conN c := by
      unfold lowN at *
      simp only [con_neg, con_mul, con_con, con_re, re_inv1, con_inv] at *
      generalize re t = T at *
      generalize conN u = u' at *
      generalize conN c = c' at *
      grind
    have ne : 1 - lowN (-(u * c)) t * (u * (z - c) / (1 - lowN c t * z)) ≠ 0 := by grind
    unfold ledN
    rw [if_neg ne]
    refine congrArg some ?_
    have key2 : (u * (z - c) / (1 - lowN c t * z) - -(u * c)) * (1 - lowN c t * z) * re t = u * z * (re t - c * conN c) := by
      unfold lowN at *
      simp only [re_inv1] at *
      generalize re t = T at *
      generalize conN c = c' at *
      grind
    generalize u * (z - c) / (1 - lowN c t * z) - -(u * c) = X at *
    generalize 1 - lowN (-(u * c)) t * (u * (z - c) / (1 - lowN c t * z)) = Y at *
    generalize (1 - lowN c t * z) = D at *
    generalize re t - c * conN c = s at *
    generalize conN u = u' at *
    generalize re t = T at *
    grind
end
end PD

set_option Elab.async false
set_option linter.all false
set_option autoImplicit false
set_option maxRecDepth 100000
set_option maxHeartbeats 1000000
/-! N47: apartness. Pure mathematics. -/
namespace PD
def aptN (t : Rat) (z w : Cq) : Rat := t * sizN (z - w) / sizN (re t - conN w * z)
section
variable {u v c d z w x y : Cq} {t : Rat}
theorem apt_id (z w : Cq) (t : Rat) : sizN (re t - conN w * z) - t * sizN (z - w) = (t - sizN z) * (t - sizN w) := by
  apply re_inj
  rw [re_sub, re_mul, siz_eq, siz_eq, re_mul, re_sub, re_sub, siz_eq, siz_eq]
  simp only [con_sub, con_mul, con_con, con_re]
  generalize re t = T at *
  generalize conN z = z' at *
  generalize conN w = w' at *
  grind
theorem far_pos (hz : sizN z < t) (hw : sizN w < t) : 0 < sizN (re t - conN w * z) := by
  have t0 : 0 < t := by have := sizN_nn z; grind
  have e := apt_id z w t
  have p : 0 < (t - sizN z) * (t - sizN w) := Rat.mul_pos (by grind) (by grind)
  have q : 0 ≤ t * sizN (z - w) := Rat.mul_nonneg (by grind) (sizN_nn _)
  grind
theorem far_ne (hz : sizN z < t) (hw : sizN w < t) : re t - conN w * z ≠ 0 := fun e => by
  have := far_pos hz hw
  rw [e, siz_zero] at this
  exact absurd this (by decide)
theorem apt_sym (z w : Cq) (t : Rat) : aptN t z w = aptN t w z := by
  unfold aptN
  have e1 : sizN (z - w) = sizN (w - z) := by rw [← siz_neg, show -(z - w) = w - z by grind]
  have e2 : sizN (re t - conN w * z) = sizN (re t - conN z * w) := by
    rw [← siz_con]
    simp only [con_sub, con_mul, con_con, con_re]
    rw [show re t - w * conN z = re t - conN z * w by grind]
  rw [e1, e2]
theorem apt_nn (hz : sizN z < t) (hw : sizN w < t) : 0 ≤ aptN t z w := by
  have t0 : 0 < t := by have := sizN_nn z; grind
  have p := far_pos hz hw
  unfold aptN
  rw [Rat.div_def]
  exact Rat.mul_nonneg (Rat.mul_nonneg (by grind) (sizN_nn _)) (by have := Rat.inv_pos.mpr p; grind)
theorem apt_lt (hz : sizN z < t) (hw : sizN w < t) : aptN t z w < 1 := by
  have p := far_pos hz hw
  have e := apt_id z w t
  have q : 0 < (t - sizN z) * (t - sizN w) := Rat.mul_pos (by grind) (by grind)
  unfold aptN
  have : t * sizN (z - w) / sizN (re t - conN w * z) * sizN (re t - conN w * z) = t * sizN (z - w) := by grind
  apply Rat.lt_of_mul_lt_mul_right (c := sizN (re t - conN w * z)) _ (by grind)
  rw [this]
  grind
theorem apt_zero (hz : sizN z < t) (hw : sizN w < t) : aptN t z w = 0 ↔ z = w := by
  have t0 : 0 < t := by have := sizN_nn z; grind
  have p := far_pos hz hw
  unfold aptN
  constructor
  · intro h
    have : t * sizN (z - w) = 0 := by grind
    have : sizN (z - w) = 0 := by grind
    have := siz_z.mp this
    grind
  · rintro rfl
    rw [show z - z = 0 by grind, siz_zero]
    grind
theorem den_ne' (hc : sizN c < t) (hz : sizN z < t) : 1 - lowN c t * z ≠ 0 := by
  have t0 : 0 < t := by have := sizN_nn c; grind
  have tn := re_ne (show t ≠ 0 by grind)
  have k := far_ne hz hc
  intro e
  apply k
  have : conN c * z = lowN c t * z * re t := by
    unfold lowN
    rw [re_inv1]
    grind
  rw [this]
  grind
theorem den_re (ht : t ≠ 0) : (1 - lowN c t * z) * re t = re t - conN c * z := by
  have tn := re_ne ht
  unfold lowN
  rw [re_inv1]
  grind
theorem led_some (hc : sizN c < t) (hz : sizN z < t) : ledN u c t z = some (u * (z - c) / (1 - lowN c t * z)) := by
  unfold ledN
  rw [if_neg (den_ne' hc hz)]
/-- the size of where a number is led, by its apartness from the centre -/
theorem led_size (hu : sizN u = 1) (hc : sizN c < t) (hz : sizN z < t) (h : ledN u c t z = some w) : sizN w = t * aptN t z c := by
  have t0 : 0 < t := by have := sizN_nn c; grind
  rw [led_some hc hz] at h
  cases h
  rw [siz_div, siz_mul, hu]
  unfold aptN
  have e := congrArg sizN (den_re (c := c) (z := z) (show t ≠ 0 by grind))
  rw [siz_mul, siz_re] at e
  have k := far_pos hz hc
  have k2 := sizN_ne (den_ne' hc hz)
  generalize sizN (1 - lowN c t * z) = D at *
  generalize sizN (re t - conN c * z) = E at *
  generalize sizN (z - c) = G at *
  grind
theorem led_lt (hu : sizN u = 1) (hc : sizN c < t) (hz : sizN z < t) (h : ledN u c t z = some w) : sizN w < t := by
  have t0 : 0 < t := by have := sizN_nn c; grind
  rw [led_size hu hc hz h]
  have := apt_lt hz hc
  have : t * aptN t z c < t * 1 := Rat.mul_lt_mul_of_pos_left this t0
  grind
/-- a turn keeps apartness -/
theorem apt_led (hu : sizN u = 1) (hc : sizN c < t) (hz : sizN z < t) (hw : sizN w < t) (h1 : ledN u c t z = some x) (h2 : ledN u c t w = some y) : aptN t x y = aptN t z w := by
  have t0 : 0 < t := by have := sizN_nn c; grind
  have tn := re_ne (show t ≠ 0 by grind)
  have k := u_unit hu
  have d1 := den_ne' hc hz
  have d2 := den_ne' hc hw
  have f0 := far_ne hz hw
  have f1 := far_ne (led_lt hu hc hz h1) (led_lt hu hc hw h2)
  rw [led_some hc hz] at h1
  rw [led_some hc hw] at h2
  cases h1
  cases h2
  have e1 := den_re (c := c) (z := z) (show t ≠ 0 by grind)
  have e2 := den_re (c := c) (z := w) (show t ≠ 0 by grind)
  have s1 : (u * (z - c) / (1 - lowN c t * z) - u * (w - c) / (1 - lowN c t * w)) * ((re t - conN c * z) * (re t - conN c * w)) = u * (z - w) * (re t * (re t - c * conN c)) := by
    rw [← e1, ← e2]
    unfold lowN at *
    simp only [re_inv1] at *
    generalize re t = T at *
    generalize conN c = c' at *
    grind
  have s2 : (re t - conN (u * (w - c) / (1 - lowN c t * w)) * (u * (z - c) / (1 - lowN c t * z))) * ((re t - conN c * z) * conN (re t - conN c * w)) = (re t - conN w * z) * (re t * (re t - c * conN c)) := by
    have d2' : conN (1 - lowN c t * w) ≠ 0 := fun e => d2 (con_z e)
    have e2' := congrArg conN e2
    rw [con_mul, con_re] at e2'
    rw [con_div, con_mul, ← e1, ← e2']
    generalize h3 : conN (1 - lowN c t * w) = D2 at *
    generalize h4 : 1 - lowN c t * z = D1 at *
    simp only [con_sub, con_mul, con_con, con_re] at *
    generalize re t = T at *
    generalize conN u = u' at *
    generalize conN c = c' at *
    generalize conN w = w' at *
    clear f0 f1 s1 e2 h3 h4
    have hX : u' * (w' - c') / D2 * (u * (z - c) / D1) * (D1 * D2) = (w' - c') * (z - c) := by grind
    have hY : (T - u' * (w' - c') / D2 * (u * (z - c) / D1)) * (D1 * T * (D2 * T)) = T * ((D1 * T) * (D2 * T)) - u' * (w' - c') / D2 * (u * (z - c) / D1) * (D1 * D2) * (T * T) := by
      generalize u' * (w' - c') / D2 * (u * (z - c) / D1) = X
      grind
    rw [hY, hX, e1, e2']
    grind
  have g1 := congrArg sizN s1
  have g2 := congrArg sizN s2
  simp only [siz_mul, siz_con, hu] at g1 g2
  have p1 := sizN_ne (far_ne hz hc)
  have p2 := sizN_ne (far_ne hw hc)
  have p3 := sizN_ne f0
  have p4 := sizN_ne f1
  unfold aptN
  have q : sizN (re t - c * conN c) ≠ 0 := by
    rw [← siz_eq, ← re_sub, siz_re]
    have : 0 < (t - sizN c) * (t - sizN c) := Rat.mul_pos (by grind) (by grind)
    grind
  have q2 : sizN (re t) ≠ 0 := sizN_ne tn
  generalize sizN (u * (z - c) / (1 - lowN c t * z) - u * (w - c) / (1 - lowN c t * w)) = A at *
  generalize sizN (re t - conN (u * (w - c) / (1 - lowN c t * w)) * (u * (z - c) / (1 - lowN c t * z))) = B at *
  generalize sizN (re t - conN c * z) = P at *
  generalize sizN (re t - conN c * w) = Q at *
  generalize sizN (re t - c * conN c) = R at *
  generalize sizN (re t - conN w * z) = V at *
  generalize sizN (z - w) = G at *
  generalize sizN (re t) = W at *
  have h5 : A * V = G * B := by
    have : (A * V - G * B) * (P * Q * (W * R)) = 0 := by grind
    have n : P * Q * (W * R) ≠ 0 := by grind
    grind
  grind
theorem led_one (z c : Cq) (hc : sizN c < t) (hz : sizN z < t) : ledN 1 c t z = some ((z - c) / (1 - lowN c t * z)) := by
  rw [led_some hc hz, show (1 : Cq) * (z - c) = z - c by grind]
theorem led_self (hc : sizN c < t) : ledN u c t c = some 0 := by
  rw [led_some hc hc, show c - c = 0 by grind]
  refine congrArg some ?_
  have := den_ne' hc hc
  grind
theorem led_unit0 (t : Rat) (z : Cq) : ledN v 0 t z = some (v * z) := by
  unfold ledN
  have e : lowN 0 t = 0 := by unfold lowN; rw [con_zero]; grind
  rw [e, if_neg (by grind)]
  refine congrArg some ?_
  grind
end
/-- the turn that leads first to third, second to fourth -/
def btwN (z w x y : Cq) (t : Rat) : Cq × Cq :=
  let here := (w - z) / (1 - lowN z t * w)
  let there := (y - x) / (1 - lowN x t * y)
  if here = 0 then (rndN 1 z 1 (-x) t, ctrN 1 z (-x) t)
  else
    let U := rndN 1 z (there / here) 0 t
    let C := ctrN 1 z 0 t
    (rndN U C 1 (-x) t, ctrN U C (-x) t)
section
variable {z w x y : Cq} {t : Rat}
theorem size_iff (hz : sizN z < t) (hw : sizN w < t) (hx : sizN x < t) (hy : sizN y < t) : sizN ((w - z) / (1 - lowN z t * w)) = sizN ((y - x) / (1 - lowN x t * y)) ↔ aptN t z w = aptN t x y := by
  have t0 : 0 < t := by have := sizN_nn z; grind
  have a := led_size siz_one hz hw (led_one w z hz hw)
  have b := led_size siz_one hx hy (led_one y x hx hy)
  rw [a, b, apt_sym w z, apt_sym y x]
  constructor
  · intro h
    clear a b
    generalize aptN t z w = A at *
    generalize aptN t x y = B at *
    have q : t * (A - B) = 0 := by grind
    rcases Rat.mul_eq_zero.mp q with q | q
    · grind
    · grind
  · intro h; rw [h]
theorem back1 (hx : sizN x < t) {y v : Cq} (h : ledN 1 x t y = some v) : ledN 1 (-x) t v = some y := by
  have := back_led siz_one hx h
  rw [con_one, show -(1 * x) = -x by grind] at this
  exact this
theorem btw_led (hz : sizN z < t) (hw : sizN w < t) (hx : sizN x < t) (hy : sizN y < t) (e : aptN t z w = aptN t x y) :
    sizN (btwN z w x y t).1 = 1 ∧ sizN (btwN z w x y t).2 < t ∧ ledN (btwN z w x y t).1 (btwN z w x y t).2 t z = some x ∧ ledN (btwN z w x y t).1 (btwN z w x y t).2 t w = some y := by
  have t0 : 0 < t := by have := sizN_nn z; grind
  have s := (size_iff hz hw hx hy).mpr e
  have lh := led_one w z hz hw
  have lt := led_one y x hx hy
  have nx : sizN (-x) < t := by rw [siz_neg]; exact hx
  have b0 : ledN 1 (-x) t 0 = some x := back1 hx (led_self hx)
  have by' := back1 hx lt
  unfold btwN
  dsimp only
  generalize hh : (w - z) / (1 - lowN z t * w) = here at *
  generalize hg : (y - x) / (1 - lowN x t * y) = there at *
  by_cases h0 : here = 0
  · rw [if_pos h0]
    have g0 : there = 0 := siz_z.mp (by rw [← s, h0, siz_zero])
    rw [h0] at lh
    rw [g0] at by'
    have xy : x = y := by rw [b0] at by'; exact Option.some.inj by'
    have r1 : sizN (rndN 1 z 1 (-x) t) = 1 := rnd_size siz_one siz_one (along_ne siz_one hz nx)
    refine ⟨r1, ctr_size siz_one hz nx, ?_, ?_⟩
    · rw [behind_led siz_one hz nx (led_self hz)]; exact b0
    · rw [behind_led siz_one hz nx lh, b0, xy]
  · rw [if_neg h0]
    have z0 : sizN (0 : Cq) < t := by rw [siz_zero]; exact t0
    have sv : sizN (there / here) = 1 := by
      rw [siz_div, ← s]
      have := sizN_ne (q := here) h0
      grind
    have a1 := along_ne (u := 1) siz_one hz z0
    have rU : sizN (rndN 1 z (there / here) 0 t) = 1 := rnd_size siz_one sv a1
    have rC : sizN (ctrN 1 z 0 t) < t := ctr_size siz_one hz z0
    have m1 : ledN (rndN 1 z (there / here) 0 t) (ctrN 1 z 0 t) t z = some 0 := by
      rw [behind_led siz_one hz z0 (led_self hz), led_unit0]
      refine congrArg some ?_
      grind
    have m2 : ledN (rndN 1 z (there / here) 0 t) (ctrN 1 z 0 t) t w = some there := by
      rw [behind_led siz_one hz z0 lh, led_unit0]
      refine congrArg some ?_
      grind
    generalize rndN 1 z (there / here) 0 t = U at *
    generalize ctrN 1 z 0 t = C at *
    refine ⟨rnd_size rU siz_one (along_ne rU rC nx), ctr_size rU rC nx, ?_, ?_⟩
    · rw [behind_led rU rC nx m1]; exact b0
    · rw [behind_led rU rC nx m2]; exact by'
end
end PD

set_option Elab.async false
set_option linter.all false
set_option autoImplicit false
set_option maxRecDepth 100000
set_option maxHeartbeats 1000000
/-! N48: sizes of ratios of whole Gaussian numbers. Pure mathematics. -/
namespace PD
def gz (k : Nat) (p : Cq) : Prop := ∃ a b : Int, p = q3 a b 1 ∧ sz k a ∧ sz k b
def eG (d : Int) : Cq := q3 d 0 1
def rt (k : Nat) (p : Cq) : Prop := ∃ A B : Cq, p * B = A ∧ gz k A ∧ gz k B ∧ B ≠ 0
section
variable {k l m n : Nat} {p q u c z w : Cq} {t : Rat}
theorem gz.mono (h : gz k p) (le : k ≤ l) : gz l p := by
  obtain ⟨a, b, e, x, y⟩ := h
  exact ⟨a, b, e, x.mono le, y.mono le⟩
theorem gz.mul (h : gz k p) (h' : gz l q) : gz (k + l + 1) (p * q) := by
  obtain ⟨a, b, e, x, y⟩ := h
  obtain ⟨a', b', e', x', y'⟩ := h'
  refine ⟨a * a' - b * b', a * b' + b * a', ?_, (x.mul x').sub (y.mul y'), (x.mul y').add (y.mul x')⟩
  have := q3_mul (a := a) (b := b) (d := 1) (a' := a') (b' := b') (d' := 1) (by decide) (by decide)
  rw [e, e']; exact this.symm
theorem gz.sub (h : gz k p) (h' : gz k q) : gz (k + 1) (p - q) := by
  obtain ⟨a, b, e, x, y⟩ := h
  obtain ⟨a', b', e', x', y'⟩ := h'
  refine ⟨a - a', b - b', ?_, x.sub x', y.sub y'⟩
  have := q3_sub (a := a) (b := b) (d := 1) (a' := a') (b' := b') (d' := 1) (by decide) (by decide)
  rw [Int.mul_one, Int.mul_one, Int.mul_one, Int.mul_one] at this
  rw [e, e']; exact this.symm
theorem gz.con (h : gz k p) : gz k (conN p) := by
  obtain ⟨a, b, e, x, y⟩ := h
  exact ⟨a, -b, by rw [e]; exact (q3_con).symm, x, y.neg⟩
/-- a whole number times: two products, no sum -/
theorem gz.mulD {D : Int} (h : gz k p) (hD : sz l D) : gz (k + l) (p * eG D) := by
  obtain ⟨a, b, e, x, y⟩ := h
  refine ⟨a * D, b * D, ?_, x.mul hD, y.mul hD⟩
  have := q3_mul (a := a) (b := b) (d := 1) (a' := D) (b' := 0) (d' := 1) (by decide) (by decide)
  rw [Int.mul_zero, Int.mul_zero, Int.sub_zero, Int.zero_add] at this
  rw [e]; exact this.symm
theorem eG_ne {D : Int} (h : D ≠ 0) : eG D ≠ 0 := fun z => h ((q3_zero (by decide)).mp z).1
theorem eG_con {D : Int} : conN (eG D) = eG D := by
  unfold eG; rw [← q3_con]; rfl
theorem gz_D {D : Int} (h : sz k D) : gz k (eG D) := ⟨D, 0, rfl, h, by unfold sz; exact Nat.two_pow_pos k⟩
theorem q3_D {a b d : Int} (h : d ≠ 0) : q3 a b d * eG d = q3 a b 1 := by
  have k1 := rne h
  refine cx ?_ ?_
  · show Rat.divInt a d * Rat.divInt d 1 - Rat.divInt b d * Rat.divInt 0 1 = Rat.divInt a 1
    simp only [Rat.divInt_eq_div]
    grind
  · show Rat.divInt a d * Rat.divInt 0 1 + Rat.divInt b d * Rat.divInt d 1 = Rat.divInt b 1
    simp only [Rat.divInt_eq_div]
    grind
/-- a number over its whole number -/
theorem hb_gz (h : hb k p) : ∃ D : Int, D ≠ 0 ∧ sz k D ∧ gz k (p * eG D) := by
  have e := t3_q3 p
  have d0 := t3_pos p
  have d1 : (t3 p).2.2 ≠ 0 := by omega
  have := q3_D (a := (t3 p).1) (b := (t3 p).2.1) d1
  rw [e] at this
  exact ⟨(t3 p).2.2, d1, h.2.2, (t3 p).1, (t3 p).2.1, this, h.1, h.2.1⟩
theorem Sz_gz (h : Sz k t) (h0 : t ≠ 0) : ∃ N D : Int, N ≠ 0 ∧ D ≠ 0 ∧ sz k N ∧ sz k D ∧ re (1 / t) * eG N = eG D := by
  refine ⟨t.num, t.den, num_ne h0, den_ne t, h.n, h.d, ?_⟩
  have e : t = Rat.divInt t.num t.den := (Rat.num_divInt_den t).symm
  have k1 := rne (num_ne h0)
  have k2 := rne (den_ne t)
  have e2 : 1 / t = Rat.divInt t.den t.num := by
    have := over_eq 1 t h0
    rw [← this]
    show Rat.divInt (1 * (t.den : Int)) (1 * t.num) = _
    rw [Int.one_mul, Int.one_mul]
  have := q3_D (a := t.den) (b := 0) (num_ne h0)
  unfold q3 at this
  rw [Rat.zero_divInt, ← e2] at this
  exact this
theorem rt_hb (h : rt k p) : hb (2 * k + 1) p := by
  obtain ⟨A, B, e, hA, ⟨a, b, eB, x, y⟩, B0⟩ := h
  obtain ⟨a', b', e', x', y'⟩ := hA
  have ne : a * a + b * b ≠ 0 := by
    have := sq_pos (a := a) (b := b) (by
      by_cases z : a = 0
      · exact .inr fun z2 => B0 (by rw [eB, z, z2]; exact (q3_zero (by decide)).mpr ⟨rfl, rfl⟩)
      · exact .inl z)
    omega
  have h1 := q3_ovr (a := a') (b := b') (d := 1) (a' := a) (b' := b) (d' := 1) (by decide) (by decide) ne
  rw [← eB, ← e'] at h1
  have h2 : p = ovrN A B := by
    rw [ovr_eq, ← e]; grind
  rw [h2, ← h1, Int.mul_one, Int.mul_one, Int.one_mul]
  refine hb_q3' ne ?_ ?_ ?_
  · exact ((x'.mul x).add (y'.mul y)).mono (by omega)
  · exact ((y'.mul x).sub (x'.mul y)).mono (by omega)
  · exact (sz.add ((x.mul x)) (y.mul y)).mono (by omega)
theorem rt_div (h : rt k p) (h' : rt l q) (q0 : q ≠ 0) : rt (k + l + 1) (p / q) := by
  obtain ⟨A, B, e, hA, hB, B0⟩ := h
  obtain ⟨A', B', e', hA', hB', B0'⟩ := h'
  have a0 : A' ≠ 0 := by rw [← e']; grind
  refine ⟨A * B', B * A', ?_, (hA.mul hB').mono (by omega), (hB.mul hA').mono (by omega), by grind⟩
  rw [← e, ← e']; grind
theorem rt_led (hu : hb m u) (hc : hb k c) (ht : Sz l t) (hz : hb n z) (h0 : t ≠ 0) (h : ledN u c t z = some w) : rt (m + k + n + l + 2) w := by
  unfold ledN at h
  split at h
  · cases h
  rename_i ne
  cases h
  obtain ⟨du, u0, su, gu⟩ := hb_gz hu
  obtain ⟨dc, c0', sc, gc⟩ := hb_gz hc
  obtain ⟨dz, z0, sz', gz'⟩ := hb_gz hz
  obtain ⟨N, D, N0, D0, sN, sD, eT⟩ := Sz_gz ht h0
  refine ⟨u * eG du * (z * eG dz * eG dc - c * eG dc * eG dz) * eG N, (eG dc * eG dz * eG N - conN (c * eG dc) * (z * eG dz) * eG D) * eG du, ?_, ?_, ?_, ?_⟩
  · rw [con_mul, eG_con, ← eT]
    unfold lowN at *
    have := eG_ne u0
    have := eG_ne c0'
    have := eG_ne z0
    have := eG_ne N0
    generalize eG du = x1 at *
    generalize eG dc = x2 at *
    generalize eG dz = x3 at *
    generalize eG N = x4 at *
    generalize conN c = c' at *
    generalize re (1 / t) = r at *
    have e : 1 - c' * r * z ≠ 0 := ne
    generalize hE : 1 - c' * r * z = E at *
    have : x2 * x3 * x4 - c' * x2 * (z * x3) * (r * x4) = x2 * x3 * x4 * E := by rw [← hE]; grind
    rw [this]
    clear hE this
    grind
  · exact (((gu.mul (((gz'.mulD sc).mono (show n + k ≤ n + k by omega)).sub ((gc.mulD sz').mono (show k + n ≤ n + k by omega)))).mulD sN)).mono (by omega)
  · exact ((((((gz_D sc).mulD sz').mulD sN).mono (show k + n + l ≤ k + n + 1 + l by omega)).sub ((gc.con.mul gz').mulD sD)).mulD su).mono (by omega)
  · rw [con_mul, eG_con, ← eT]
    have := eG_ne u0
    have := eG_ne c0'
    have := eG_ne z0
    have := eG_ne N0
    unfold lowN at ne
    generalize eG du = x1 at *
    generalize eG dc = x2 at *
    generalize eG dz = x3 at *
    generalize eG N = x4 at *
    generalize conN c = c' at *
    generalize re (1 / t) = r at *
    generalize hE : 1 - c' * r * z = E at *
    have : x2 * x3 * x4 - c' * x2 * (z * x3) * (r * x4) = x2 * x3 * x4 * E := by rw [← hE]; grind
    rw [this]
    clear hE this
    grind
theorem hb_led2 (hu : hb m u) (hc : hb k c) (ht : Sz l t) (hz : hb n z) (h0 : t ≠ 0) (h : ledN u c t z = some w) : hb (2 * (m + k + n + l) + 5) w := (rt_hb (rt_led hu hc ht hz h0 h)).mono (by omega)
theorem rnd0 (v z : Cq) (t : Rat) : rndN 1 z v 0 t = v := by
  unfold rndN alongN
  have : (1 : Cq) + 0 * lowN z t = 1 := by grind
  rw [this, con_one]; grind
theorem ctr0 (z : Cq) (t : Rat) : ctrN 1 z 0 t = z := by
  unfold ctrN alongN
  have : (1 : Cq) + 0 * lowN z t = 1 := by grind
  rw [this]; grind
end
end PD

set_option Elab.async false
set_option linter.all false
set_option autoImplicit false
set_option maxRecDepth 100000
set_option maxHeartbeats 1000000
/-! NR6: rows: values, coefficients in powers of h. Pure mathematics. -/
namespace PD
/-- the value -/
def evN : List Cq → Cq → Cq
  | [], _ => 0 | p :: ps, x => evN ps x * x + p
def adH (p : Cq) : List Cq → List Cq
  | [] => [] | q :: qs => (q + p) :: qs
/-- times x + h -/
def stp (x : Cq) (l : List Cq) : List Cq := List.zipWith (· + ·) (0 :: l) (l.map (· * x) ++ [0])
/-- in powers of h, at x + h -/
def shN : List Cq → Cq → List Cq
  | [], _ => [] | p :: ps, x => adH p (stp x (shN ps x))
theorem stp_len (x : Cq) (l : List Cq) : (stp x l).length = l.length + 1 := by simp [stp]
theorem adH_len (p : Cq) (l : List Cq) : (adH p l).length = l.length := by cases l <;> rfl
theorem shN_len : ∀ (l : List Cq) (x : Cq), (shN l x).length = l.length
  | [], _ => rfl
  | p :: ps, x => by
    show (adH p (stp x (shN ps x))).length = _
    rw [adH_len, stp_len, shN_len ps x]; rfl
theorem stp_cons (x q : Cq) (qs : List Cq) : stp x (q :: qs) = (q * x) :: adH q (stp x qs) := by
  unfold stp
  rw [List.map_cons, List.cons_append, List.zipWith_cons_cons]
  have e : (0 : Cq) + q * x = q * x := by grind
  rw [e]
  refine congrArg _ ?_
  cases h : List.map (fun z => z * x) qs ++ [0] with
  | nil => simp at h
  | cons a as =>
    rw [List.zipWith_cons_cons, List.zipWith_cons_cons]
    show _ = ((0 : Cq) + a + q) :: _
    rw [show q + a = (0 : Cq) + a + q by grind]
/-- coefficients -/
def cf (l : List Cq) (i : Nat) : Cq := (l[i]?).getD 0
theorem cf_cons0 (p : Cq) (l : List Cq) : cf (p :: l) 0 = p := rfl
theorem cf_consS (p : Cq) (l : List Cq) (i : Nat) : cf (p :: l) (i + 1) = cf l i := by simp [cf]
theorem cf_nil (i : Nat) : cf [] i = 0 := rfl
theorem cf_ext {l m : List Cq} (h : l.length = m.length) (e : ∀ i, cf l i = cf m i) : l = m := by
  refine List.ext_getElem h fun i h1 h2 => ?_
  have := e i
  unfold cf at this
  rw [List.getElem?_eq_getElem h1, List.getElem?_eq_getElem h2] at this
  exact this
def stpF (x : Cq) (f : Nat → Cq) : Nat → Cq
  | 0 => f 0 * x | i + 1 => f i + f (i + 1) * x
def adF (p : Cq) (f : Nat → Cq) : Nat → Cq
  | 0 => f 0 + p | i + 1 => f (i + 1)
theorem cf_adH {p : Cq} {l : List Cq} (h : l ≠ []) : cf (adH p l) = adF p (cf l) := by
  cases l with
  | nil => exact absurd rfl h
  | cons q qs =>
    funext i
    cases i with
    | zero => rfl
    | succ i => show cf ((q + p) :: qs) (i + 1) = cf (q :: qs) (i + 1); rw [cf_consS, cf_consS]
theorem stp_ne (x : Cq) (l : List Cq) : stp x l ≠ [] := fun e => by
  have := stp_len x l
  rw [e] at this
  cases this
theorem cf_stp (x : Cq) : ∀ (l : List Cq), cf (stp x l) = stpF x (cf l)
  | [] => by
    funext i
    cases i with
    | zero => show (0 : Cq) + 0 = 0 * x; grind
    | succ i => show cf [(0 : Cq) + 0] (i + 1) = cf [] i + cf [] (i + 1) * x; rw [cf_consS, cf_nil, cf_nil]; grind
  | q :: qs => by
    funext i
    rw [stp_cons]
    cases i with
    | zero => rfl
    | succ i =>
      rw [cf_consS, cf_adH (stp_ne x qs), cf_stp x qs]
      show adF q (stpF x (cf qs)) i = cf (q :: qs) i + cf (q :: qs) (i + 1) * x
      rw [cf_consS]
      cases i with
      | zero => show cf qs 0 * x + q = q + cf qs 0 * x; grind
      | succ i => rw [cf_consS]; rfl
theorem stpF_comm (x y : Cq) (f : Nat → Cq) : stpF x (stpF y f) = stpF y (stpF x f) := by
  funext i
  match i with
  | 0 => show f 0 * y * x = f 0 * x * y; grind
  | 1 => show f 0 * y + (f 0 + f 1 * y) * x = f 0 * x + (f 0 + f 1 * x) * y; grind
  | i + 2 => show f i + f (i + 1) * y + (f (i + 1) + f (i + 2) * y) * x = f i + f (i + 1) * x + (f (i + 1) + f (i + 2) * x) * y; grind
theorem stpF_ad (x q : Cq) (f : Nat → Cq) : stpF x (adF q f) = fun i => stpF x f i + (if i = 0 then q * x else if i = 1 then q else 0) := by
  funext i
  match i with
  | 0 => show (f 0 + q) * x = f 0 * x + q * x; grind
  | 1 => show f 0 + q + f 1 * x = f 0 + f 1 * x + q; grind
  | i + 2 => show f (i + 1) + f (i + 2) * x = f (i + 1) + f (i + 2) * x + 0; grind
theorem sh_ad (q y : Cq) {l : List Cq} (h : l ≠ []) : cf (shN (adH q l) y) = adF q (cf (shN l y)) := by
  cases l with
  | nil => exact absurd rfl h
  | cons a as =>
    show cf (adH (a + q) (stp y (shN as y))) = adF q (cf (adH a (stp y (shN as y))))
    rw [cf_adH (stp_ne _ _), cf_adH (stp_ne _ _)]
    funext i
    cases i with
    | zero => show _ + (a + q) = _ + a + q; grind
    | succ i => rfl
theorem sh_stp (x y : Cq) : ∀ l : List Cq, cf (shN (stp x l) y) = stpF (x + y) (cf (shN l y))
  | [] => by
    have e : shN (stp x []) y = [0] := by
      show adH ((0 : Cq) + 0) (stp y []) = [0]
      show [((0 : Cq) + 0) + (0 + 0)] = [0]
      rw [show ((0 : Cq) + 0) + (0 + 0) = 0 by grind]
    rw [e]
    funext i
    cases i with
    | zero => show (0 : Cq) = 0 * (x + y); grind
    | succ i => rw [cf_consS]; show (0 : Cq) = 0 + 0 * (x + y); grind
  | q :: qs => by
    rw [stp_cons]
    show cf (adH (q * x) (stp y (shN (adH q (stp x qs)) y))) = stpF (x + y) (cf (adH q (stp y (shN qs y))))
    rw [cf_adH (stp_ne _ _), cf_stp, sh_ad q y (stp_ne _ _), sh_stp x y qs, cf_adH (stp_ne _ _), cf_stp, stpF_ad, stpF_ad, stpF_comm (x + y) y]
    funext i
    match i with
    | 0 => show stpF y (stpF (x + y) (cf (shN qs y))) 0 + q * y + q * x = stpF y (stpF (x + y) (cf (shN qs y))) 0 + q * (x + y); grind
    | 1 => rfl
    | i + 2 => rfl
theorem sh_sh (x y : Cq) : ∀ l : List Cq, shN (shN l x) y = shN l (x + y)
  | [] => rfl
  | p :: ps => by
    refine cf_ext (by rw [shN_len, shN_len, shN_len]) fun i => ?_
    show cf (shN (adH p (stp x (shN ps x))) y) i = cf (adH p (stp (x + y) (shN ps (x + y)))) i
    rw [sh_ad p y (stp_ne _ _), sh_stp, sh_sh x y ps, cf_adH (stp_ne _ _), cf_stp]
theorem sh_zero : ∀ l : List Cq, shN l 0 = l
  | [] => rfl
  | p :: ps => by
    refine cf_ext (by rw [shN_len]) fun i => ?_
    show cf (adH p (stp 0 (shN ps 0))) i = _
    rw [cf_adH (stp_ne _ _), cf_stp, sh_zero ps]
    cases i with
    | zero => show cf ps 0 * 0 + p = p; grind
    | succ i => rw [cf_consS]; show cf ps i + cf ps (i + 1) * 0 = _; grind
/-- one pass: Horner from the end -/
def passN (x : Cq) : List Cq → List Cq
  | [] => [] | p :: ps => (p + x * (passN x ps).headD 0) :: passN x ps
theorem pass_len (x : Cq) : ∀ l, (passN x l).length = l.length
  | [] => rfl
  | p :: ps => by show (passN x ps).length + 1 = _; rw [pass_len x ps]; rfl
theorem sh_pass (x : Cq) : ∀ (ps : List Cq) (p : Cq), shN (p :: ps) x = (p + x * (passN x ps).headD 0) :: shN (passN x ps) x
  | [], p => by
    show [((0 : Cq) + 0) + p] = [p + x * 0]
    rw [show ((0 : Cq) + 0) + p = p + x * 0 by grind]
  | q :: qs, p => by
    have ih := sh_pass x qs q
    show adH p (stp x (shN (q :: qs) x)) = (p + x * (q + x * (passN x qs).headD 0)) :: adH (q + x * (passN x qs).headD 0) (stp x (shN (passN x qs) x))
    rw [ih, stp_cons]
    generalize q + x * (passN x qs).headD 0 = h
    show (h * x + p) :: adH h (stp x (shN (passN x qs) x)) = _
    rw [show h * x + p = p + x * h by grind]
end PD

set_option Elab.async false
set_option linter.all false
set_option autoImplicit false
set_option maxRecDepth 100000
set_option maxHeartbeats 1000000
/-! NR7: sizes of rows: numbers over powers of six. -/
namespace PD
theorem q3_same {a b a' b' d : Int} : q3 a b d + q3 a' b' d = q3 (a + a') (b + b') d := by
  unfold q3
  exact cx (same_add _ _ _) (same_add _ _ _)
theorem q3_up {a b d c : Int} (hd : d ≠ 0) (hc : c ≠ 0) : q3 (a * c) (b * c) (d * c) = q3 a b d := by
  unfold q3
  rw [Rat.divInt_mul_right hc, Rat.divInt_mul_right hc]
def six (j : Nat) : Int := 6 ^ j
theorem six_pos (j : Nat) : 0 < six j := Int.pow_pos (by decide)
theorem six_add (i j : Nat) : six (i + j) = six i * six j := by unfold six; rw [Int.pow_add]
theorem sz_six : ∀ j, sz (3 * j + 1) (six j)
  | 0 => by unfold sz six; decide
  | j + 1 => by
    have h := sz_six j
    have e : six (j + 1) = six j * 6 := six_add j 1
    have : sz (3 * j + 4) (six (j + 1)) := by
      rw [e]
      unfold sz at *
      rw [show (2 : Nat) ^ (3 * j + 4) = 2 ^ (3 * j + 1) * 8 by rw [show 3 * j + 4 = (3 * j + 1) + 3 by omega, Nat.pow_add]]
      rw [Int.natAbs_mul]
      have : (6 : Int).natAbs = 6 := rfl
      rw [this]
      omega
    exact this
/-- over 6^j, numerators below 2^k -/
def gb (j k : Nat) (p : Cq) : Prop := ∃ a b : Int, p = q3 a b (six j) ∧ sz k a ∧ sz k b
theorem gb.mono {j k l : Nat} {p : Cq} (h : gb j k p) (le : k ≤ l) : gb j l p := by
  obtain ⟨a, b, e, x, y⟩ := h
  exact ⟨a, b, e, x.mono le, y.mono le⟩
theorem gb.hb {j k l : Nat} {p : Cq} (h : gb j k p) (le : k ≤ l) (lj : 3 * j + 1 ≤ l) : hb l p := by
  obtain ⟨a, b, e, x, y⟩ := h
  rw [e]
  exact hb_q3 (six_pos j) (x.mono le) (y.mono le) ((sz_six j).mono lj)
theorem sz_add {k : Nat} {a b : Int} (h : sz k a) (h' : sz k b) : sz (k + 1) (a + b) := by
  unfold sz at *
  rw [Nat.pow_succ]
  omega
theorem gb.mul {i j k l : Nat} {p q : Cq} (h : gb i k p) (h' : gb j l q) : gb (i + j) (k + l + 1) (p * q) := by
  obtain ⟨a, b, e, x, y⟩ := h
  obtain ⟨a', b', e', x', y'⟩ := h'
  have p1 := six_pos i
  have p2 := six_pos j
  refine ⟨a * a' - b * b', a * b' + b * a', ?_, ?_, sz_add (k := k + l) (x.mul y') (by have := y.mul x'; exact this)⟩
  · rw [e, e', six_add, q3_mul (by omega) (by omega)]; rfl
  · have := sz_add (x.mul x') (y.mul y').neg
    rwa [← Int.sub_eq_add_neg] at this
theorem gb.add {j k : Nat} {p q : Cq} (h : gb j k p) (h' : gb j k q) : gb j (k + 1) (p + q) := by
  obtain ⟨a, b, e, x, y⟩ := h
  obtain ⟨a', b', e', x', y'⟩ := h'
  exact ⟨a + a', b + b', by rw [e, e', q3_same], sz_add x x', sz_add y y'⟩
theorem gb.up {j k : Nat} {p : Cq} (i : Nat) (h : gb j k p) : gb (j + i) (k + (3 * i + 1)) p := by
  obtain ⟨a, b, e, x, y⟩ := h
  have p1 := six_pos i
  have p2 := six_pos j
  exact ⟨a * six i, b * six i, by rw [e, six_add, q3_up (by omega) (by omega)], x.mul (sz_six i), y.mul (sz_six i)⟩
theorem gb.con {j k : Nat} {p : Cq} (h : gb j k p) : gb j k (conN p) := by
  obtain ⟨a, b, e, x, y⟩ := h
  exact ⟨a, -b, by rw [e, ← q3_con], x, y.neg⟩
theorem gb_zero (j : Nat) : gb j 1 0 := ⟨0, 0, by
  have p := six_pos j
  exact ((q3_zero (d := six j) (by omega)).mpr ⟨rfl, rfl⟩).symm, by unfold sz; decide, by unfold sz; decide⟩
/-- the sizes of a row: later numbers smaller -/
def wl (k c : Nat) : List Cq → Prop
  | [] => True | p :: ps => gb (1 + ps.length) (k + ps.length * c) p ∧ wl k c ps
theorem wl.mono {k c k' c' : Nat} (hk : k ≤ k') (hc : c ≤ c') : ∀ {l : List Cq}, wl k c l → wl k' c' l
  | [], _ => trivial
  | p :: ps, h => ⟨h.1.mono (Nat.add_le_add hk (Nat.mul_le_mul_left _ hc)), wl.mono hk hc h.2⟩
theorem wl.hb {k c B : Nat} : ∀ {l : List Cq}, wl k c l → k + l.length * c ≤ B → 3 * l.length + 4 ≤ B → ∀ p ∈ l, hb B p
  | [], _, _, _, p, hp => by cases hp
  | q :: qs, h, h1, h2, p, hp => by
    have e : (q :: qs).length = qs.length + 1 := rfl
    rw [e] at h1 h2
    rw [Nat.add_mul] at h1
    rcases List.mem_cons.mp hp with rfl | hp
    · exact h.1.hb (by omega) (by omega)
    · exact h.2.hb (by omega) (by omega) p hp
theorem gb.upc {k c n : Nat} {p : Cq} (hc : 4 ≤ c) (h : gb 1 k p) : gb (1 + n) (k + n * c) p := by
  by_cases z : n = 0
  · subst z; exact h.mono (by omega)
  refine (h.up n).mono ?_
  have : 4 * n ≤ n * c := by rw [Nat.mul_comm]; exact Nat.mul_le_mul_left _ hc
  omega
theorem wl_of {k c : Nat} (hc : 4 ≤ c) : ∀ {l : List Cq}, (∀ p ∈ l, gb 1 k p) → wl k c l
  | [], _ => trivial
  | p :: ps, h => ⟨(h p (List.mem_cons_self ..)).upc hc, wl_of hc fun q hq => h q (List.mem_cons_of_mem _ hq)⟩
theorem wl_stp {k c kx : Nat} {x : Cq} (hx : gb 1 kx x) (hc : kx + 1 ≤ c) (hk : 1 ≤ k) : ∀ {l : List Cq}, wl k c l → ∃ h t, stp x l = h :: t ∧ t.length = l.length ∧ gb (1 + l.length) (k + l.length * c) h ∧ wl (k + 1) c t
  | [], _ => ⟨0, [], by show [(0 : Cq) + 0] = [0]; rw [show (0 : Cq) + 0 = 0 by grind], rfl, (gb_zero 1).mono (by simpa using hk), trivial⟩
  | q :: qs, w => by
    obtain ⟨h, t, e, el, g, w2⟩ := wl_stp hx hc hk w.2
    refine ⟨q * x, (h + q) :: t, by rw [stp_cons, e]; rfl, by show t.length + 1 = qs.length + 1; rw [el], ?_, ?_⟩
    · have := w.1.mul hx
      refine this.mono ?_
      show _ ≤ k + (qs.length + 1) * c
      rw [Nat.add_mul]
      omega
    · refine ⟨?_, w2⟩
      rw [el]
      exact (g.add w.1).mono (by omega)
theorem wl_sh {k c kx : Nat} {x : Cq} (hx : gb 1 kx x) (hc : kx + 1 ≤ c) (h4 : 4 ≤ c) (hk : 1 ≤ k) : ∀ {l : List Cq}, (∀ p ∈ l, gb 1 k p) → wl (k + l.length) c (shN l x)
  | [], _ => trivial
  | p :: ps, w => by
    have ih := wl_sh hx hc h4 hk fun q hq => w q (List.mem_cons_of_mem _ hq)
    obtain ⟨h, t, e, el, g, w2⟩ := wl_stp hx hc (by omega) ih
    have el2 := shN_len ps x
    show wl _ c (adH p (stp x (shN ps x)))
    rw [e]
    refine ⟨?_, w2.mono (by show _ ≤ k + (ps.length + 1); omega) (Nat.le_refl _)⟩
    rw [el]
    have gp : gb (1 + (shN ps x).length) (k + ps.length + (shN ps x).length * c) p := ((w p (List.mem_cons_self ..)).upc h4).mono (by omega)
    exact (g.add gp).mono (by show _ ≤ k + (ps.length + 1) + _; omega)
theorem wl_pass {k c kx : Nat} {x : Cq} (hx : gb 1 kx x) (hc : kx + 1 ≤ c) : ∀ {l : List Cq}, wl k c l → wl k (c + 1) (passN x l)
  | [], _ => trivial
  | [p], w => ⟨by
      show gb 1 _ (p + x * 0)
      rw [show p + x * 0 = p by grind]
      exact w.1.mono (by show k + 0 * c ≤ k + 0 * (c + 1); omega), trivial⟩
  | p :: q :: qs, w => by
    have ih := wl_pass hx hc w.2
    refine ⟨?_, ih⟩
    have g := hx.mul ih.1
    have ll : (passN x (q :: qs)).length = qs.length + 1 := pass_len x _
    have l2 : (passN x qs).length = qs.length := pass_len x _
    rw [ll]
    rw [l2] at g
    rw [show 1 + (1 + qs.length) = 1 + (qs.length + 1) by omega] at g
    have e1 : (qs.length + 1) * (c + 1) = qs.length * (c + 1) + (c + 1) := by rw [Nat.add_mul]; omega
    have e2 : (qs.length + 1) * (c + 1) = (qs.length + 1) * c + (qs.length + 1) := by rw [Nat.mul_add]; omega
    have e3 : (q :: qs).length = qs.length + 1 := rfl
    have a := w.1
    rw [e3] at a
    exact ((a.mono (by omega : _ ≤ k + (qs.length + 1) * c)).mono (by omega : _ ≤ k + (qs.length + 1) * (c + 1) - 1)).add (g.mono (by omega : _ ≤ k + (qs.length + 1) * (c + 1) - 1)) |>.mono (by omega)
/-- the head stands among the rest -/
theorem pass_sub (x : Cq) (b : List Cq) : ∀ (a : List Cq), ∀ q ∈ passN x b, q ∈ passN x (a ++ b)
  | [], q, h => h
  | p :: ps, q, h => List.mem_cons_of_mem _ (pass_sub x b ps q h)
end PD

set_option Elab.async false
set_option linter.all false
set_option autoImplicit false
set_option maxRecDepth 100000
set_option maxHeartbeats 1000000
/-! NR8: rows turned back, mirrored: pure mathematics. -/
namespace PD
def lastOk (ps : List Cq) : Prop := ps = [] ∨ ∃ qs q, ps = qs ++ [q] ∧ q ≠ 0
theorem cf_app {a b : List Cq} {i : Nat} : cf (a ++ b) i = if i < a.length then cf a i else cf b (i - a.length) := by
  unfold cf
  by_cases h : i < a.length
  · rw [if_pos h, List.getElem?_append_left h]
  · rw [if_neg h, List.getElem?_append_right (by omega)]
theorem cf_out {l : List Cq} {i : Nat} (h : l.length ≤ i) : cf l i = 0 := by
  unfold cf; rw [List.getElem?_eq_none h]; rfl
/-- rows without a nought at their end, alike in all places, are alike -/
theorem lastOk_ext {l m : List Cq} (hl : lastOk l) (hm : lastOk m) (e : ∀ i, cf l i = cf m i) : l = m := by
  have key : ∀ {l m : List Cq}, lastOk l → (∀ i, cf l i = cf m i) → l.length ≤ m.length := fun {l m} hl e => by
    rcases hl with rfl | ⟨qs, q, rfl, h0⟩
    · exact Nat.zero_le _
    · rcases Nat.lt_or_ge m.length (qs ++ [q]).length with h | h
      · exfalso
        rw [List.length_append, List.length_singleton] at h
        have e1 := e qs.length
        rw [cf_out (l := m) (by omega), cf_app, if_neg (by omega), Nat.sub_self] at e1
        exact h0 e1
      · exact h
  exact cf_ext (Nat.le_antisymm (key hl e) (key hm fun i => (e i).symm)) e
theorem pass_last (x q : Cq) : ∀ qs : List Cq, ∃ rs, rs.length = qs.length ∧ passN x (qs ++ [q]) = rs ++ [q]
  | [] => ⟨[], rfl, by show [q + x * 0] = [q]; rw [show q + x * 0 = q by grind]⟩
  | p :: ps => by
    obtain ⟨rs, l, e⟩ := pass_last x q ps
    exact ⟨_ :: rs, by simp [l], by show _ :: passN x (ps ++ [q]) = _; rw [e]; rfl⟩
theorem sh_last' (x q : Cq) : ∀ (n : Nat) (qs : List Cq), qs.length = n → ∃ rs, shN (qs ++ [q]) x = rs ++ [q]
  | 0, [], _ => ⟨[], by rw [List.nil_append, sh_pass]; show [q + x * 0] = [q]; rw [show q + x * 0 = q by grind]⟩
  | n + 1, p :: ps, h => by
    obtain ⟨rs, l, e⟩ := pass_last x q ps
    obtain ⟨ts, e2⟩ := sh_last' x q n rs (by simp at h; omega)
    exact ⟨_ :: ts, by rw [List.cons_append, sh_pass, e, e2]; rfl⟩
theorem lastOk_sh {x : Cq} {ps : List Cq} (h : lastOk ps) : lastOk (shN ps x) := by
  rcases h with rfl | ⟨qs, q, rfl, h0⟩
  · exact .inl rfl
  · obtain ⟨rs, e⟩ := sh_last' x q _ qs rfl
    exact .inr ⟨rs, q, e, h0⟩
theorem conN_ne {q : Cq} (h : q ≠ 0) : conN q ≠ 0 := fun e => h (con_z e)
theorem lastOk_con {ps : List Cq} (h : lastOk ps) : lastOk (ps.map conN) := by
  rcases h with rfl | ⟨qs, q, rfl, h0⟩
  · exact .inl rfl
  · exact .inr ⟨qs.map conN, conN q, by rw [List.map_append]; rfl, conN_ne h0⟩
theorem con_con_map (ps : List Cq) : (ps.map conN).map conN = ps := by
  rw [List.map_map]
  conv => rhs; rw [← List.map_id ps]
  exact List.map_congr_left fun p _ => con_con p
theorem ev_con (x : Cq) : ∀ ps : List Cq, evN (ps.map conN) (conN x) = conN (evN ps x)
  | [] => con_zero.symm
  | p :: ps => by
    show evN (ps.map conN) (conN x) * conN x + conN p = conN (evN ps x * x + p)
    rw [ev_con x ps, con_add, con_mul]
/-- the first n + 1 terms -/
def smN (f : Nat → Cq) (x : Cq) : Nat → Cq
  | 0 => f 0 | n + 1 => smN f x n + f (n + 1) * x ^ (n + 1)
theorem sm_shift (f : Nat → Cq) (x : Cq) : ∀ n, smN f x (n + 1) = smN (fun i => f (i + 1)) x n * x + f 0
  | 0 => by show f 0 + f (0 + 1) * x ^ (0 + 1) = f (0 + 1) * x + f 0; grind
  | n + 1 => by
    show smN f x (n + 1) + f (n + 1 + 1) * x ^ (n + 1 + 1) = (smN (fun i => f (i + 1)) x n + f (n + 1 + 1) * x ^ (n + 1)) * x + f 0
    rw [sm_shift f x n]
    grind
theorem sm_zero (x : Cq) : ∀ n, smN (fun _ => 0) x n = 0
  | 0 => rfl
  | n + 1 => by show smN (fun _ => 0) x n + 0 * x ^ (n + 1) = 0; rw [sm_zero x n]; grind
theorem cf_nil_fun : cf [] = fun _ => 0 := rfl
theorem sm_ev (x : Cq) : ∀ (ps : List Cq) (n : Nat), ps.length ≤ n + 1 → smN (cf ps) x n = evN ps x
  | [], n, _ => sm_zero x n
  | [p], 0, _ => by show p = 0 * x + p; grind
  | p :: ps, n + 1, h => by
    rw [sm_shift]
    show smN (cf ps) x n * x + p = evN ps x * x + p
    rw [sm_ev x ps n (by simpa using h)]
/-- mirrored, from the power n down -/
def tuN (ps : List Cq) (n : Nat) : List Cq := (List.range (n + 1)).map fun i => conN (cf ps (n - i))
theorem tuN_len (ps : List Cq) (n : Nat) : (tuN ps n).length = n + 1 := by unfold tuN; rw [List.length_map, List.length_range]
theorem tuN_cf {ps : List Cq} {n i : Nat} (h : i ≤ n) : cf (tuN ps n) i = conN (cf ps (n - i)) := by
  unfold cf
  rw [List.getElem?_eq_getElem (by rw [tuN_len]; omega)]
  unfold tuN
  rw [List.getElem_map, List.getElem_range]
  rfl
theorem tuN_succ (ps : List Cq) (n : Nat) : tuN ps (n + 1) = conN (cf ps (n + 1)) :: tuN ps n := by
  unfold tuN
  rw [List.range_succ_eq_map, List.map_cons, List.map_map]
  refine congr (congrArg _ rfl) (List.map_congr_left fun i _ => ?_)
  show conN (cf ps (n + 1 - (i + 1))) = _
  rw [Nat.add_sub_add_right]
theorem ev_turn {u : Cq} (hu : u * conN u = 1) (ps : List Cq) : ∀ n, evN (tuN ps n) u = conN (smN (cf ps) u n) * u ^ n
  | 0 => by show 0 * u + conN (cf ps 0) = conN (cf ps 0) * u ^ 0; grind
  | n + 1 => by
    have hp : ∀ n : Nat, conN (u ^ n) * u ^ n = 1 := fun n => by
      induction n with
      | zero => have : (u ^ 0 : Cq) = 1 := by grind
                rw [this, con_one]; grind
      | succ n ih =>
        have : (u ^ (n + 1) : Cq) = u ^ n * u := by grind
        rw [this, con_mul]
        grind
    rw [tuN_succ]
    show evN (tuN ps n) u * u + conN (cf ps (n + 1)) = conN (smN (cf ps) u n + cf ps (n + 1) * u ^ (n + 1)) * u ^ (n + 1)
    rw [ev_turn hu ps n, con_add, con_mul]
    have h1 := hp (n + 1)
    have h2 : (u ^ (n + 1) : Cq) = u ^ n * u := by grind
    grind
theorem ev_zeros (x : Cq) : ∀ k : Nat, evN (List.replicate k 0) x = 0
  | 0 => rfl
  | k + 1 => by
    show evN (List.replicate k 0) x * x + 0 = 0
    rw [ev_zeros x k]; grind
/-- numbers alike in all places: one value -/
theorem ev_cf {l m : List Cq} {x : Cq} (e : ∀ i, cf l i = cf m i) : evN l x = evN m x := by
  rw [← sm_ev x l (l.length + m.length) (by omega), ← sm_ev x m (l.length + m.length) (by omega), show cf l = cf m from funext e]
end PD

set_option Elab.async false
set_option linter.all false
set_option autoImplicit false
set_option maxRecDepth 100000
set_option maxHeartbeats 1000000
/-! NR9: rows multiplied: pure mathematics. -/
namespace PD
def addAt (f : List Cq) (k : Nat) (z : Cq) : List Cq := f.set k (cf f k + z)
theorem addAt_len (f : List Cq) (k : Nat) (z : Cq) : (addAt f k z).length = f.length := List.length_set
/-- one number times a row, added from place j on -/
def inF (p : Cq) : List Cq → Nat → List Cq → List Cq
  | f, _, [] => f | f, j, q :: qs => inF p (addAt f j (p * q)) (j + 1) qs
def outF (qs : List Cq) : List Cq → Nat → List Cq → List Cq
  | f, _, [] => f | f, i, p :: ps => outF qs (inF p f i qs) (i + 1) ps
def mulL (ps qs : List Cq) : List Cq := outF qs (List.replicate (ps.length + qs.length - 1) 0) 0 ps
theorem inF_len (p : Cq) : ∀ (qs f : List Cq) (j : Nat), (inF p f j qs).length = f.length
  | [], f, j => rfl
  | q :: qs, f, j => by show (inF p (addAt f j (p * q)) (j + 1) qs).length = _; rw [inF_len p qs, addAt_len]
theorem outF_len (qs : List Cq) : ∀ (ps f : List Cq) (i : Nat), (outF qs f i ps).length = f.length
  | [], f, i => rfl
  | p :: ps, f, i => by show (outF qs (inF p f i qs) (i + 1) ps).length = _; rw [outF_len qs ps, inF_len]
theorem ev_addAt (x z : Cq) : ∀ (f : List Cq) (k : Nat), k < f.length → evN (addAt f k z) x = evN f x + z * x ^ k
  | [], k, h => absurd h (by simp)
  | p :: ps, 0, _ => by
    show evN ps x * x + (p + z) = evN ps x * x + p + z * x ^ 0
    grind
  | p :: ps, k + 1, h => by
    have e : addAt (p :: ps) (k + 1) z = p :: addAt ps k z := by
      unfold addAt
      rw [cf_consS]; rfl
    rw [e]
    show evN (addAt ps k z) x * x + p = evN ps x * x + p + z * x ^ (k + 1)
    rw [ev_addAt x z ps k (by simpa using h)]
    grind
theorem ev_inF (x p : Cq) : ∀ (qs f : List Cq) (j : Nat), j + qs.length ≤ f.length → evN (inF p f j qs) x = evN f x + p * evN qs x * x ^ j
  | [], f, j, _ => by show evN f x = evN f x + p * 0 * x ^ j; grind
  | q :: qs, f, j, h => by
    have h2 : j + (qs.length + 1) ≤ f.length := h
    show evN (inF p (addAt f j (p * q)) (j + 1) qs) x = evN f x + p * (evN qs x * x + q) * x ^ j
    rw [ev_inF x p qs _ (j + 1) (by rw [addAt_len]; omega), ev_addAt x _ f j (by omega)]
    grind
theorem ev_outF (x : Cq) (qs : List Cq) : ∀ (ps f : List Cq) (i : Nat), (ps ≠ [] → i + ps.length + qs.length ≤ f.length + 1) → evN (outF qs f i ps) x = evN f x + evN ps x * evN qs x * x ^ i
  | [], f, i, _ => by show evN f x = evN f x + 0 * evN qs x * x ^ i; grind
  | p :: ps, f, i, h => by
    have h2 : i + (ps.length + 1) + qs.length ≤ f.length + 1 := h (by simp)
    show evN (outF qs (inF p f i qs) (i + 1) ps) x = evN f x + (evN ps x * x + p) * evN qs x * x ^ i
    rw [ev_outF x qs ps _ (i + 1) (fun _ => by rw [inF_len]; omega), ev_inF x p qs f i (by omega)]
    grind
theorem ev_mulL (x : Cq) {ps qs : List Cq} (h : ps ≠ []) (h' : qs ≠ []) : evN (mulL ps qs) x = evN ps x * evN qs x := by
  have l1 : 0 < ps.length := List.length_pos_iff.mpr h
  have l2 : 0 < qs.length := List.length_pos_iff.mpr h'
  unfold mulL
  rw [ev_outF x qs ps _ 0 (fun _ => by rw [List.length_replicate]; omega), ev_zeros]
  grind
/-- sizes -/
theorem gb_addAt {j k : Nat} {z : Cq} {f : List Cq} (hf : ∀ p ∈ f, gb j k p) (hz : gb j k z) (h1 : 1 ≤ k) (i : Nat) : ∀ p ∈ addAt f i z, gb j (k + 1) p := fun p hp => by
  rcases List.mem_or_eq_of_mem_set hp with h | h
  · exact (hf p h).mono (by omega)
  · rw [h]
    refine gb.add ?_ hz
    unfold cf
    cases e : f[i]? with
    | none => exact (gb_zero j).mono h1
    | some q => exact hf q (List.mem_of_getElem? e)
theorem gb_inF {k : Nat} {p : Cq} (hp : gb 1 6 p) : ∀ (qs f : List Cq) (j k : Nat), 13 ≤ k → (∀ q ∈ qs, gb 1 6 q) → (∀ q ∈ f, gb 2 k q) → ∀ q ∈ inF p f j qs, gb 2 (k + qs.length) q
  | [], f, j, k, _, _, hf => hf
  | q :: qs, f, j, k, h, hq, hf => fun r hr => by
    have g : gb 2 13 (p * q) := hp.mul (hq q (List.mem_cons_self ..))
    have := gb_inF (k := k) hp qs _ (j + 1) (k + 1) (by omega) (fun z hz => hq z (List.mem_cons_of_mem _ hz)) (gb_addAt hf (g.mono h) (by omega) j) r hr
    exact this.mono (by show _ ≤ k + (qs.length + 1); omega)
theorem gb_outF {qs : List Cq} (hq : ∀ q ∈ qs, gb 1 6 q) : ∀ (ps f : List Cq) (i k : Nat), 13 ≤ k → (∀ p ∈ ps, gb 1 6 p) → (∀ q ∈ f, gb 2 k q) → ∀ q ∈ outF qs f i ps, gb 2 (k + ps.length * qs.length) q
  | [], f, i, k, _, _, hf => fun q h => (hf q h).mono (by omega)
  | p :: ps, f, i, k, h, hp, hf => fun r hr => by
    have := gb_outF hq ps _ (i + 1) (k + qs.length) (by omega) (fun z hz => hp z (List.mem_cons_of_mem _ hz)) (gb_inF (k := k) (hp p (List.mem_cons_self ..)) qs f i k h hq hf) r hr
    refine this.mono ?_
    show _ ≤ k + (ps.length + 1) * qs.length
    rw [Nat.add_mul]; omega
end PD

set_option Elab.async false
set_option linter.all false
set_option autoImplicit false
set_option maxRecDepth 100000
set_option maxHeartbeats 1000000
/-! NR10: rows over one common number: pure mathematics. -/
namespace PD
def dnm (p : Cq) : Int := (t3 p).2.2
def lowS (low d : Int) : Int := low / (Int.gcd low d : Nat) * d
def lowF : Int → List Cq → Int
  | low, [] => low | low, p :: ps => lowF (lowS low (dnm p)) ps
theorem lowS_facts {low d : Int} (h : 0 < low) (hd : 0 < d) : 0 < lowS low d ∧ low ∣ lowS low d ∧ d ∣ lowS low d ∧ lowS low d ≤ low * d := by
  have g1 : ((Int.gcd low d : Nat) : Int) ∣ low := Int.gcd_dvd_left ..
  have g2 : ((Int.gcd low d : Nat) : Int) ∣ d := Int.gcd_dvd_right ..
  have g0 : 0 < ((Int.gcd low d : Nat) : Int) := by
    have := Int.gcd_pos_of_ne_zero_left d (show low ≠ 0 by omega)
    omega
  obtain ⟨a, ha⟩ := g1
  obtain ⟨b, hb⟩ := g2
  unfold lowS
  generalize ((Int.gcd low d : Nat) : Int) = g at *
  have e : low / g = a := by rw [ha]; exact Int.mul_ediv_cancel_left a (by omega)
  rw [e]
  have a0 : 0 < a := by
    rcases Int.lt_or_le 0 a with h1 | h1
    · exact h1
    · have : g * a ≤ 0 := Int.mul_nonpos_of_nonneg_of_nonpos (by omega) h1
      omega
  refine ⟨Int.mul_pos a0 hd, ⟨b, by rw [ha, hb]; grind⟩, ⟨a, Int.mul_comm ..⟩, ?_⟩
  have : a * 1 ≤ a * g := Int.mul_le_mul_of_nonneg_left (by omega) (by omega)
  have h3 : a ≤ low := by rw [ha, Int.mul_comm]; omega
  exact Int.mul_le_mul_of_nonneg_right h3 (by omega)
theorem lowF_facts : ∀ (ps : List Cq) (low : Int), 0 < low → 0 < lowF low ps ∧ low ∣ lowF low ps ∧ ∀ p ∈ ps, dnm p ∣ lowF low ps
  | [], low, h => ⟨h, Int.dvd_refl _, fun p hp => by cases hp⟩
  | p :: ps, low, h => by
    obtain ⟨a, b, c, _⟩ := lowS_facts (d := dnm p) h (t3_pos p)
    obtain ⟨x, y, z⟩ := lowF_facts ps (lowS low (dnm p)) a
    refine ⟨x, Int.dvd_trans b y, fun q hq => ?_⟩
    rcases List.mem_cons.mp hq with rfl | hq
    · exact Int.dvd_trans c y
    · exact z q hq
theorem q3_low {p : Cq} {low : Int} (h : 0 < low) (hd : dnm p ∣ low) : q3 ((t3 p).1 * (low / dnm p)) ((t3 p).2.1 * (low / dnm p)) low = p := by
  have d0 : 0 < dnm p := t3_pos p
  obtain ⟨c, hc⟩ := hd
  have e : low / dnm p = c := by rw [hc]; exact Int.mul_ediv_cancel_left c (by omega)
  have c0 : c ≠ 0 := fun e => by rw [e] at hc; omega
  rw [e]
  conv => lhs; rw [hc]
  rw [q3_up (by omega) c0]
  exact t3_q3 p
end PD

set_option Elab.async false
set_option linter.all false
set_option autoImplicit false
set_option maxRecDepth 100000
set_option maxHeartbeats 1000000
/-! NR11: rows multiplied either way round: pure mathematics. -/
namespace PD
def inC (p : Cq) (n : Nat) : Nat → List Cq → Cq
  | _, [] => 0 | j, q :: qs => (if n = j then p * q else 0) + inC p n (j + 1) qs
def outC (n : Nat) (qs : List Cq) : Nat → List Cq → Cq
  | _, [] => 0 | i, p :: ps => inC p n i qs + outC n qs (i + 1) ps
theorem cf_addAt (f : List Cq) (k n : Nat) (z : Cq) (h : k < f.length) : cf (addAt f k z) n = cf f n + (if n = k then z else 0) := by
  unfold addAt cf
  by_cases e : n = k
  · subst e
    rw [List.getElem?_set_self h, if_pos rfl]; rfl
  · rw [List.getElem?_set_ne (Ne.symm e), if_neg e]
    grind
theorem cf_inF (p : Cq) (n : Nat) : ∀ (qs f : List Cq) (j : Nat), j + qs.length ≤ f.length → cf (inF p f j qs) n = cf f n + inC p n j qs
  | [], f, j, _ => by show cf f n = cf f n + 0; grind
  | q :: qs, f, j, h => by
    have h2 : j + (qs.length + 1) ≤ f.length := h
    show cf (inF p (addAt f j (p * q)) (j + 1) qs) n = cf f n + ((if n = j then p * q else 0) + inC p n (j + 1) qs)
    rw [cf_inF p n qs _ (j + 1) (by rw [addAt_len]; omega), cf_addAt _ _ _ _ (by omega)]
    grind
theorem cf_outF (qs : List Cq) (n : Nat) : ∀ (ps f : List Cq) (i : Nat), (ps ≠ [] → i + ps.length + qs.length ≤ f.length + 1) → cf (outF qs f i ps) n = cf f n + outC n qs i ps
  | [], f, i, _ => by show cf f n = cf f n + 0; grind
  | p :: ps, f, i, h => by
    have h2 : i + (ps.length + 1) + qs.length ≤ f.length + 1 := h (by simp)
    show cf (outF qs (inF p f i qs) (i + 1) ps) n = cf f n + (inC p n i qs + outC n qs (i + 1) ps)
    rw [cf_outF qs n ps _ (i + 1) (fun _ => by rw [inF_len]; omega), cf_inF p n qs f i (by omega)]
    grind
theorem outC_nil (n : Nat) : ∀ (ps : List Cq) (i : Nat), outC n [] i ps = 0
  | [], i => rfl
  | p :: ps, i => by show (0 : Cq) + outC n [] (i + 1) ps = 0; rw [outC_nil n ps]; grind
theorem outC_cons (n : Nat) (q : Cq) (qs : List Cq) : ∀ (ps : List Cq) (i : Nat), outC n (q :: qs) i ps = inC q n i ps + outC n qs (i + 1) ps
  | [], i => by show (0 : Cq) = 0 + 0; grind
  | p :: ps, i => by
    show ((if n = i then p * q else 0) + inC p n (i + 1) qs) + outC n (q :: qs) (i + 1) ps = ((if n = i then q * p else 0) + inC q n (i + 1) ps) + (inC p n (i + 1) qs + outC n qs (i + 1 + 1) ps)
    rw [outC_cons n q qs ps (i + 1)]
    have : p * q = q * p := by grind
    rw [this]
    grind
theorem outC_comm (n : Nat) : ∀ (ps qs : List Cq) (i : Nat), outC n qs i ps = outC n ps i qs
  | [], qs, i => by rw [outC_nil]; rfl
  | p :: ps, qs, i => by
    show inC p n i qs + outC n qs (i + 1) ps = outC n (p :: ps) i qs
    rw [outC_cons, outC_comm n ps qs (i + 1)]
theorem mulL_len (ps qs : List Cq) : (mulL ps qs).length = ps.length + qs.length - 1 := by
  unfold mulL; rw [outF_len, List.length_replicate]
theorem cf_zeros (m n : Nat) : cf (List.replicate m (0 : Cq)) n = 0 := by
  unfold cf
  rw [List.getElem?_replicate]
  split <;> rfl
theorem cf_mulL (ps qs : List Cq) (n : Nat) : cf (mulL ps qs) n = outC n qs 0 ps := by
  unfold mulL
  rw [cf_outF qs n ps _ 0 (fun h => by
    have : 0 < ps.length := List.length_pos_iff.mpr h
    rw [List.length_replicate]; omega), cf_zeros]
  grind
theorem ext_cf {a b : List Cq} (hl : a.length = b.length) (h : ∀ n, cf a n = cf b n) : a = b := by
  refine List.ext_getElem hl fun i h1 h2 => ?_
  have := h i
  unfold cf at this
  rw [List.getElem?_eq_getElem h1, List.getElem?_eq_getElem h2] at this
  exact this
theorem mulL_comm (ps qs : List Cq) : mulL ps qs = mulL qs ps :=
  ext_cf (by rw [mulL_len, mulL_len]; omega) fun n => by rw [cf_mulL, cf_mulL, outC_comm]
theorem gb_mulL {ps qs : List Cq} (hp : ∀ p ∈ ps, gb 1 6 p) (hq : ∀ q ∈ qs, gb 1 6 q) : ∀ q ∈ mulL ps qs, gb 2 (13 + ps.length * qs.length) q :=
  gb_outF hq ps _ 0 13 (by decide) hp fun q hq => by
    rw [List.eq_of_mem_replicate hq]; exact (gb_zero 2).mono (by decide)
end PD

set_option Elab.async false
set_option linter.all false
set_option autoImplicit false
set_option maxRecDepth 100000
set_option maxHeartbeats 1000000
/-! NP1: rows as sequences of coefficients: products, degrees, division. Pure mathematics. -/
namespace PD
abbrev Srs := Nat → Cq
def tlS (f : Srs) : Srs := fun i => f (i + 1)
/-- the product's coefficients -/
def cv (f g : Srs) : Nat → Cq
  | 0 => f 0 * g 0
  | n + 1 => f 0 * g (n + 1) + cv (tlS f) g n
def adS (f g : Srs) : Srs := fun i => f i + g i
def sbS (f g : Srs) : Srs := fun i => f i - g i
def scS (c : Cq) (f : Srs) : Srs := fun i => c * f i
def zS : Srs := fun _ => 0
def oS : Srs := fun i => if i = 0 then 1 else 0
section
variable {f g h : Srs} {c : Cq} {m n : Nat}
theorem cv_congr {f' g' : Srs} (e1 : f = f') (e2 : g = g') : cv f g = cv f' g' := by rw [e1, e2]
theorem cv_add_l (f f' g : Srs) : ∀ n, cv (adS f f') g n = cv f g n + cv f' g n
  | 0 => by show (f 0 + f' 0) * g 0 = f 0 * g 0 + f' 0 * g 0; grind
  | n + 1 => by
    show (f 0 + f' 0) * g (n + 1) + cv (tlS (adS f f')) g n = (f 0 * g (n + 1) + cv (tlS f) g n) + (f' 0 * g (n + 1) + cv (tlS f') g n)
    have e := cv_add_l (tlS f) (tlS f') g n
    rw [show tlS (adS f f') = adS (tlS f) (tlS f') from rfl, e]; grind
theorem cv_add_r (f g g' : Srs) : ∀ n, cv f (adS g g') n = cv f g n + cv f g' n
  | 0 => by show f 0 * (g 0 + g' 0) = f 0 * g 0 + f 0 * g' 0; grind
  | n + 1 => by
    show f 0 * (g (n + 1) + g' (n + 1)) + cv (tlS f) (adS g g') n = (f 0 * g (n + 1) + cv (tlS f) g n) + (f 0 * g' (n + 1) + cv (tlS f) g' n)
    rw [cv_add_r (tlS f) g g' n]; grind
theorem cv_sc_l (c : Cq) (f g : Srs) : ∀ n, cv (scS c f) g n = c * cv f g n
  | 0 => by show c * f 0 * g 0 = c * (f 0 * g 0); grind
  | n + 1 => by
    show c * f 0 * g (n + 1) + cv (tlS (scS c f)) g n = c * (f 0 * g (n + 1) + cv (tlS f) g n)
    rw [show tlS (scS c f) = scS c (tlS f) from rfl, cv_sc_l c (tlS f) g n]; grind
theorem cv_sc_r (c : Cq) (f g : Srs) : ∀ n, cv f (scS c g) n = c * cv f g n
  | 0 => by show f 0 * (c * g 0) = c * (f 0 * g 0); grind
  | n + 1 => by
    show f 0 * (c * g (n + 1)) + cv (tlS f) (scS c g) n = c * (f 0 * g (n + 1) + cv (tlS f) g n)
    rw [cv_sc_r c (tlS f) g n]; grind
theorem cv_z_l (g : Srs) : ∀ n, cv zS g n = 0
  | 0 => by show (0 : Cq) * g 0 = 0; grind
  | n + 1 => by
    show (0 : Cq) * g (n + 1) + cv (tlS zS) g n = 0
    rw [show tlS zS = zS from rfl, cv_z_l g n]; grind
theorem cv_one_l (g : Srs) : ∀ n, cv oS g n = g n
  | 0 => by show (1 : Cq) * g 0 = g 0; grind
  | n + 1 => by
    show (1 : Cq) * g (n + 1) + cv (tlS oS) g n = g (n + 1)
    rw [show tlS oS = zS from rfl, cv_z_l g n]; grind
/-- from the other end -/
theorem cv_r : ∀ (n : Nat) (f g : Srs), cv f g (n + 1) = cv f (tlS g) n + f (n + 1) * g 0
  | 0, f, g => by
    show f 0 * g 1 + f 1 * g 0 = f 0 * g 1 + f 1 * g 0
    rfl
  | n + 1, f, g => by
    show f 0 * g (n + 2) + cv (tlS f) g (n + 1) = (f 0 * g (n + 2) + cv (tlS f) (tlS g) n) + f (n + 2) * g 0
    rw [cv_r n (tlS f) g]
    show f 0 * g (n + 2) + (cv (tlS f) (tlS g) n + f (n + 2) * g 0) = _
    grind
theorem cv_comm : ∀ (n : Nat) (f g : Srs), cv f g n = cv g f n
  | 0, f, g => by show f 0 * g 0 = g 0 * f 0; grind
  | n + 1, f, g => by
    rw [cv_r n f g]
    show _ = g 0 * f (n + 1) + cv (tlS g) f n
    rw [cv_comm n f (tlS g)]; grind
theorem tl_cv (f g : Srs) : tlS (cv f g) = adS (scS (f 0) (tlS g)) (cv (tlS f) g) := rfl
theorem cv_assoc : ∀ (n : Nat) (f g h : Srs), cv (cv f g) h n = cv f (cv g h) n
  | 0, f, g, h => by show f 0 * g 0 * h 0 = f 0 * (g 0 * h 0); grind
  | n + 1, f, g, h => by
    show f 0 * g 0 * h (n + 1) + cv (tlS (cv f g)) h n = f 0 * (g 0 * h (n + 1) + cv (tlS g) h n) + cv (tlS f) (cv g h) n
    rw [tl_cv, cv_add_l, cv_sc_l, cv_assoc n (tlS f) g h]; grind
/-! ### degrees -/
/-- nothing from n on -/
def dg (f : Srs) (n : Nat) : Prop := ∀ i, n ≤ i → f i = 0
theorem dg.mono (h : dg f m) (le : m ≤ n) : dg f n := fun i hi => h i (Nat.le_trans le hi)
theorem dg_zero (h : dg f 0) : f = zS := funext fun i => h i (Nat.zero_le _)
theorem dg.tl (h : dg f (m + 1)) : dg (tlS f) m := fun i hi => h (i + 1) (by omega)
theorem dg_cv : ∀ (m : Nat) {f g : Srs} {n : Nat}, dg f m → dg g n → dg (cv f g) (m + n - 1)
  | 0, f, g, n, hf, _ => fun i _ => by rw [dg_zero hf, cv_z_l]
  | m + 1, f, g, n, hf, hg => fun i hi => by
    cases i with
    | zero =>
      show f 0 * g 0 = 0
      rw [hg 0 (by omega)]; grind
    | succ i =>
      show f 0 * g (i + 1) + cv (tlS f) g i = 0
      rw [hg (i + 1) (by omega)]
      by_cases hm : m = 0
      · subst hm
        rw [dg_zero hf.tl, cv_z_l]; grind
      · rw [dg_cv m hf.tl hg i (by omega)]; grind
/-- the last number of a product -/
theorem cv_top : ∀ (m : Nat) {f g : Srs} {n : Nat}, dg f (m + 1) → dg g (n + 1) → cv f g (m + n) = f m * g n
  | 0, f, g, n, hf, hg => by
    have : f = scS (f 0) oS := funext fun i => by
      cases i with
      | zero => show f 0 = f 0 * 1; grind
      | succ i => show f (i + 1) = f 0 * 0; rw [hf (i + 1) (by omega)]; grind
    rw [this, cv_sc_l, Nat.zero_add, cv_one_l]
    show f 0 * g n = f 0 * 1 * g n
    grind
  | m + 1, f, g, n, hf, hg => by
    rw [show m + 1 + n = (m + n) + 1 by omega]
    show f 0 * g (m + n + 1) + cv (tlS f) g (m + n) = f (m + 1) * g n
    rw [hg (m + n + 1) (by omega), cv_top m hf.tl hg]
    show f 0 * 0 + f (m + 1) * g n = _
    grind
/-- either nought or with a last number -/
theorem top_or : ∀ (m : Nat), dg f m → f = zS ∨ ∃ k, k < m ∧ dg f (k + 1) ∧ f k ≠ 0
  | 0, h => .inl (dg_zero h)
  | m + 1, h => by
    by_cases z : f m = 0
    · have h' : dg f m := fun i hi => by
        by_cases e : i = m
        · rw [e]; exact z
        · exact h i (by omega)
      rcases top_or m h' with h1 | ⟨k, k1, k2, k3⟩
      · exact .inl h1
      · exact .inr ⟨k, by omega, k2, k3⟩
    · exact .inr ⟨m, by omega, h, z⟩
theorem mul_ne' {a b : Cq} (ha : a ≠ 0) (hb : b ≠ 0) : a * b ≠ 0 := by grind
theorem cv_ne {N M : Nat} (hf : dg f N) (hg : dg g M) (f0 : f ≠ zS) (g0 : g ≠ zS) : cv f g ≠ zS := by
  obtain ⟨k, _, k2, k3⟩ := (top_or N hf).resolve_left f0
  obtain ⟨l, _, l2, l3⟩ := (top_or M hg).resolve_left g0
  intro e
  have := cv_top k k2 l2
  rw [e] at this
  exact mul_ne' k3 l3 this.symm
/-- division has one answer -/
theorem dv_one {q q' r r' o : Srs} {N n : Nat} (hq : dg q N) (hq' : dg q' N) (ho : dg o (n + 1)) (on : o n ≠ 0) (hr : dg r n) (hr' : dg r' n) (e : adS (cv q o) r = adS (cv q' o) r') : q = q' ∧ r = r' := by
  have hd : dg (sbS q q') N := fun i hi => by show q i - q' i = 0; rw [hq i hi, hq' i hi]; grind
  have e2 : ∀ i, cv (sbS q q') o i = r' i - r i := fun i => by
    have h1 := cv_add_l q (scS (-1) q') o i
    rw [cv_sc_l] at h1
    have h2 : adS q (scS (-1) q') = sbS q q' := funext fun j => by show q j + -1 * q' j = q j - q' j; grind
    rw [h2] at h1
    have h3 := congrFun e i
    have h4 : cv q o i + r i = cv q' o i + r' i := h3
    rw [h1]; grind
  have z : sbS q q' = zS := by
    rcases top_or N hd with h | ⟨k, _, k2, k3⟩
    · exact h
    · exfalso
      have t := cv_top k k2 ho
      rw [e2 (k + n), hr (k + n) (by omega), hr' (k + n) (by omega)] at t
      exact mul_ne' k3 on (by rw [← t]; grind)
  have qq : q = q' := funext fun i => by
    have := congrFun z i
    have : q i - q' i = 0 := this
    grind
  refine ⟨qq, funext fun i => ?_⟩
  have h3 := congrFun e i
  have h4 : cv q o i + r i = cv q' o i + r' i := h3
  rw [qq] at h4
  grind
/-- a series by its product -/
theorem sr_one {s s' o : Srs} (o0 : o 0 ≠ 0) (e : cv o s = cv o s') : s = s' := by
  have : ∀ n, ∀ i, i ≤ n → s i = s' i := by
    intro n
    induction n with
    | zero =>
      intro i hi
      rw [show i = 0 by omega]
      have := congrFun e 0
      have : o 0 * s 0 = o 0 * s' 0 := this
      grind
    | succ n ih =>
      intro i hi
      by_cases h : i ≤ n
      · exact ih i h
      · rw [show i = n + 1 by omega]
        have h1 := congrFun e (n + 1)
        have h2 : o 0 * s (n + 1) + cv (tlS o) s n = o 0 * s' (n + 1) + cv (tlS o) s' n := h1
        have h3 : ∀ (f : Srs) (k : Nat), k ≤ n → cv f s k = cv f s' k := by
          intro f k
          induction k generalizing f with
          | zero => intro _; show f 0 * s 0 = f 0 * s' 0; rw [ih 0 (by omega)]
          | succ k ih2 =>
            intro hk
            show f 0 * s (k + 1) + cv (tlS f) s k = f 0 * s' (k + 1) + cv (tlS f) s' k
            rw [ih (k + 1) hk, ih2 (tlS f) (by omega)]
        rw [h3 (tlS o) n (Nat.le_refl _)] at h2
        grind
  exact funext fun i => this i i (Nat.le_refl _)
end
end PD

set_option Elab.async false
set_option linter.all false
set_option autoImplicit false
set_option maxRecDepth 100000
set_option maxHeartbeats 1000000
/-! NP2: division of rows, step by step. Pure mathematics. -/
namespace PD
/-- times the power s -/
def shS (s : Nat) (f : Srs) : Srs := fun i => if i < s then 0 else f (i - s)
section
variable {f g h : Srs} {c : Cq} {m n : Nat}
theorem sh0 (f : Srs) : shS 0 f = f := funext fun i => by show (if i < 0 then 0 else f (i - 0)) = f i; rw [if_neg (by omega), Nat.sub_zero]
theorem tl_sh (s : Nat) (f : Srs) : tlS (shS (s + 1) f) = shS s f := funext fun i => by
  show (if i + 1 < s + 1 then (0 : Cq) else f (i + 1 - (s + 1))) = if i < s then 0 else f (i - s)
  rw [show i + 1 - (s + 1) = i - s by omega]
  by_cases h : i < s
  · rw [if_pos h, if_pos (by omega)]
  · rw [if_neg h, if_neg (by omega)]
theorem cv_sh (f g : Srs) : ∀ s, cv (shS s f) g = shS s (cv f g)
  | 0 => by rw [sh0, sh0]
  | s + 1 => funext fun i => by
    cases i with
    | zero =>
      show (0 : Cq) * g 0 = 0
      grind
    | succ i =>
      show (0 : Cq) * g (i + 1) + cv (tlS (shS (s + 1) f)) g i = (if i + 1 < s + 1 then 0 else cv f g (i + 1 - (s + 1)))
      rw [tl_sh, cv_sh f g s]
      show (0 : Cq) * g (i + 1) + (if i < s then 0 else cv f g (i - s)) = _
      rw [show i + 1 - (s + 1) = i - s by omega]
      by_cases h : i < s
      · rw [if_pos h, if_pos (by omega)]; grind
      · rw [if_neg h, if_neg (by omega)]; grind
theorem dg_cf (l : List Cq) : dg (cf l) l.length := fun i hi => by unfold cf; rw [List.getElem?_eq_none hi]; rfl
theorem cf_cons (p : Cq) (l : List Cq) : cf (p :: l) = adS (scS p oS) (shS 1 (cf l)) := funext fun i => by
  cases i with
  | zero => show p = p * 1 + 0; grind
  | succ i =>
    show cf (p :: l) (i + 1) = p * 0 + (if i + 1 < 1 then 0 else cf l (i + 1 - 1))
    rw [if_neg (by omega), Nat.add_sub_cancel, cf_consS]; grind
/-- one elimination: a row of s + 1 + d numbers, by one of d + 1 -/
def elR (r o : List Cq) (s : Nat) (n : Cq) : List Cq := (List.range (r.length - 1)).map fun i => cf r i - (if i < s then 0 else n * cf o (i - s))
def nmR (r o : List Cq) : Cq := r.getLastD 0 * (1 / o.getLastD 0)
/-- s eliminations -/
def rrF (o : List Cq) : Nat → List Cq × List Cq → List Cq × List Cq
  | 0, a => a
  | s + 1, (r, f) => rrF o s (elR r o s (nmR r o), nmR r o :: f)
theorem elR_len (r o : List Cq) (s : Nat) (n : Cq) : (elR r o s n).length = r.length - 1 := by unfold elR; rw [List.length_map, List.length_range]
theorem last_cf {l : List Cq} (h : l ≠ []) : l.getLastD 0 = cf l (l.length - 1) := by
  unfold cf
  rw [List.getLastD_eq_getLast?, List.getLast?_eq_getElem?]
theorem elR_cf {r o : List Cq} {s d : Nat} (hr : r.length = s + 1 + d) (ho : o.length = d + 1) (h0 : o.getLastD 0 ≠ 0) : cf (elR r o s (nmR r o)) = sbS (cf r) (scS (nmR r o) (shS s (cf o))) := funext fun i => by
  have one : o ≠ [] := fun e => by rw [e] at ho; cases ho
  have rne : r ≠ [] := fun e => by rw [e] at hr; simp at hr; omega
  by_cases hi : i < r.length - 1
  · show ((elR r o s (nmR r o))[i]?).getD 0 = _
    unfold elR
    rw [List.getElem?_map, List.getElem?_range hi]
    show cf r i - (if i < s then 0 else nmR r o * cf o (i - s)) = cf r i - nmR r o * (if i < s then 0 else cf o (i - s))
    by_cases h : i < s
    · rw [if_pos h, if_pos h]; grind
    · rw [if_neg h, if_neg h]
  · rw [dg_cf (elR r o s (nmR r o)) i (by rw [elR_len]; omega)]
    show 0 = cf r i - nmR r o * (if i < s then 0 else cf o (i - s))
    rw [if_neg (by omega)]
    by_cases e : i = r.length - 1
    · have e1 : i - s = o.length - 1 := by omega
      rw [e1, ← last_cf one, e, ← last_cf rne]
      unfold nmR
      generalize r.getLastD 0 = a at *
      generalize o.getLastD 0 = b at *
      grind
    · rw [dg_cf r i (by omega), dg_cf o (i - s) (by omega)]; grind
/-- what the eliminations keep -/
theorem rrF_ok {o : List Cq} {d : Nat} (ho : o.length = d + 1) (h0 : o.getLastD 0 ≠ 0) : ∀ (s : Nat) (r f : List Cq), r.length = s + d → (rrF o s (r, f)).1.length = d ∧ (rrF o s (r, f)).2.length = s + f.length ∧
    adS (cv (cf (rrF o s (r, f)).2) (cf o)) (cf (rrF o s (r, f)).1) = adS (cv (shS s (cf f)) (cf o)) (cf r)
  | 0, r, f, hr => ⟨by show r.length = d; omega, by show f.length = 0 + f.length; omega, by rw [sh0]; rfl⟩
  | s + 1, r, f, hr => by
    have e := elR_cf (s := s) (d := d) (r := r) (o := o) (by omega) ho h0
    obtain ⟨h1, h2, h3⟩ := rrF_ok ho h0 s (elR r o s (nmR r o)) (nmR r o :: f) (by rw [elR_len]; omega)
    refine ⟨h1, by show (rrF o s _).2.length = _; rw [h2, List.length_cons]; omega, ?_⟩
    show adS (cv (cf (rrF o s (elR r o s (nmR r o), nmR r o :: f)).2) (cf o)) (cf (rrF o s (elR r o s (nmR r o), nmR r o :: f)).1) = _
    rw [h3, e]
    have hs : shS s (cf (nmR r o :: f)) = adS (scS (nmR r o) (shS s oS)) (shS (s + 1) (cf f)) := funext fun i => by
      rw [cf_cons]
      show (if i < s then 0 else (nmR r o * oS (i - s) + (if i - s < 1 then 0 else cf f (i - s - 1)))) = nmR r o * (if i < s then 0 else oS (i - s)) + (if i < s + 1 then 0 else cf f (i - (s + 1)))
      rw [show i - s - 1 = i - (s + 1) by omega]
      by_cases h : i < s
      · rw [if_pos h, if_pos h, if_pos (by omega)]; grind
      · rw [if_neg h, if_neg h]
        by_cases h' : i < s + 1
        · rw [if_pos h', if_pos (by omega)]
        · rw [if_neg h', if_neg (by omega)]
    refine funext fun i => ?_
    show cv (shS s (cf (nmR r o :: f))) (cf o) i + (cf r i - nmR r o * shS s (cf o) i) = cv (shS (s + 1) (cf f)) (cf o) i + cf r i
    rw [hs, cv_add_l, cv_sc_l, cv_sh oS (cf o) s]
    have : shS s (cv oS (cf o)) i = shS s (cf o) i := by
      show (if i < s then 0 else cv oS (cf o) (i - s)) = (if i < s then 0 else cf o (i - s))
      rw [cv_one_l]
    rw [this]
    generalize nmR r o = N
    generalize shS s (cf o) i = X
    generalize cv (shS (s + 1) (cf f)) (cf o) i = Y
    grind
/-- the whole division -/
theorem dv_ok {o r : List Cq} {d : Nat} (ho : o.length = d + 1) (h0 : o.getLastD 0 ≠ 0) (hr : d ≤ r.length) : (rrF o (r.length - d) (r, [])).1.length = d ∧ adS (cv (cf (rrF o (r.length - d) (r, [])).2) (cf o)) (cf (rrF o (r.length - d) (r, [])).1) = cf r := by
  obtain ⟨h1, _, h3⟩ := rrF_ok ho h0 (r.length - d) r [] (by omega)
  refine ⟨h1, h3.trans (funext fun i => ?_)⟩
  have : shS (r.length - d) (cf []) = zS := funext fun i => by
    show (if i < r.length - d then (0 : Cq) else cf [] (i - (r.length - d))) = 0
    by_cases h : i < r.length - d
    · rw [if_pos h]
    · rw [if_neg h, cf_nil]
  show cv (shS (r.length - d) (cf [])) (cf o) i + cf r i = cf r i
  rw [this, cv_z_l]; grind
/-! ### coprime -/
theorem dg_add {a b : Nat} (h : dg f a) (h' : dg g b) : dg (adS f g) (a + b) := fun i hi => by
  show f i + g i = 0
  rw [h i (by omega), h' i (by omega)]; grind
theorem dg_sb {a b : Nat} (h : dg f a) (h' : dg g b) : dg (sbS f g) (a + b) := fun i hi => by
  show f i - g i = 0
  rw [h i (by omega), h' i (by omega)]; grind
theorem dg_sc {a : Nat} (h : dg f a) (c : Cq) : dg (scS c f) a := fun i hi => by
  show c * f i = 0
  rw [h i hi]; grind
theorem dg_o : dg oS 1 := fun i hi => by show (if i = 0 then (1 : Cq) else 0) = 0; rw [if_neg (by omega)]
def fin (f : Srs) : Prop := ∃ N, dg f N
theorem fin.add (h : fin f) (h' : fin g) : fin (adS f g) := by
  obtain ⟨a, x⟩ := h
  obtain ⟨b, y⟩ := h'
  exact ⟨_, dg_add x y⟩
theorem fin.sub (h : fin f) (h' : fin g) : fin (sbS f g) := by
  obtain ⟨a, x⟩ := h
  obtain ⟨b, y⟩ := h'
  exact ⟨_, dg_sb x y⟩
theorem fin.sc (h : fin f) (c : Cq) : fin (scS c f) := by
  obtain ⟨a, x⟩ := h
  exact ⟨_, dg_sc x c⟩
theorem fin.cv (h : fin f) (h' : fin g) : fin (cv f g) := by
  obtain ⟨a, x⟩ := h
  obtain ⟨b, y⟩ := h'
  exact ⟨_, dg_cv a x y⟩
theorem fin_o : fin oS := ⟨1, dg_o⟩
theorem fin_z : fin zS := ⟨0, fun _ _ => rfl⟩
theorem fin_cf (l : List Cq) : fin (cf l) := ⟨_, dg_cf l⟩
def cop (f g : Srs) : Prop := ∃ (u v : Srs), fin u ∧ fin v ∧ adS (cv u f) (cv v g) = oS
theorem cop.symm (h : cop f g) : cop g f := by
  obtain ⟨u, v, hu, hv, e⟩ := h
  refine ⟨v, u, hv, hu, ?_⟩
  rw [← e]
  exact funext fun i => by show cv v g i + cv u f i = cv u f i + cv v g i; grind
/-- one step of Euclid's -/
theorem cop.step (h : cop f g) {q : Srs} (hq : fin q) : cop g (sbS f (cv q g)) := by
  obtain ⟨u, v, hu, hv, e⟩ := h
  refine ⟨adS v (PD.cv u q), u, hv.add (hu.cv hq), hu, ?_⟩
  rw [← e]
  refine funext fun i => ?_
  show PD.cv (adS v (PD.cv u q)) g i + PD.cv u (sbS f (PD.cv q g)) i = PD.cv u f i + PD.cv v g i
  have s : sbS f (PD.cv q g) = adS f (scS (-1) (PD.cv q g)) := funext fun j => by show f j - PD.cv q g j = f j + -1 * PD.cv q g j; grind
  rw [s, cv_add_l, cv_add_r, cv_sc_r, ← cv_assoc]
  grind
theorem cop.sc (h : cop f g) {c : Cq} (hc : c ≠ 0) : cop f (scS c g) := by
  obtain ⟨u, v, hu, hv, e⟩ := h
  refine ⟨u, scS (1 / c) v, hu, hv.sc _, ?_⟩
  rw [← e]
  refine funext fun i => ?_
  show cv u f i + cv (scS (1 / c) v) (scS c g) i = cv u f i + cv v g i
  rw [cv_sc_l, cv_sc_r]
  generalize cv v g i = X
  grind
theorem cop.mul (h1 : cop f g) (h2 : cop f h) (ff : fin f) (fg : fin g) (fh : fin h) : cop f (cv g h) := by
  obtain ⟨u, v, hu, hv, e⟩ := h1
  obtain ⟨u', v', hu', hv', e'⟩ := h2
  refine ⟨adS u (PD.cv (PD.cv v g) u'), PD.cv v v', hu.add ((hv.cv fg).cv hu'), hv.cv hv', ?_⟩
  refine funext fun i => ?_
  show PD.cv (adS u (PD.cv (PD.cv v g) u')) f i + PD.cv (PD.cv v v') (PD.cv g h) i = oS i
  have s1 : PD.cv (PD.cv v v') (PD.cv g h) = PD.cv (PD.cv v g) (PD.cv v' h) := by
    refine funext fun j => ?_
    rw [cv_assoc, cv_assoc]
    refine congrFun (cv_congr rfl (funext fun j => ?_)) j
    rw [← cv_assoc, ← cv_assoc]
    exact congrFun (cv_congr (funext fun k => cv_comm k v' g) rfl) j
  have s2 : PD.cv (PD.cv (PD.cv v g) u') f = PD.cv (PD.cv v g) (PD.cv u' f) := funext fun j => cv_assoc j _ _ _
  rw [cv_add_l, s1, s2, show PD.cv u f i + PD.cv (PD.cv v g) (PD.cv u' f) i + PD.cv (PD.cv v g) (PD.cv v' h) i = PD.cv u f i + (PD.cv (PD.cv v g) (PD.cv u' f) i + PD.cv (PD.cv v g) (PD.cv v' h) i) by grind, ← cv_add_r, e']
  rw [cv_comm i (PD.cv v g) oS, cv_one_l]
  exact congrFun e i
theorem cop_one : cop f oS := ⟨zS, oS, fin_z, fin_o, funext fun i => by
  show cv zS f i + cv oS oS i = oS i
  rw [cv_z_l, cv_one_l]; grind⟩
/-- unlike roots -/
theorem cop_lin {a b : Cq} (h : a ≠ b) : cop (cf [-a, 1]) (cf [-b, 1]) := by
  refine ⟨scS (1 / (b - a)) oS, scS (-(1 / (b - a))) oS, fin_o.sc _, fin_o.sc _, funext fun i => ?_⟩
  show cv (scS (1 / (b - a)) oS) (cf [-a, 1]) i + cv (scS (-(1 / (b - a))) oS) (cf [-b, 1]) i = oS i
  rw [cv_sc_l, cv_sc_l, cv_one_l, cv_one_l]
  have d : b - a ≠ 0 := by grind
  match i with
  | 0 => show 1 / (b - a) * -a + -(1 / (b - a)) * -b = 1; grind
  | 1 => show 1 / (b - a) * 1 + -(1 / (b - a)) * 1 = 0; grind
  | i + 2 => show 1 / (b - a) * 0 + -(1 / (b - a)) * 0 = 0; grind
/-! ### Euclid's loop -/
/-- where the loop stands: both are C times coprime ones -/
def Eu (C : Srs) (one two : List Cq) : Prop := ∃ X Y : Srs, fin X ∧ fin Y ∧ cop X Y ∧ cf one = cv C X ∧ cf two = cv C Y
theorem Eu.step {C : Srs} {one two new : List Cq} (h : Eu C one two) {q r : Srs} (hq : fin q) {c : Cq} (hc : c ≠ 0) (e : adS (cv q (cf two)) r = cf one) (hn : cf new = scS c r) : Eu C two new := by
  obtain ⟨X, Y, fX, fY, k, e1, e2⟩ := h
  refine ⟨Y, scS c (sbS X (PD.cv q Y)), fY, (fX.sub (hq.cv fY)).sc c, (k.step hq).sc hc, e2, ?_⟩
  rw [hn]
  refine funext fun i => ?_
  show c * r i = _
  rw [cv_sc_r]
  refine congrArg (c * ·) ?_
  have s : sbS X (PD.cv q Y) = adS X (scS (-1) (PD.cv q Y)) := funext fun j => by show X j - PD.cv q Y j = X j + -1 * PD.cv q Y j; grind
  rw [s, cv_add_r, cv_sc_r, ← e1, ← e, e2]
  show r i = PD.cv q (PD.cv C Y) i + r i + -1 * PD.cv C (PD.cv q Y) i
  have m : PD.cv q (PD.cv C Y) i = PD.cv C (PD.cv q Y) i := by
    rw [← cv_assoc, ← cv_assoc]
    exact congrFun (cv_congr (funext fun k => cv_comm k q C) rfl) i
  rw [m]; grind
/-- a unit among finite ones is a number -/
theorem unit_num {X u : Srs} (fX : fin X) (fu : fin u) (e : cv u X = oS) : ∃ c, c ≠ 0 ∧ X = scS c oS := by
  obtain ⟨N, hN⟩ := fX
  obtain ⟨M, hM⟩ := fu
  have z : ∀ i, zS i = (0 : Cq) := fun _ => rfl
  rcases top_or N hN with h | ⟨k, _, k2, k3⟩
  · exfalso
    rw [h] at e
    have := congrFun e 0
    rw [cv_comm, cv_z_l] at this
    have : (0 : Cq) = 1 := this
    exact absurd this (by decide +kernel)
  rcases top_or M hM with h | ⟨l, _, l2, l3⟩
  · exfalso
    rw [h] at e
    have := congrFun e 0
    rw [cv_z_l] at this
    have : (0 : Cq) = 1 := this
    exact absurd this (by decide +kernel)
  have t := cv_top l l2 k2
  rw [e] at t
  have hk : k = 0 := by
    by_cases hz : k = 0
    · exact hz
    · exfalso
      have : oS (l + k) = 0 := dg_o _ (by omega)
      rw [this] at t
      exact mul_ne' l3 k3 t.symm
  subst hk
  refine ⟨X 0, k3, funext fun i => ?_⟩
  cases i with
  | zero => show X 0 = X 0 * 1; grind
  | succ i => rw [k2 (i + 1) (by omega)]; show (0 : Cq) = X 0 * 0; grind
theorem Eu.fin_ {C : Srs} {one two : List Cq} (h : Eu C one two) (fC : fin C) (C0 : C ≠ zS) (hz : cf two = zS) : ∃ c, c ≠ 0 ∧ cf one = scS c C := by
  obtain ⟨X, Y, fX, fY, ⟨u, v, fu, fv, k⟩, e1, e2⟩ := h
  have Y0 : Y = zS := by
    obtain ⟨N, hN⟩ := fC
    obtain ⟨M, hM⟩ := fY
    by_cases y : Y = zS
    · exact y
    · exact absurd (e2.symm.trans hz) (cv_ne hN hM C0 y)
  have k2 : cv u X = oS := by
    rw [← k]
    refine funext fun i => ?_
    show cv u X i = cv u X i + cv v Y i
    rw [Y0, cv_comm i v zS, cv_z_l]; grind
  obtain ⟨c, c0, eX⟩ := unit_num fX fu k2
  refine ⟨c, c0, ?_⟩
  rw [e1, eX]
  exact funext fun i => by rw [cv_sc_r, cv_comm, cv_one_l]; rfl
end
end PD

set_option Elab.async false
set_option linter.all false
set_option autoImplicit false
set_option maxRecDepth 100000
set_option maxHeartbeats 1000000
/-! NP3: sizes of rows under division. Pure mathematics. -/
namespace PD
/-- one whole Gaussian number makes all numbers of the row whole -/
def RtR (k : Nat) (r : List Cq) : Prop := ∃ G : Cq, G ≠ 0 ∧ gz k G ∧ ∀ c ∈ r, gz k (c * G)
section
variable {k l m n : Nat} {r o f : List Cq} {c : Cq}
theorem RtR.mono (h : RtR k r) (le : k ≤ l) : RtR l r := by
  obtain ⟨G, g0, g, h⟩ := h
  exact ⟨G, g0, g.mono le, fun c hc => (h c hc).mono le⟩
theorem gz_0 : gz k (0 : Cq) := ⟨0, 0, by decide +kernel, by unfold sz; exact Nat.two_pow_pos k, by unfold sz; exact Nat.two_pow_pos k⟩
theorem RtR.cf' {G : Cq} (h : ∀ c ∈ r, gz k (c * G)) (i : Nat) : gz k (cf r i * G) := by
  unfold cf
  cases e : r[i]? with
  | none => show gz k ((0 : Cq) * G); rw [show (0 : Cq) * G = 0 by grind]; exact gz_0
  | some c => exact h c (List.mem_of_getElem? e)
theorem RtR.last {G : Cq} (h : ∀ c ∈ r, gz k (c * G)) : gz k (r.getLastD 0 * G) := by
  by_cases e : r = []
  · rw [e]; show gz k ((0 : Cq) * G); rw [show (0 : Cq) * G = 0 by grind]; exact gz_0
  · rw [last_cf e]; exact RtR.cf' h _
theorem RtR.hb (h : RtR k r) (hc : c ∈ r) : hb (2 * k + 1) c := by
  obtain ⟨G, g0, g, h⟩ := h
  exact rt_hb ⟨c * G, G, rfl, h c hc, g, g0⟩
theorem RtR.rt (h : RtR k r) (hc : c ∈ r) : rt k c := by
  obtain ⟨G, g0, g, h⟩ := h
  exact ⟨c * G, G, rfl, h c hc, g, g0⟩
theorem nm_rt (hr : RtR k r) (ho : RtR l o) (h0 : o.getLastD 0 ≠ 0) : rt (k + l + 1) (nmR r o) := by
  obtain ⟨G, g0, g, h⟩ := hr
  obtain ⟨H, h1, hg, h'⟩ := ho
  refine ⟨r.getLastD 0 * G * H, o.getLastD 0 * H * G, ?_, (RtR.last h).mul hg, ((RtR.last h').mul g).mono (by omega), by grind⟩
  unfold nmR
  generalize r.getLastD 0 = a
  generalize o.getLastD 0 = b at *
  grind
theorem nm_prod (hr : RtR k r) (ho : RtR l o) (h0 : o.getLastD 0 ≠ 0) (hc : c ∈ o) : rt (k + l + 1) (nmR r o * c) := by
  obtain ⟨G, g0, g, h⟩ := hr
  obtain ⟨H, h1, hg, h'⟩ := ho
  refine ⟨r.getLastD 0 * G * (c * H), o.getLastD 0 * H * G, ?_, (RtR.last h).mul (h' c hc), ((RtR.last h').mul g).mono (by omega), by grind⟩
  unfold nmR
  generalize r.getLastD 0 = a
  generalize o.getLastD 0 = b at *
  grind
theorem inv_rt (ho : RtR l o) (h0 : o.getLastD 0 ≠ 0) : rt l (1 / o.getLastD 0) := by
  obtain ⟨H, h1, hg, h'⟩ := ho
  refine ⟨H, o.getLastD 0 * H, ?_, hg, RtR.last h', by grind⟩
  generalize o.getLastD 0 = b at *
  grind
theorem el_rt (hr : RtR k r) (ho : RtR l o) (h0 : o.getLastD 0 ≠ 0) (s : Nat) : RtR (k + l + 2) (elR r o s (nmR r o)) := by
  obtain ⟨G, g0, g, h⟩ := hr
  obtain ⟨H, h1, hg, h'⟩ := ho
  refine ⟨G * (o.getLastD 0 * H), by grind, (g.mul (RtR.last h')).mono (by omega), fun c hc => ?_⟩
  unfold elR at hc
  obtain ⟨i, _, rfl⟩ := List.mem_map.mp hc
  have a := (RtR.cf' h i).mul (RtR.last h')
  by_cases hi : i < s
  · rw [if_pos hi, show (cf r i - 0) * (G * (o.getLastD 0 * H)) = cf r i * G * (o.getLastD 0 * H) by grind]
    exact a.mono (by omega)
  · rw [if_neg hi]
    have b := (RtR.last h).mul (RtR.cf' h' (i - s))
    have e : (cf r i - nmR r o * cf o (i - s)) * (G * (o.getLastD 0 * H)) = cf r i * G * (o.getLastD 0 * H) - r.getLastD 0 * G * (cf o (i - s) * H) := by
      unfold nmR
      generalize r.getLastD 0 = x
      generalize o.getLastD 0 = y at *
      grind
    rw [e]
    exact a.sub b
theorem rr_rt (ho : RtR l o) (h0 : o.getLastD 0 ≠ 0) : ∀ (s k : Nat) (r f : List Cq), RtR k r → RtR (k + s * (l + 2)) (rrF o s (r, f)).1 ∧ ∀ c ∈ (rrF o s (r, f)).2, c ∈ f ∨ rt (k + s * (l + 2)) c
  | 0, k, r, f, hr => ⟨by rw [Nat.zero_mul]; exact hr, fun c hc => .inl hc⟩
  | s + 1, k, r, f, hr => by
    obtain ⟨h1, h2⟩ := rr_rt ho h0 s (k + l + 2) (elR r o s (nmR r o)) (nmR r o :: f) (el_rt hr ho h0 s)
    have e : k + l + 2 + s * (l + 2) = k + (s + 1) * (l + 2) := by rw [Nat.succ_mul]; omega
    rw [e] at h1 h2
    refine ⟨h1, fun c hc => ?_⟩
    rcases h2 c hc with h | h
    · rcases List.mem_cons.mp h with h | h
      · right
        rw [h]
        obtain ⟨A, B, x1, x2, x3, x4⟩ := nm_rt hr ho h0
        have le : k + l + 1 ≤ k + (s + 1) * (l + 2) := by rw [Nat.succ_mul]; omega
        exact ⟨A, B, x1, x2.mono le, x3.mono le, x4⟩
      · exact .inl h
    · exact .inr h
/-- the last number made 1 -/
theorem mon_rt (hr : RtR k r) (h0 : r.getLastD 0 ≠ 0) : RtR k (r.map fun c => c * (1 / r.getLastD 0)) := by
  obtain ⟨G, g0, g, h⟩ := hr
  refine ⟨r.getLastD 0 * G, by grind, RtR.last h, fun c hc => ?_⟩
  obtain ⟨x, hx, rfl⟩ := List.mem_map.mp hc
  have := h x hx
  rw [show x * (1 / r.getLastD 0) * (r.getLastD 0 * G) = x * G by
    generalize r.getLastD 0 = b at *
    grind]
  exact this
theorem RtR.sub (h : RtR k r) (hs : ∀ c ∈ f, c ∈ r) : RtR k f := by
  obtain ⟨G, g0, g, h⟩ := h
  exact ⟨G, g0, g, fun c hc => h c (hs c hc)⟩
end
end PD

set_option Elab.async false
set_option linter.all false
set_option autoImplicit false
set_option maxRecDepth 100000
set_option maxHeartbeats 1000000
/-! NP4: sizes of products of linear factors. Pure mathematics. -/
namespace PD
/-- |re| + |im| -/
def ab1 (m : Nat) (p : Cq) : Prop := ∃ a b : Int, p = q3 a b 1 ∧ a.natAbs + b.natAbs ≤ m
section
variable {k l m n : Nat} {p q : Cq}
theorem ab1.mono (h : ab1 m p) (le : m ≤ n) : ab1 n p := by
  obtain ⟨a, b, e, x⟩ := h
  exact ⟨a, b, e, by omega⟩
theorem ab_0 : ab1 0 (0 : Cq) := ⟨0, 0, by decide +kernel, Nat.le_refl _⟩
theorem ab_1 : ab1 1 (1 : Cq) := ⟨1, 0, by decide +kernel, Nat.le_refl _⟩
theorem ab1.sub (h : ab1 m p) (h' : ab1 n q) : ab1 (m + n) (p - q) := by
  obtain ⟨a, b, e, x⟩ := h
  obtain ⟨a', b', e', x'⟩ := h'
  refine ⟨a - a', b - b', ?_, by omega⟩
  have := q3_sub (a := a) (b := b) (d := 1) (a' := a') (b' := b') (d' := 1) (by decide) (by decide)
  rw [Int.mul_one, Int.mul_one, Int.mul_one, Int.mul_one] at this
  rw [e, e']; exact this.symm
theorem ab1.mul (h : ab1 m p) (h' : ab1 n q) : ab1 (m * n) (p * q) := by
  obtain ⟨a, b, e, x⟩ := h
  obtain ⟨a', b', e', x'⟩ := h'
  refine ⟨a * a' - b * b', a * b' + b * a', ?_, ?_⟩
  · have := q3_mul (a := a) (b := b) (d := 1) (a' := a') (b' := b') (d' := 1) (by decide) (by decide)
    rw [e, e']; exact this.symm
  · have h1 : (a * a').natAbs = a.natAbs * a'.natAbs := Int.natAbs_mul a a'
    have h2 : (b * b').natAbs = b.natAbs * b'.natAbs := Int.natAbs_mul b b'
    have h3 : (a * b').natAbs = a.natAbs * b'.natAbs := Int.natAbs_mul a b'
    have h4 : (b * a').natAbs = b.natAbs * a'.natAbs := Int.natAbs_mul b a'
    have h5 : (a.natAbs + b.natAbs) * (a'.natAbs + b'.natAbs) ≤ m * n := Nat.mul_le_mul x x'
    rw [Nat.add_mul, Nat.mul_add, Nat.mul_add] at h5
    omega
theorem ab1.gz (h : ab1 m p) (hk : m < 2 ^ k) : gz k p := by
  obtain ⟨a, b, e, x⟩ := h
  exact ⟨a, b, e, by unfold sz; omega, by unfold sz; omega⟩
/-- the numbers of a row, times G, have together no more than m -/
def rs (G : Cq) : List Cq → Nat → Prop
  | [], _ => True
  | c :: cs, m => ∃ a b, a + b ≤ m ∧ ab1 a (c * G) ∧ rs G cs b
theorem rs.gz {G : Cq} : ∀ {r : List Cq} {m : Nat}, rs G r m → m < 2 ^ k → ∀ c ∈ r, gz k (c * G)
  | [], _, _, _, c, hc => absurd hc List.not_mem_nil
  | d :: r, m, ⟨a, b, ab, h1, h2⟩, hk, c, hc => by
    rcases List.mem_cons.mp hc with h | h
    · rw [h]; exact h1.gz (by omega)
    · exact rs.gz h2 (by omega) c h
/-- times x - a -/
def lnR (a carry : Cq) : List Cq → List Cq
  | [] => [carry]
  | c :: cs => (carry - a * c) :: lnR a c cs
theorem lnR_rs {a G : Cq} (ha : ab1 12 (a * (1 + 1))) : ∀ (r : List Cq) (carry : Cq) (x m : Nat), ab1 x (carry * G) → rs G r m → rs (G * (1 + 1)) (lnR a carry r) (2 * x + 14 * m)
  | [], carry, x, m, hc, _ => by
    refine ⟨2 * x, 0, by omega, ?_, trivial⟩
    have h2 : ab1 2 (1 + 1 : Cq) := ⟨2, 0, by decide +kernel, Nat.le_refl _⟩
    have := hc.mul h2
    rw [show carry * (G * (1 + 1)) = carry * G * (1 + 1) by grind]
    exact this.mono (by omega)
  | c :: cs, carry, x, m, hc, ⟨u, v, uv, h1, h2⟩ => by
    have ih := lnR_rs ha cs c u v h1 h2
    refine ⟨2 * x + 12 * u, 2 * u + 14 * v, by omega, ?_, ih⟩
    have t2 : ab1 2 (1 + 1 : Cq) := ⟨2, 0, by decide +kernel, Nat.le_refl _⟩
    have a1 := hc.mul t2
    have a2 := ha.mul h1
    rw [show (carry - a * c) * (G * (1 + 1)) = carry * G * (1 + 1) - a * (1 + 1) * (c * G) by grind]
    exact (a1.sub a2).mono (by omega)
theorem lnR_len (a : Cq) : ∀ (r : List Cq) (carry : Cq), (lnR a carry r).length = r.length + 1
  | [], _ => rfl
  | c :: cs, carry => by show (lnR a c cs).length + 1 = cs.length + 1 + 1; rw [lnR_len a cs c]
/-- what it makes -/
theorem lnR_cf (a : Cq) : ∀ (r : List Cq) (carry : Cq), cf (lnR a carry r) = adS (scS carry oS) (cv (cf [-a, 1]) (cf r))
  | [], carry => funext fun i => by
    have z : cv (cf [-a, 1]) (cf []) i = 0 := by rw [cv_comm]; exact cv_z_l _ i
    show cf [carry] i = carry * oS i + cv (cf [-a, 1]) (cf []) i
    rw [z]
    cases i with
    | zero => show carry = carry * 1 + 0; grind
    | succ i => show (0 : Cq) = carry * 0 + 0; grind
  | c :: cs, carry => funext fun i => by
    have ih := lnR_cf a cs c
    have t : tlS (cf [-a, 1]) = oS := funext fun i => by
      cases i with
      | zero => rfl
      | succ i => rfl
    have tc : tlS (cf (c :: cs)) = cf cs := funext fun i => cf_consS c cs i
    cases i with
    | zero =>
      show carry - a * c = carry * 1 + (-a) * c
      grind
    | succ i =>
      show cf ((carry - a * c) :: lnR a c cs) (i + 1) = carry * 0 + cv (cf [-a, 1]) (cf (c :: cs)) (i + 1)
      rw [cf_consS, ih]
      show c * oS i + cv (cf [-a, 1]) (cf cs) i = _
      rw [cv_r i (cf [-a, 1]) (cf (c :: cs)), tc]
      show _ = carry * 0 + (cv (cf [-a, 1]) (cf cs) i + cf [-a, 1] (i + 1) * c)
      have o : cf [-a, 1] (i + 1) = oS i := congrFun t i
      rw [o]; grind
/-- a product of linear factors -/
def lnP : List Cq → List Cq
  | [] => [1]
  | a :: as => lnR a 0 (lnP as)
def twN : Nat → Cq
  | 0 => 1 | n + 1 => twN n * (1 + 1)
theorem tw_ne : ∀ n, twN n ≠ 0
  | 0 => by show (1 : Cq) ≠ 0; decide +kernel
  | n + 1 => by have := tw_ne n; show twN n * (1 + 1) ≠ 0; have h2 : (1 + 1 : Cq) ≠ 0 := by decide +kernel
                grind
theorem tw_ab : ∀ n, ab1 (14 ^ n) (twN n)
  | 0 => ab_1
  | n + 1 => by
    have t2 : ab1 2 (1 + 1 : Cq) := ⟨2, 0, by decide +kernel, Nat.le_refl _⟩
    exact ((tw_ab n).mul t2).mono (by rw [Nat.pow_succ]; omega)
theorem lnP_rs : ∀ (as : List Cq), (∀ a ∈ as, ab1 12 (a * (1 + 1))) → rs (twN as.length) (lnP as) (14 ^ as.length)
  | [], _ => ⟨1, 0, by decide, by show ab1 1 (1 * twN 0); exact ab_1.mul ab_1, trivial⟩
  | a :: as, h => by
    have ih := lnP_rs as fun b hb => h b (List.mem_cons_of_mem _ hb)
    have := lnR_rs (h a (List.mem_cons_self ..)) (lnP as) 0 0 _ (by rw [show (0 : Cq) * twN as.length = 0 by grind]; exact ab_0) ih
    show rs (twN as.length * (1 + 1)) (lnR a 0 (lnP as)) (14 ^ (as.length + 1))
    rw [Nat.pow_succ, show 14 ^ as.length * 14 = 2 * 0 + 14 * 14 ^ as.length by omega]
    exact this
theorem lnP_rt {as : List Cq} (h : ∀ a ∈ as, ab1 12 (a * (1 + 1))) (hl : as.length ≤ 6) : RtR 23 (lnP as) := by
  have le : 14 ^ as.length < 2 ^ 23 := Nat.lt_of_le_of_lt (Nat.pow_le_pow_right (by decide) hl) (by decide)
  exact ⟨twN as.length, tw_ne _, (tw_ab _).gz le, (lnP_rs as h).gz le⟩
theorem lnP_cf (a : Cq) (as : List Cq) : cf (lnP (a :: as)) = cv (cf [-a, 1]) (cf (lnP as)) := by
  show cf (lnR a 0 (lnP as)) = _
  rw [lnR_cf]
  exact funext fun i => by show 0 * oS i + _ = _; grind
theorem lnP_len : ∀ as : List Cq, (lnP as).length = as.length + 1
  | [] => rfl
  | a :: as => by show (lnR a 0 (lnP as)).length = as.length + 1 + 1; rw [lnR_len, lnP_len as]
/-- unlike roots: coprime -/
theorem cop_lnP {a : Cq} : ∀ (bs : List Cq), a ∉ bs → cop (cf [-a, 1]) (cf (lnP bs))
  | [], _ => by
    have : cf (lnP []) = oS := funext fun i => by cases i <;> rfl
    rw [this]; exact cop_one
  | b :: bs, h => by
    rw [List.mem_cons, not_or] at h
    rw [lnP_cf]
    exact (cop_lin h.1).mul (cop_lnP bs h.2) (fin_cf _) (fin_cf _) (fin_cf _)
theorem cop_lnP2 : ∀ (as bs : List Cq), (∀ a ∈ as, a ∉ bs) → cop (cf (lnP as)) (cf (lnP bs))
  | [], bs, _ => by
    have : cf (lnP []) = oS := funext fun i => by cases i <;> rfl
    rw [this]; exact cop_one.symm
  | a :: as, bs, h => by
    rw [lnP_cf]
    exact ((cop_lnP bs (h a (List.mem_cons_self ..))).symm.mul (cop_lnP2 as bs fun b hb => h b (List.mem_cons_of_mem _ hb)).symm (fin_cf _) (fin_cf _) (fin_cf _)).symm
end
end PD

set_option Elab.async false
set_option linter.all false
set_option autoImplicit false
set_option maxRecDepth 100000
set_option maxHeartbeats 1000000
/-! NP5: Euclid's loop as a relation, its sizes. Pure mathematics. -/
namespace PD
/-- what is left, without noughts at its end -/
def RestOf (one two rest : List Cq) : Prop := lastOk rest ∧ ∀ i, cf rest i = cf (rrF two (one.length - (two.length - 1)) (one, [])).1 i
def monL (r : List Cq) : List Cq := r.map fun c => c * (1 / r.getLastD 0)
/-- the loop, each pair with its sizes -/
inductive EuRun : List Cq → List Cq → List Cq → Prop
  | done (one : List Cq) : EuRun one [] one
  | go (one two rest res : List Cq) (k l : Nat) (h : two ≠ []) (h1 : two.getLastD 0 = 1) (hk : RtR k one) (hl : RtR l two) (hs : k + (one.length - (two.length - 1)) * (l + 2) ≤ 749) (hl2 : l ≤ 749) (hr : RestOf one two rest) (hn : EuRun two (monL rest) res) : EuRun one two res
def wB : Nat → Nat → Nat → Nat → Nat → Bool
  | 0, _, _, _, _ => true
  | n + 1, a, b, k, l => if a < b then decide (k ≤ 749 ∧ l ≤ 749) && wB n b a l k else decide (k + (a + 1 - b) * (l + 2) ≤ 749 ∧ l ≤ 749) && (List.range b).all fun d => wB n b d l (k + (a + 1 - b) * (l + 2))
theorem wB_ok : ∀ a, a ≤ 6 → ∀ b, b ≤ 6 → a + b ≤ 6 → wB 8 a b 23 23 = true := by decide +kernel
section
variable {C : Srs} {e : Nat}
theorem lastOk_len {r : List Cq} (h : lastOk r) {n : Nat} (hd : dg (cf r) n) : r.length ≤ n := by
  rcases h with rfl | ⟨qs, q, rfl, h0⟩
  · exact Nat.zero_le _
  · by_cases z : (qs ++ [q]).length ≤ n
    · exact z
    · exfalso
      rw [List.length_append, List.length_singleton] at z
      have := hd qs.length (by omega)
      rw [cf_app, if_neg (by omega), Nat.sub_self] at this
      exact h0 this
theorem getLastD_ne {r : List Cq} (h : lastOk r) (hr : r ≠ []) : r.getLastD 0 ≠ 0 := by
  rcases h with h | ⟨qs, q, rfl, h0⟩
  · exact absurd h hr
  · rw [List.getLastD_eq_getLast?]
    simp
    exact h0
theorem monL_last {r : List Cq} (h : lastOk r) (hr : r ≠ []) : (monL r).getLastD 0 = 1 ∧ lastOk (monL r) ∧ monL r ≠ [] ∧ (monL r).length = r.length := by
  rcases h with h | ⟨qs, q, rfl, h0⟩
  · exact absurd h hr
  · have l : (qs ++ [q]).getLastD 0 = q := by rw [List.getLastD_eq_getLast?]; simp
    have e : monL (qs ++ [q]) = (qs.map fun c => c * (1 / q)) ++ [1] := by
      unfold monL
      rw [l, List.map_append, List.map_singleton]
      have : q * (1 / q) = 1 := by grind
      rw [this]
    rw [e]
    refine ⟨by rw [List.getLastD_eq_getLast?]; simp, .inr ⟨_, 1, rfl, by decide +kernel⟩, by simp, by simp⟩
theorem monL_cf {r : List Cq} : cf (monL r) = scS (1 / r.getLastD 0) (cf r) := funext fun i => by
  show ((monL r)[i]?).getD 0 = 1 / r.getLastD 0 * (r[i]?).getD 0
  unfold monL
  rw [List.getElem?_map]
  cases r[i]? with
  | none => show (0 : Cq) = 1 / r.getLastD 0 * 0; grind
  | some c => show c * (1 / r.getLastD 0) = 1 / r.getLastD 0 * c; grind
theorem lastOk_trim_ex (l : List Cq) : ∃ r, lastOk r ∧ (∀ i, cf r i = cf l i) ∧ (∀ c ∈ r, c ∈ l) := by
  have : ∀ (n : Nat) (l : List Cq), l.length = n → ∃ r, lastOk r ∧ (∀ i, cf r i = cf l i) ∧ (∀ c ∈ r, c ∈ l) := by
    intro n
    induction n with
    | zero =>
      intro l hl
      rw [List.length_eq_zero_iff.mp hl]
      exact ⟨[], .inl rfl, fun _ => rfl, fun c hc => hc⟩
    | succ n ih =>
      intro l hl
      have hne : l ≠ [] := fun e => by rw [e] at hl; cases hl
      obtain ⟨qs, q, rfl⟩ : ∃ qs q, l = qs ++ [q] := ⟨l.dropLast, l.getLast hne, (List.dropLast_concat_getLast hne).symm⟩
      by_cases hq : q = 0
      · obtain ⟨r, h1, h2, h3⟩ := ih qs (by rw [List.length_append, List.length_singleton] at hl; omega)
        refine ⟨r, h1, fun i => ?_, fun c hc => List.mem_append_left _ (h3 c hc)⟩
        rw [h2, cf_app]
        by_cases hi : i < qs.length
        · rw [if_pos hi]
        · rw [if_neg hi, cf_out (by omega), hq]
          cases i - qs.length with
          | zero => rfl
          | succ j => rfl
      · exact ⟨qs ++ [q], .inr ⟨qs, q, rfl, hq⟩, fun _ => rfl, fun c hc => hc⟩
  exact this l.length l rfl
/-- C times something, of fewer numbers than C: nothing -/
theorem short_zero {Z : Srs} (hC : dg C (e + 1)) (C0 : C e ≠ 0) (hZ : fin Z) (h : dg (cv C Z) e) : Z = zS := by
  obtain ⟨N, hN⟩ := hZ
  rcases top_or N hN with h1 | ⟨k, _, k2, k3⟩
  · exact h1
  · exfalso
    have t := cv_top e hC k2
    rw [h (e + k) (by omega)] at t
    exact mul_ne' C0 k3 t.symm
theorem nz_len {r : List Cq} {n : Nat} (h : lastOk r) (hd : dg (cf r) (n + 1)) (h0 : cf r n ≠ 0) : r.length = n + 1 := by
  have := lastOk_len h hd
  by_cases z : n < r.length
  · omega
  · exact absurd (cf_out (by omega)) h0
theorem monL_one {r : List Cq} (h : r.getLastD 0 = 1) : monL r = r := by
  unfold monL
  rw [h]
  have : ∀ c : Cq, c * (1 / 1) = c := fun c => by grind
  rw [List.map_congr_left fun c _ => this c, List.map_id']
theorem eu_run (hC : dg C (e + 1)) (C0 : C e ≠ 0) : ∀ (n a b k l : Nat) (one two : List Cq), wB n a b k l = true → (b + 1 ≤ n ∨ (a < b ∧ a + 2 ≤ n)) → one.length = e + a + 1 → two.length = e + b + 1 → RtR k one → RtR l two → one.getLastD 0 = 1 → two.getLastD 0 = 1 → lastOk one → lastOk two → Eu C one two →
    ∃ res, EuRun one two res ∧ lastOk res ∧ res.getLastD 0 = 1 ∧ ∃ c, c ≠ 0 ∧ cf res = scS c C
  | 0, a, b, k, l, one, two, _, hf, _, _, _, _, _, _, _, _, _ => by omega
  | n + 1, a, b, k, l, one, two, hw, hf, l1, l2, hk, hl, m1, m2, o1, o2, he => by
    have t0 : two ≠ [] := fun z => by rw [z] at l2; simp at l2
    have n0 : two.getLastD 0 ≠ 0 := by rw [m2]; decide +kernel
    have CN : C ≠ zS := fun z => C0 (by rw [z]; rfl)
    by_cases hab : a < b
    · unfold wB at hw
      rw [if_pos hab, Bool.and_eq_true, decide_eq_true_eq] at hw
      have hs : one.length - (two.length - 1) = 0 := by omega
      have ro : RestOf one two one := ⟨o1, fun i => by rw [hs]; rfl⟩
      have st : Eu C two one := he.step (q := zS) (r := cf one) (c := 1) fin_z (by decide +kernel) (funext fun i => by
        show cv zS (cf two) i + cf one i = cf one i
        rw [cv_z_l]; grind) (funext fun i => by show cf one i = 1 * cf one i; grind)
      obtain ⟨res, r1, r2, r3, r4⟩ := eu_run hC C0 n b a l k two one hw.2 (by omega) l2 l1 hl hk m2 m1 o2 o1 st
      exact ⟨res, .go one two one res k l t0 m2 hk hl (by rw [hs]; omega) hw.1.2 ro (by rw [monL_one m1]; exact r1), r2, r3, r4⟩
    · unfold wB at hw
      rw [if_neg hab, Bool.and_eq_true, decide_eq_true_eq, List.all_eq_true] at hw
      have hs : one.length - (two.length - 1) = a + 1 - b := by omega
      obtain ⟨h1, h2⟩ := dv_ok (d := e + b) l2 n0 (r := one) (by omega)
      have hs2 : one.length - (e + b) = one.length - (two.length - 1) := by omega
      rw [hs2] at h1 h2
      obtain ⟨z1, _⟩ := rr_rt hl n0 (one.length - (two.length - 1)) k one [] hk
      obtain ⟨r, q1, q2, q3⟩ := lastOk_trim_ex (rrF two (one.length - (two.length - 1)) (one, [])).1
      have ro : RestOf one two r := ⟨q1, q2⟩
      have q2' : cf r = cf (rrF two (one.length - (two.length - 1)) (one, [])).1 := funext q2
      have hr := z1.sub q3
      by_cases re : r = []
      · have st : Eu C two [] := he.step (new := []) (c := 1) (fin_cf _) (by decide +kernel) h2 (funext fun i => by
          rw [← q2', re]
          show (0 : Cq) = 1 * 0
          grind)
        obtain ⟨c, c0, hc⟩ := st.fin_ ⟨_, hC⟩ CN rfl
        exact ⟨two, .go one two r two k l t0 m2 hk hl (by rw [hs]; exact hw.1.1) hw.1.2 ro (by rw [re]; exact .done two), o2, m2, c, c0, hc⟩
      · obtain ⟨w1, w2, w3, w4⟩ := monL_last q1 re
        have rn := getLastD_ne q1 re
        have ci : 1 / r.getLastD 0 ≠ 0 := by
          generalize r.getLastD 0 = x at *
          grind
        have st : Eu C two (monL r) := he.step (fin_cf _) ci h2 (by rw [monL_cf, q2'])
        obtain ⟨X, Z, _, fZ, _, _, eZ⟩ := st
        have st : Eu C two (monL r) := he.step (fin_cf _) ci h2 (by rw [monL_cf, q2'])
        obtain ⟨N, hN⟩ := fZ
        rcases top_or N hN with zz | ⟨d, _, d2, d3⟩
        · exfalso
          have := getLastD_ne w2 w3
          rw [last_cf w3, eZ, zz, cv_comm, cv_z_l] at this
          exact this rfl
        · have dgz : dg (cf (monL r)) (e + d + 1) := by rw [eZ]; exact (dg_cv (e + 1) hC d2).mono (by omega)
          have top : cf (monL r) (e + d) ≠ 0 := by rw [eZ, cv_top e hC d2]; exact mul_ne' C0 d3
          have ln := nz_len w2 dgz top
          have rl : r.length ≤ e + b := by
            refine lastOk_len q1 ?_
            rw [q2', ← h1]
            exact dg_cf _
          obtain ⟨res, r1, r2, r3, r4⟩ := eu_run hC C0 n b d l (k + (a + 1 - b) * (l + 2)) two (monL r) (hw.2 d (List.mem_range.mpr (by omega))) (by omega) l2 ln hl (by rw [← hs]; exact mon_rt hr rn) m2 w1 o2 w2 st
          exact ⟨res, .go one two r res k l t0 m2 hk hl (by rw [hs]; exact hw.1.1) hw.1.2 ro r1, r2, r3, r4⟩
end
end PD

set_option Elab.async false
set_option linter.all false
set_option autoImplicit false
set_option maxRecDepth 100000
set_option maxHeartbeats 1000000
/-! NP6: built rows: products as sequences, linear factors put together, the loop's run for them, division told. Pure mathematics. -/
namespace PD
section
variable {k l m n : Nat} {p q u c z w : Cq} {ps qs as bs cs xs ys : List Cq}
theorem inC_cf (p : Cq) (n : Nat) : ∀ (qs : List Cq) (j : Nat), inC p n j qs = if n < j then 0 else p * cf qs (n - j)
  | [], j => by show (0 : Cq) = _; rw [cf_nil]; split <;> grind
  | q :: qs, j => by
    show (if n = j then p * q else 0) + inC p n (j + 1) qs = _
    rw [inC_cf p n qs (j + 1)]
    by_cases h : n < j
    · rw [if_neg (by omega), if_pos (by omega), if_pos h]; grind
    · rw [if_neg h]
      by_cases h2 : n = j
      · rw [if_pos h2, if_pos (by omega), h2, Nat.sub_self, cf_cons0]; grind
      · rw [if_neg h2, if_neg (by omega), show n - j = (n - (j + 1)) + 1 by omega, cf_consS]; grind
theorem outC_cv (qs : List Cq) (n : Nat) : ∀ (ps : List Cq) (i : Nat), outC n qs i ps = if n < i then 0 else cv (cf ps) (cf qs) (n - i)
  | [], i => by
    show (0 : Cq) = _
    have : cf [] = zS := funext fun i => cf_nil i
    rw [this, cv_z_l]; split <;> rfl
  | p :: ps, i => by
    show inC p n i qs + outC n qs (i + 1) ps = _
    rw [inC_cf, outC_cv qs n ps (i + 1)]
    by_cases h : n < i
    · rw [if_pos h, if_pos (by omega), if_pos h]; grind
    · rw [if_neg h, if_neg h, cf_cons, cv_add_l, cv_sc_l, cv_one_l, cv_sh]
      show _ = p * cf qs (n - i) + (if n - i < 1 then 0 else cv (cf ps) (cf qs) (n - i - 1))
      by_cases h2 : n = i
      · rw [if_pos (by omega), if_pos (by omega)]
      · rw [if_neg (by omega), if_neg (by omega), show n - i - 1 = n - (i + 1) by omega]
theorem cf_mulL_cv (ps qs : List Cq) : cf (mulL ps qs) = cv (cf ps) (cf qs) := funext fun n => by
  rw [cf_mulL, outC_cv, if_neg (by omega), Nat.sub_zero]
theorem lnP_nil_cf : cf (lnP []) = oS := funext fun i => by cases i <;> rfl
theorem lnP_app : ∀ (as bs : List Cq), cf (lnP (as ++ bs)) = cv (cf (lnP as)) (cf (lnP bs))
  | [], bs => by rw [lnP_nil_cf]; exact funext fun i => (cv_one_l _ i).symm
  | a :: as, bs => by
    rw [List.cons_append, lnP_cf, lnP_app as bs, lnP_cf]
    exact funext fun i => (cv_assoc i _ _ _).symm
theorem lnP_topc : ∀ as : List Cq, cf (lnP as) as.length = 1
  | [] => rfl
  | a :: as => by
    have h1 : dg (cf [-a, 1]) (1 + 1) := dg_cf _
    have h2 : dg (cf (lnP as)) (as.length + 1) := by rw [← lnP_len]; exact dg_cf _
    have := cv_top 1 h1 h2
    rw [lnP_cf, List.length_cons, Nat.add_comm, this, lnP_topc as]
    show (1 : Cq) * 1 = 1
    grind
theorem lnP_ne (as : List Cq) : lnP as ≠ [] := fun e => by
  have := lnP_len as
  rw [e] at this; cases this
theorem lnP_last (as : List Cq) : (lnP as).getLastD 0 = 1 := by
  rw [last_cf (lnP_ne as), lnP_len, Nat.add_sub_cancel, lnP_topc]
theorem lastOk_of (h : ps ≠ []) (h' : ps.getLastD 0 ≠ 0) : lastOk ps := by
  rcases List.eq_nil_or_concat ps with e | ⟨qs, q, e⟩
  · exact absurd e h
  · rw [e] at h' ⊢
    rw [List.getLastD_eq_getLast?] at h'
    refine .inr ⟨qs, q, by simp, ?_⟩
    simpa using h'
theorem one_ne : (1 : Cq) ≠ 0 := by decide +kernel
theorem lnP_ok (as : List Cq) : lastOk (lnP as) := lastOk_of (lnP_ne as) (by rw [lnP_last]; exact one_ne)
/-- rows with 1 at their end, one a multiple of the other -/
theorem mon_unique {u v : List Cq} {d : Cq} (hu : lastOk u) (hv : lastOk v) (u1 : u.getLastD 0 = 1) (v1 : v.getLastD 0 = 1) (e : cf u = scS d (cf v)) : u = v := by
  have un : u ≠ [] := fun z => by rw [z] at u1; exact one_ne u1.symm
  have vn : v ≠ [] := fun z => by rw [z] at v1; exact one_ne v1.symm
  have d0 : d ≠ 0 := fun z => by
    have h1 := last_cf un
    rw [u1, e, z] at h1
    have h2 : scS 0 (cf v) (u.length - 1) = 0 := by show (0 : Cq) * _ = 0; grind
    rw [h2] at h1
    exact one_ne h1
  have e2 : cf v = scS (1 / d) (cf u) := funext fun i => by
    rw [e]
    show cf v i = 1 / d * (d * cf v i)
    grind
  have l1 : u.length ≤ v.length := lastOk_len hu (by rw [e]; exact dg_sc (dg_cf v) d)
  have l2 : v.length ≤ u.length := lastOk_len hv (by rw [e2]; exact dg_sc (dg_cf u) _)
  have dd : d = 1 := by
    have h1 := last_cf un
    rw [u1, e, show u.length = v.length by omega] at h1
    have h2 := last_cf vn
    rw [v1] at h2
    have h3 : scS d (cf v) (v.length - 1) = d * cf v (v.length - 1) := rfl
    rw [h3, ← h2] at h1
    grind
  exact lastOk_ext hu hv fun i => by rw [e, dd]; show 1 * cf v i = cf v i; grind
/-- a row that is a multiple of one with 1 at its end, divided by its last number -/
theorem monL_is {A v : List Cq} {d : Cq} (hA : lastOk A) (hv : lastOk v) (v1 : v.getLastD 0 = 1) (d0 : d ≠ 0) (e : cf A = scS d (cf v)) : monL A = v := by
  have vn : v ≠ [] := fun z => by rw [z] at v1; exact one_ne v1.symm
  have An : A ≠ [] := fun z => by
    have h2 := last_cf vn
    rw [v1] at h2
    have h1 : cf A (v.length - 1) = 0 := by rw [z]; exact cf_nil _
    rw [e] at h1
    have h3 : scS d (cf v) (v.length - 1) = d * cf v (v.length - 1) := rfl
    rw [h3, ← h2] at h1
    grind
  obtain ⟨a, b, _, _⟩ := monL_last hA An
  refine mon_unique (d := 1 / A.getLastD 0 * d) b hv a v1 ?_
  rw [monL_cf, e]
  exact funext fun i => by show 1 / A.getLastD 0 * (d * cf v i) = 1 / A.getLastD 0 * d * cf v i; grind
theorem RtR_nil : RtR (k + 1) [] := ⟨1, one_ne, ⟨1, 0, by decide +kernel, by unfold sz; show 1 < 2 ^ (k + 1); have := Nat.two_pow_pos k; omega, by unfold sz; show 0 < 2 ^ (k + 1); exact Nat.two_pow_pos _⟩, fun c h => by cases h⟩
theorem RtR.scale (h : RtR k ps) (hq : PD.hb l q) : RtR (k + l + 1) (ps.map (· * q)) := by
  obtain ⟨G, G0, gG, hG⟩ := h
  obtain ⟨D, D0, sD, gD⟩ := hb_gz hq
  refine ⟨G * eG D, mul_ne' G0 (eG_ne D0), (gG.mulD sD).mono (by omega), fun c hc => ?_⟩
  obtain ⟨a, ha, rfl⟩ := List.mem_map.mp hc
  have := (hG a ha).mul gD
  rw [show a * G * (q * eG D) = a * q * (G * eG D) by grind] at this
  exact this
theorem RtR_gb {j : Nat} (h : ∀ c ∈ ps, gb j k c) (hk : 3 * j + 1 ≤ k) : RtR k ps := by
  refine ⟨eG (six j), eG_ne (by have := six_pos j; omega), gz_D ((sz_six j).mono hk), fun c hc => ?_⟩
  obtain ⟨a, b, e, x, y⟩ := h c hc
  rw [e, q3_D (by have := six_pos j; omega)]
  exact ⟨a, b, rfl, x, y⟩
/-- the loop of two built rows: the common factors -/
theorem common_run (h1 : ∀ a ∈ cs, ab1 12 (a * (1 + 1))) (h2 : ∀ a ∈ xs, ab1 12 (a * (1 + 1))) (h3 : ∀ a ∈ ys, ab1 12 (a * (1 + 1))) (l1 : cs.length + xs.length ≤ 6) (l2 : cs.length + ys.length ≤ 6) (l3 : xs.length + ys.length ≤ 6) (hd : ∀ a ∈ xs, a ∉ ys) :
    EuRun (lnP (cs ++ xs)) (lnP (cs ++ ys)) (lnP cs) := by
  have dC : dg (cf (lnP cs)) (cs.length + 1) := by rw [← lnP_len]; exact dg_cf _
  have C0 : cf (lnP cs) cs.length ≠ 0 := by rw [lnP_topc]; exact one_ne
  have eu : Eu (cf (lnP cs)) (lnP (cs ++ xs)) (lnP (cs ++ ys)) := ⟨cf (lnP xs), cf (lnP ys), fin_cf _, fin_cf _, cop_lnP2 xs ys hd, lnP_app _ _, lnP_app _ _⟩
  obtain ⟨res, r1, r2, r3, c, c0, r4⟩ := eu_run dC C0 8 xs.length ys.length 23 23 (lnP (cs ++ xs)) (lnP (cs ++ ys)) (wB_ok _ (by omega) _ (by omega) (by omega)) (.inl (by omega)) (by rw [lnP_len, List.length_append]) (by rw [lnP_len, List.length_append])
    (lnP_rt (fun a ha => (List.mem_append.mp ha).elim (h1 a) (h2 a)) (by rw [List.length_append]; omega)) (lnP_rt (fun a ha => (List.mem_append.mp ha).elim (h1 a) (h3 a)) (by rw [List.length_append]; omega)) (lnP_last _) (lnP_last _) (lnP_ok _) (lnP_ok _) eu
  rw [mon_unique r2 (lnP_ok cs) r3 (lnP_last cs) r4] at r1
  exact r1
/-- a row by nought, nought by a row -/
theorem run_nil_r {A : List Cq} : EuRun (monL A) (monL []) (monL A) := .done _
theorem run_nil_l {v : List Cq} (h : v.getLastD 0 = 1) (hv : v ≠ []) (hk : RtR k v) (hk2 : k ≤ 700) : EuRun (monL []) v v := by
  refine .go _ _ [] _ 1 k hv h RtR_nil hk (by show 1 + (0 - (v.length - 1)) * (k + 2) ≤ 749; rw [Nat.zero_sub, Nat.zero_mul]; decide) (by omega) ⟨.inl rfl, fun i => ?_⟩ (.done _)
  have : (monL []).length - (v.length - 1) = 0 := by show 0 - _ = 0; omega
  rw [this]
  rfl
/-- a row that is built of a factor and a rest -/
theorem div_row {o qs r row : List Cq} (o0 : o ≠ []) (oL : o.getLastD 0 ≠ 0) (hr : r.length < o.length) (e : cf row = adS (cv (cf qs) (cf o)) (cf r)) : cf (rrF o (row.length - (o.length - 1)) (row, [])).2 = cf qs ∧ cf (rrF o (row.length - (o.length - 1)) (row, [])).1 = cf r := by
  have ho : o.length = (o.length - 1) + 1 := by have := List.length_pos_iff.mpr o0; omega
  have on : cf o (o.length - 1) ≠ 0 := by rw [← last_cf o0]; exact oL
  have dO : dg (cf o) (o.length - 1 + 1) := by rw [← ho]; exact dg_cf o
  by_cases h : o.length - 1 ≤ row.length
  · obtain ⟨h1, h2⟩ := dv_ok ho oL h
    rw [e] at h2
    exact dv_one (N := (rrF o (row.length - (o.length - 1)) (row, [])).2.length + qs.length) ((dg_cf _).mono (by omega)) ((dg_cf _).mono (by omega)) dO on ((dg_cf _).mono (by omega)) ((dg_cf _).mono (by omega)) h2
  · have z : row.length - (o.length - 1) = 0 := by omega
    rw [z]
    have h2 : adS (cv (cf []) (cf o)) (cf row) = adS (cv (cf qs) (cf o)) (cf r) := by
      rw [← e]
      have : cf [] = zS := funext fun i => cf_nil i
      rw [this]
      exact funext fun i => by show cv zS (cf o) i + cf row i = cf row i; rw [cv_z_l]; grind
    exact dv_one (N := qs.length) (q := cf []) (r := cf row) ((dg_cf _).mono (Nat.zero_le _)) (dg_cf _) dO on ((dg_cf _).mono (by omega)) ((dg_cf _).mono (by omega)) h2
/-! ### roots so many times -/
def sprN (rs : List Cq) (f : Nat → Nat) : Nat → List Cq
  | 0 => [] | k + 1 => sprN rs f k ++ List.replicate (f k) (cf rs k)
theorem spr_mem {rs : List Cq} {f : Nat → Nat} {a : Cq} : ∀ k, a ∈ sprN rs f k → ∃ i, i < k ∧ a = cf rs i ∧ 0 < f i
  | 0, h => by cases h
  | k + 1, h => by
    rcases List.mem_append.mp h with h | h
    · obtain ⟨i, h1, h2, h3⟩ := spr_mem k h
      exact ⟨i, by omega, h2, h3⟩
    · exact ⟨k, by omega, List.eq_of_mem_replicate h, by
        rcases Nat.eq_zero_or_pos (f k) with z | z
        · rw [z] at h; cases h
        · exact z⟩
theorem spr_len {rs : List Cq} {f : Nat → Nat} : ∀ k, (sprN rs f (k + 1)).length = (sprN rs f k).length + f k := fun k => by
  show (sprN rs f k ++ List.replicate (f k) (cf rs k)).length = _
  rw [List.length_append, List.length_replicate]
theorem spr_two {rs : List Cq} {f g : Nat → Nat} (h : ∀ i, f i + g i ≤ 2) : ∀ k, (sprN rs f k).length + (sprN rs g k).length ≤ 2 * k
  | 0 => Nat.le_refl _
  | k + 1 => by have := spr_two (rs := rs) h k; have := h k; rw [spr_len, spr_len]; omega
end
end PD

set_option Elab.async false
set_option linter.all false
set_option maxRecDepth 100000
set_option maxHeartbeats 0
namespace W
open PySem PySem.Spec PyProof.Rows L2 PD
def top (i : Nat) : Stmt := PySem.Challenge.pw_withinrim_k05_whole_rows_divided_and_com.main.body.getD i (.Pass ⟨0, 0, 0, 0⟩)
def c_NOUGHT : Str × D := ("NOUGHT", .tup [.tup [.int 0, .int 1], .tup [.int 0, .int 1]])
def c_FRAC_ONE : Str × D := ("FRAC_ONE", .tup [.int 1, .int 1])
def c_ONE : Str × D := ("ONE", .tup [.tup [.int 1, .int 1], .tup [.int 0, .int 1]])

/-! ### _law_dip -/
def N_Ldip : List Str := ["_law_pail_here", "_law_many_here", "_law_one", "_law_figure"]
def P_Ldip : List Str := ["_law_pail_here", "_law_many_here"]
noncomputable def G_Ldip : Gam := ⟨[], [], ["divmod", "int"], []⟩
def b_Ldip : Sms := .cons (.ife (.cmp .gt (.ix (.nm 0) (.lit (.int 0))) (.lit (.int 0))) (.cons (.asg (.tup (.cons (.sub 0 (.lit (.int 0))) (.cons (.nm 3) .nil))) (.bi .divmod (.cons (.ix (.nm 0) (.lit (.int 0))) (.cons (.nm 1) .nil)))) (.cons (.ret (.nm 3)) .nil)) .nil) (.cons (.asg (.sub 0 (.lit (.int 2))) (.bin .add (.ix (.nm 0) (.lit (.int 2))) (.lit (.int 1)))) (.cons (.asg (.nm 2) (.bin .mod (.bi .int1 (.cons (.bin .add (.bin .mul (.ix (.nm 0) (.lit (.int 1))) (.lit (.int 48271))) (.bin .mul (.ix (.nm 0) (.lit (.int 2))) (.lit (.int 69621)))) .nil)) (.lit (.int 2147483629)))) (.cons (.asg (.sub 0 (.lit (.int 1))) (.bin .mod (.bi .int1 (.cons (.bin .add (.bin .mul (.nm 2) (.bin .add (.bin .fdiv (.nm 2) (.lit (.int 4099))) (.bin .mul (.lit (.int 3)) (.ix (.nm 0) (.lit (.int 2)))))) (.lit (.int 16807))) .nil)) (.lit (.int 2147483629)))) (.cons (.ret (.bin .mod (.bi .int1 (.cons (.bin .fdiv (.ix (.nm 0) (.lit (.int 1))) (.lit (.int 257))) .nil)) (.nm 1))) .nil))))
theorem s_Ldip : FnScope N_Ldip P_Ldip (defScope (top 35)) := C8.fnScope_by (by kernel_rfl)
theorem k_Ldip : chSs G_Ldip ⟨N_Ldip, (defScope (top 35)).names, fun _ => true⟩ b_Ldip (defBody (top 35)) = true := by kernel_rfl
def d_Ldip : He.DefD := ⟨("_law_dip", none), "_law_dip", "_law_dip", defArgs (top 35), defBody (top 35), defScope (top 35), [], []⟩
noncomputable def e_Ldip_2 : Ent := mkEnt "_law_dip" 2 [] [] [0, 1] G_Ldip 4 b_Ldip

/-! ### _law_gcd -/
def N_Lgcd : List Str := ["_law_a", "_law_b"]
def P_Lgcd : List Str := ["_law_a", "_law_b"]
noncomputable def G_Lgcd : Gam := ⟨[], [], ["abs", "int"], []⟩
def b_Lgcd : Sms := .cons (.par [0, 1] (.cons (.bi .abs (.cons (.nm 0) .nil)) (.cons (.bi .abs (.cons (.nm 1) .nil)) .nil))) (.cons (.wh (.cmp .gt (.nm 1) (.lit (.int 0))) (.cons (.par [0, 1] (.cons (.nm 1) (.cons (.bin .mod (.bi .int1 (.cons (.nm 0) .nil)) (.nm 1)) .nil))) .nil)) (.cons (.ret (.nm 0)) .nil))
theorem s_Lgcd : FnScope N_Lgcd P_Lgcd (defScope (top 36)) := C8.fnScope_by (by kernel_rfl)
theorem k_Lgcd : chSs G_Lgcd ⟨N_Lgcd, (defScope (top 36)).names, fun _ => true⟩ b_Lgcd (defBody (top 36)) = true := by kernel_rfl
def d_Lgcd : He.DefD := ⟨("_law_gcd", none), "_law_gcd", "_law_gcd", defArgs (top 36), defBody (top 36), defScope (top 36), [], []⟩
noncomputable def e_Lgcd_2 : Ent := mkEnt "_law_gcd" 2 [] [] [0, 1] G_Lgcd 2 b_Lgcd

/-! ### _law_cut -/
def N_Lcut : List Str := ["_law_a", "_law_b", "_law_d", "_law_g"]
def P_Lcut : List Str := ["_law_a", "_law_b", "_law_d"]
noncomputable def G_Lcut : Gam := ⟨[e_Lgcd_2], [], [], []⟩
def b_Lcut : Sms := .cons (.asg (.nm 3) (.call 0 (.cons (.call 0 (.cons (.nm 0) (.cons (.nm 1) .nil)) .nil) (.cons (.nm 2) .nil)) .nil)) (.cons (.ife (.cmp .lt (.nm 2) (.lit (.int 0))) (.cons (.asg (.nm 3) (.bin .sub (.lit (.int 0)) (.nm 3))) .nil) .nil) (.cons (.ret (.tup (.cons (.bin .fdiv (.nm 0) (.nm 3)) (.cons (.bin .fdiv (.nm 1) (.nm 3)) (.cons (.bin .fdiv (.nm 2) (.nm 3)) .nil))))) .nil))
theorem s_Lcut : FnScope N_Lcut P_Lcut (defScope (top 37)) := C8.fnScope_by (by kernel_rfl)
theorem k_Lcut : chSs G_Lcut ⟨N_Lcut, (defScope (top 37)).names, fun _ => true⟩ b_Lcut (defBody (top 37)) = true := by kernel_rfl
def d_Lcut : He.DefD := ⟨("_law_cut", none), "_law_cut", "_law_cut", defArgs (top 37), defBody (top 37), defScope (top 37), [], []⟩
noncomputable def e_Lcut_3 : Ent := mkEnt "_law_cut" 3 [] [] [0, 1, 2] G_Lcut 4 b_Lcut

/-! ### _law_drawn -/
def N_Ldrawn : List Str := ["_law_pail_here", "_law_top", "_law_low", "_law_a", "_law_b"]
def P_Ldrawn : List Str := ["_law_pail_here", "_law_top", "_law_low"]
noncomputable def G_Ldrawn : Gam := ⟨[e_Ldip_2, e_Lcut_3], [], [], []⟩
def b_Ldrawn : Sms := .cons (.par [3, 4] (.cons (.bin .sub (.call 0 (.cons (.nm 0) (.cons (.bin .add (.bin .mul (.lit (.int 2)) (.nm 1)) (.lit (.int 1))) .nil)) .nil) (.nm 1)) (.cons (.bin .sub (.call 0 (.cons (.nm 0) (.cons (.bin .add (.bin .mul (.lit (.int 2)) (.nm 1)) (.lit (.int 1))) .nil)) .nil) (.nm 1)) .nil))) (.cons (.ife (.cmp .eq (.call 0 (.cons (.nm 0) (.cons (.lit (.int 3)) .nil)) .nil) (.lit (.int 0))) (.cons (.asg (.nm 4) (.lit (.int 0))) .nil) .nil) (.cons (.ret (.call 1 (.cons (.nm 3) (.cons (.nm 4) (.cons (.bin .add (.lit (.int 1)) (.call 0 (.cons (.nm 0) (.cons (.nm 2) .nil)) .nil)) .nil))) .nil)) .nil))
theorem s_Ldrawn : FnScope N_Ldrawn P_Ldrawn (defScope (top 38)) := C8.fnScope_by (by kernel_rfl)
theorem k_Ldrawn : chSs G_Ldrawn ⟨N_Ldrawn, (defScope (top 38)).names, fun _ => true⟩ b_Ldrawn (defBody (top 38)) = true := by kernel_rfl
def d_Ldrawn : He.DefD := ⟨("_law_drawn", none), "_law_drawn", "_law_drawn", defArgs (top 38), defBody (top 38), defScope (top 38), [], []⟩
noncomputable def e_Ldrawn_3 : Ent := mkEnt "_law_drawn" 3 [] [] [0, 1, 2] G_Ldrawn 5 b_Ldrawn

/-! ### _law_roots -/
def N_Lroots : List Str := ["_law_pail_here", "_law_found", "_law_k", "_law_x"]
def P_Lroots : List Str := ["_law_pail_here"]
noncomputable def G_Lroots : Gam := ⟨[e_Ldip_2, e_Ldrawn_3], [], ["range"], []⟩
def b_Lroots : Sms := .cons (.own 1 (.disp .nil)) (.cons (.for_ (.nm 2) (.range1 (.call 0 (.cons (.nm 0) (.cons (.lit (.int 4)) .nil)) .nil)) (.cons (.asg (.nm 3) (.call 1 (.cons (.nm 0) (.cons (.lit (.int 3)) (.cons (.lit (.int 2)) .nil))) .nil)) (.cons (.ife (.cmp .notin (.nm 3) (.nm 1)) (.cons (.app 1 (.nm 3)) .nil) .nil) .nil))) (.cons (.fz 1) (.cons (.ret (.nm 1)) .nil)))
theorem s_Lroots : FnScope N_Lroots P_Lroots (defScope (top 52)) := C8.fnScope_by (by kernel_rfl)
theorem k_Lroots : chSs G_Lroots ⟨N_Lroots, (defScope (top 52)).names, fun _ => true⟩ b_Lroots (defBody (top 52)) = true := by kernel_rfl
def d_Lroots : He.DefD := ⟨("_law_roots", none), "_law_roots", "_law_roots", defArgs (top 52), defBody (top 52), defScope (top 52), [], []⟩
noncomputable def e_Lroots_1 : Ent := mkEnt "_law_roots" 1 [] [] [0] G_Lroots 4 b_Lroots

/-! ### _law_trim -/
def N_Ltrim : List Str := ["_law_row_here", "_law_many_here", "_law_at"]
def P_Ltrim : List Str := ["_law_row_here"]
noncomputable def G_Ltrim : Gam := ⟨[], [], ["len", "range", "list"], []⟩
def b_Ltrim : Sms := .cons (.asg (.nm 1) (.bi .len (.cons (.nm 0) .nil))) (.cons (.for_ (.nm 2) (.range1 (.bi .len (.cons (.nm 0) .nil))) (.cons (.ife (.and (.cmp .eq (.nm 1) (.bin .sub (.bi .len (.cons (.nm 0) .nil)) (.nm 2))) (.cmp .eq (.slc (.ix (.nm 0) (.bin .sub (.nm 1) (.lit (.int 1)))) .none (.some (.lit (.int 2)))) (.tup (.cons (.lit (.int 0)) (.cons (.lit (.int 0)) .nil))))) (.cons (.asg (.nm 1) (.bin .sub (.nm 1) (.lit (.int 1)))) .nil) .nil) .nil)) (.cons (.ret (.fr (.list (.fr (.slc (.nm 0) .none (.some (.nm 1))))))) .nil))
theorem s_Ltrim : FnScope N_Ltrim P_Ltrim (defScope (top 39)) := C8.fnScope_by (by kernel_rfl)
theorem k_Ltrim : chSs G_Ltrim ⟨N_Ltrim, (defScope (top 39)).names, fun _ => true⟩ b_Ltrim (defBody (top 39)) = true := by kernel_rfl
def d_Ltrim : He.DefD := ⟨("_law_trim", none), "_law_trim", "_law_trim", defArgs (top 39), defBody (top 39), defScope (top 39), [], []⟩
noncomputable def e_Ltrim_1 : Ent := mkEnt "_law_trim" 1 [] [] [0] G_Ltrim 3 b_Ltrim

/-! ### _law_row_times -/
def N_Lrow_times : List Str := ["_law_one", "_law_two", "_law_whole", "_law_down", "_law_row_here", "_law_many_here", "_law_left", "_law_right_here", "_law_j", "_law_low", "_law_each", "_law_k", "_law_a", "_law_b", "_law_c", "_law_d"]
def P_Lrow_times : List Str := ["_law_one", "_law_two"]
noncomputable def G_Lrow_times : Gam := ⟨[e_Lgcd_2, e_Ltrim_1, e_Lcut_3], [], ["max", "len", "range"], []⟩
def b_Lrow_times : Sms := .cons (.asg (.tup (.cons (.nm 2) (.cons (.nm 3) .nil))) (.tup (.cons (.nwc (.disp .nil)) (.cons (.lit (.int 1)) .nil)))) (.cons (.for_ (.nm 4) (.seq (.fr (.disp (.cons (.nm 0) (.cons (.nm 1) .nil))))) (.cons (.asg (.nm 9) (.lit (.int 1))) (.cons (.for_ (.nm 10) (.seq (.nm 4)) (.cons (.asg (.nm 9) (.bin .mul (.bin .fdiv (.nm 9) (.call 0 (.cons (.nm 9) (.cons (.ix (.nm 10) (.lit (.int 2))) .nil)) .nil)) (.ix (.nm 10) (.lit (.int 2))))) .nil)) (.cons (.app 2 (.fr (.comp (.tup (.cons (.bin .mul (.ix (.nm 10) (.lit (.int 0))) (.bin .fdiv (.nm 9) (.ix (.nm 10) (.lit (.int 2))))) (.cons (.bin .mul (.ix (.nm 10) (.lit (.int 1))) (.bin .fdiv (.nm 9) (.ix (.nm 10) (.lit (.int 2))))) .nil))) (.nm 10) (.seq (.nm 4)) .none [10]))) (.cons (.asg (.nm 3) (.bin .mul (.nm 3) (.nm 9))) .nil))))) (.cons (.asg (.nm 5) (.bi .max2 (.cons (.lit (.int 0)) (.cons (.bin .sub (.bin .add (.bi .len (.cons (.nm 0) .nil)) (.bi .len (.cons (.nm 1) .nil))) (.lit (.int 1))) .nil)))) (.cons (.asg (.tup (.cons (.nm 6) (.cons (.nm 7) .nil))) (.tup (.cons (.nwc (.rep (.disp (.cons (.lit (.int 0)) .nil)) (.nm 5))) (.cons (.nwc (.rep (.disp (.cons (.lit (.int 0)) .nil)) (.nm 5))) .nil)))) (.cons (.for_ (.nm 8) (.range1 (.bi .len (.cons (.nm 0) .nil))) (.cons (.for_ (.nm 11) (.range1 (.bi .len (.cons (.nm 1) .nil))) (.cons (.asg (.tup (.cons (.nm 12) (.cons (.nm 13) .nil))) (.ix (.ix (.nm 2) (.lit (.int 0))) (.nm 8))) (.cons (.asg (.tup (.cons (.nm 14) (.cons (.nm 15) .nil))) (.ix (.ix (.nm 2) (.lit (.int 1))) (.nm 11))) (.cons (.asg (.sub 6 (.bin .add (.nm 8) (.nm 11))) (.bin .sub (.bin .add (.ix (.nm 6) (.bin .add (.nm 8) (.nm 11))) (.bin .mul (.nm 12) (.nm 14))) (.bin .mul (.nm 13) (.nm 15)))) (.cons (.asg (.sub 7 (.bin .add (.nm 8) (.nm 11))) (.bin .add (.bin .add (.ix (.nm 7) (.bin .add (.nm 8) (.nm 11))) (.bin .mul (.nm 12) (.nm 15))) (.bin .mul (.nm 13) (.nm 14)))) .nil))))) .nil)) (.cons (.ret (.call 1 (.cons (.fr (.comp (.call 2 (.cons (.ix (.nm 6) (.nm 11)) (.cons (.ix (.nm 7) (.nm 11)) (.cons (.nm 3) .nil))) .nil) (.nm 11) (.range1 (.nm 5)) .none [11])) .nil) .nil)) .nil)))))
theorem s_Lrow_times : FnScope N_Lrow_times P_Lrow_times (defScope (top 44)) := C8.fnScope_by (by kernel_rfl)
theorem k_Lrow_times : chSs G_Lrow_times ⟨N_Lrow_times, (defScope (top 44)).names, fun _ => true⟩ b_Lrow_times (defBody (top 44)) = true := by kernel_rfl
def d_Lrow_times : He.DefD := ⟨("_law_row_times", none), "_law_row_times", "_law_row_times", defArgs (top 44), defBody (top 44), defScope (top 44), [], []⟩
noncomputable def e_Lrow_times_2_S : Ent := sealE (mkEnt "_law_row_times" 2 [] [] [0, 1] G_Lrow_times 16 b_Lrow_times)

/-! ### _law_monic -/
def N_Lmonic : List Str := ["_law_roots_here", "_law_found", "_law_each"]
def P_Lmonic : List Str := ["_law_roots_here"]
noncomputable def G_Lmonic : Gam := ⟨[e_Lrow_times_2_S], [], [], []⟩
def b_Lmonic : Sms := .cons (.asg (.nm 1) (.fr (.disp (.cons (.tup (.cons (.lit (.int 1)) (.cons (.lit (.int 0)) (.cons (.lit (.int 1)) .nil)))) .nil)))) (.cons (.for_ (.nm 2) (.seq (.nm 0)) (.cons (.asg (.nm 1) (.call 0 (.cons (.nm 1) (.cons (.fr (.disp (.cons (.tup (.cons (.bin .sub (.lit (.int 0)) (.ix (.nm 2) (.lit (.int 0)))) (.cons (.bin .sub (.lit (.int 0)) (.ix (.nm 2) (.lit (.int 1)))) (.cons (.ix (.nm 2) (.lit (.int 2))) .nil)))) (.cons (.tup (.cons (.lit (.int 1)) (.cons (.lit (.int 0)) (.cons (.lit (.int 1)) .nil)))) .nil)))) .nil)) .nil)) .nil)) (.cons (.ret (.nm 1)) .nil))
theorem s_Lmonic : FnScope N_Lmonic P_Lmonic (defScope (top 48)) := C8.fnScope_by (by kernel_rfl)
theorem k_Lmonic : chSs G_Lmonic ⟨N_Lmonic, (defScope (top 48)).names, fun _ => true⟩ b_Lmonic (defBody (top 48)) = true := by kernel_rfl
def d_Lmonic : He.DefD := ⟨("_law_monic", none), "_law_monic", "_law_monic", defArgs (top 48), defBody (top 48), defScope (top 48), [], []⟩
noncomputable def e_Lmonic_1 : Ent := mkEnt "_law_monic" 1 [] [] [0] G_Lmonic 3 b_Lmonic

/-! ### _law_times -/
def N_Ltimes : List Str := ["_law_x", "_law_y"]
def P_Ltimes : List Str := ["_law_x", "_law_y"]
noncomputable def G_Ltimes : Gam := ⟨[e_Lcut_3], [], [], []⟩
def b_Ltimes : Sms := .cons (.ret (.call 0 (.cons (.bin .sub (.bin .mul (.ix (.nm 0) (.lit (.int 0))) (.ix (.nm 1) (.lit (.int 0)))) (.bin .mul (.ix (.nm 0) (.lit (.int 1))) (.ix (.nm 1) (.lit (.int 1))))) (.cons (.bin .add (.bin .mul (.ix (.nm 0) (.lit (.int 0))) (.ix (.nm 1) (.lit (.int 1)))) (.bin .mul (.ix (.nm 0) (.lit (.int 1))) (.ix (.nm 1) (.lit (.int 0))))) (.cons (.bin .mul (.ix (.nm 0) (.lit (.int 2))) (.ix (.nm 1) (.lit (.int 2)))) .nil))) .nil)) .nil
theorem s_Ltimes : FnScope N_Ltimes P_Ltimes (defScope (top 43)) := C8.fnScope_by (by kernel_rfl)
theorem k_Ltimes : chSs G_Ltimes ⟨N_Ltimes, (defScope (top 43)).names, fun _ => true⟩ b_Ltimes (defBody (top 43)) = true := by kernel_rfl
def d_Ltimes : He.DefD := ⟨("_law_times", none), "_law_times", "_law_times", defArgs (top 43), defBody (top 43), defScope (top 43), [], []⟩
noncomputable def e_Ltimes_2 : Ent := mkEnt "_law_times" 2 [] [] [0, 1] G_Ltimes 2 b_Ltimes

/-! ### _law_scaled -/
def N_Lscaled : List Str := ["_law_row_here", "_law_x", "_law_each"]
def P_Lscaled : List Str := ["_law_row_here", "_law_x"]
noncomputable def G_Lscaled : Gam := ⟨[e_Ltimes_2], [], [], []⟩
def b_Lscaled : Sms := .cons (.ret (.fr (.comp (.call 0 (.cons (.nm 2) (.cons (.nm 1) .nil)) .nil) (.nm 2) (.seq (.nm 0)) .none [2]))) .nil
theorem s_Lscaled : FnScope N_Lscaled P_Lscaled (defScope (top 50)) := C8.fnScope_by (by kernel_rfl)
theorem k_Lscaled : chSs G_Lscaled ⟨N_Lscaled, (defScope (top 50)).names, fun _ => true⟩ b_Lscaled (defBody (top 50)) = true := by kernel_rfl
def d_Lscaled : He.DefD := ⟨("_law_scaled", none), "_law_scaled", "_law_scaled", defArgs (top 50), defBody (top 50), defScope (top 50), [], []⟩
noncomputable def e_Lscaled_2 : Ent := mkEnt "_law_scaled" 2 [] [] [0, 1] G_Lscaled 3 b_Lscaled

/-! ### _law_fraction -/
def N_Lfraction : List Str := ["_law_n", "_law_m", "_law_g"]
def P_Lfraction : List Str := ["_law_n", "_law_m"]
noncomputable def G_Lfraction : Gam := ⟨[e_Lgcd_2], [], [], []⟩
def b_Lfraction : Sms := .cons (.asg (.nm 2) (.call 0 (.cons (.nm 0) (.cons (.nm 1) .nil)) .nil)) (.cons (.ife (.cmp .lt (.nm 1) (.lit (.int 0))) (.cons (.asg (.nm 2) (.bin .sub (.lit (.int 0)) (.nm 2))) .nil) .nil) (.cons (.ret (.tup (.cons (.bin .fdiv (.nm 0) (.nm 2)) (.cons (.bin .fdiv (.nm 1) (.nm 2)) .nil)))) .nil))
theorem s_Lfraction : FnScope N_Lfraction P_Lfraction (defScope (top 45)) := C8.fnScope_by (by kernel_rfl)
theorem k_Lfraction : chSs G_Lfraction ⟨N_Lfraction, (defScope (top 45)).names, fun _ => true⟩ b_Lfraction (defBody (top 45)) = true := by kernel_rfl
def d_Lfraction : He.DefD := ⟨("_law_fraction", none), "_law_fraction", "_law_fraction", defArgs (top 45), defBody (top 45), defScope (top 45), [], []⟩
noncomputable def e_Lfraction_2 : Ent := mkEnt "_law_fraction" 2 [] [] [0, 1] G_Lfraction 3 b_Lfraction

/-! ### _law_told -/
def N_Ltold : List Str := ["_law_x"]
def P_Ltold : List Str := ["_law_x"]
noncomputable def G_Ltold : Gam := ⟨[e_Lfraction_2], [], [], []⟩
def b_Ltold : Sms := .cons (.ret (.tup (.cons (.call 0 (.cons (.ix (.nm 0) (.lit (.int 0))) (.cons (.ix (.nm 0) (.lit (.int 2))) .nil)) .nil) (.cons (.call 0 (.cons (.ix (.nm 0) (.lit (.int 1))) (.cons (.ix (.nm 0) (.lit (.int 2))) .nil)) .nil) .nil)))) .nil
theorem s_Ltold : FnScope N_Ltold P_Ltold (defScope (top 46)) := C8.fnScope_by (by kernel_rfl)
theorem k_Ltold : chSs G_Ltold ⟨N_Ltold, (defScope (top 46)).names, fun _ => true⟩ b_Ltold (defBody (top 46)) = true := by kernel_rfl
def d_Ltold : He.DefD := ⟨("_law_told", none), "_law_told", "_law_told", defArgs (top 46), defBody (top 46), defScope (top 46), [], []⟩
noncomputable def e_Ltold_1 : Ent := mkEnt "_law_told" 1 [] [] [0] G_Ltold 1 b_Ltold

/-! ### _law_told_row -/
def N_Ltold_row : List Str := ["_law_row_here", "_law_each"]
def P_Ltold_row : List Str := ["_law_row_here"]
noncomputable def G_Ltold_row : Gam := ⟨[e_Ltrim_1, e_Ltold_1], [], ["tuple"], []⟩
def b_Ltold_row : Sms := .cons (.ret (.bi .tuple (.cons (.fr (.comp (.call 1 (.cons (.nm 1) .nil) .nil) (.nm 1) (.seq (.call 0 (.cons (.nm 0) .nil) .nil)) .none [1])) .nil))) .nil
theorem s_Ltold_row : FnScope N_Ltold_row P_Ltold_row (defScope (top 47)) := C8.fnScope_by (by kernel_rfl)
theorem k_Ltold_row : chSs G_Ltold_row ⟨N_Ltold_row, (defScope (top 47)).names, fun _ => true⟩ b_Ltold_row (defBody (top 47)) = true := by kernel_rfl
def d_Ltold_row : He.DefD := ⟨("_law_told_row", none), "_law_told_row", "_law_told_row", defArgs (top 47), defBody (top 47), defScope (top 47), [], []⟩
noncomputable def e_Ltold_row_1 : Ent := mkEnt "_law_told_row" 1 [] [] [0] G_Ltold_row 2 b_Ltold_row

/-! ### _law_add -/
def N_Ladd : List Str := ["_law_x", "_law_y"]
def P_Ladd : List Str := ["_law_x", "_law_y"]
noncomputable def G_Ladd : Gam := ⟨[e_Lcut_3], [], [], []⟩
def b_Ladd : Sms := .cons (.ret (.call 0 (.cons (.bin .add (.bin .mul (.ix (.nm 0) (.lit (.int 0))) (.ix (.nm 1) (.lit (.int 2)))) (.bin .mul (.ix (.nm 1) (.lit (.int 0))) (.ix (.nm 0) (.lit (.int 2))))) (.cons (.bin .add (.bin .mul (.ix (.nm 0) (.lit (.int 1))) (.ix (.nm 1) (.lit (.int 2)))) (.bin .mul (.ix (.nm 1) (.lit (.int 1))) (.ix (.nm 0) (.lit (.int 2))))) (.cons (.bin .mul (.ix (.nm 0) (.lit (.int 2))) (.ix (.nm 1) (.lit (.int 2)))) .nil))) .nil)) .nil
theorem s_Ladd : FnScope N_Ladd P_Ladd (defScope (top 41)) := C8.fnScope_by (by kernel_rfl)
theorem k_Ladd : chSs G_Ladd ⟨N_Ladd, (defScope (top 41)).names, fun _ => true⟩ b_Ladd (defBody (top 41)) = true := by kernel_rfl
def d_Ladd : He.DefD := ⟨("_law_add", none), "_law_add", "_law_add", defArgs (top 41), defBody (top 41), defScope (top 41), [], []⟩
noncomputable def e_Ladd_2 : Ent := mkEnt "_law_add" 2 [] [] [0, 1] G_Ladd 2 b_Ladd

/-! ### _law_row_sum -/
def N_Lrow_sum : List Str := ["_law_one", "_law_two", "_law_many_here", "_law_long", "_law_row_here", "_law_k"]
def P_Lrow_sum : List Str := ["_law_one", "_law_two"]
noncomputable def G_Lrow_sum : Gam := ⟨[e_Ltrim_1, e_Ladd_2], [], ["max", "len", "list", "range"], []⟩
def b_Lrow_sum : Sms := .cons (.asg (.nm 2) (.bi .max2 (.cons (.bi .len (.cons (.nm 0) .nil)) (.cons (.bi .len (.cons (.nm 1) .nil)) .nil)))) (.cons (.asg (.nm 3) (.fr (.comp (.fr (.cat (.fr (.list (.nm 4))) (.fr (.rep (.disp (.cons (.tup (.cons (.lit (.int 0)) (.cons (.lit (.int 0)) (.cons (.lit (.int 1)) .nil)))) .nil)) (.bin .sub (.nm 2) (.bi .len (.cons (.nm 4) .nil))))))) (.nm 4) (.seq (.fr (.disp (.cons (.nm 0) (.cons (.nm 1) .nil))))) .none [4]))) (.cons (.ret (.call 0 (.cons (.fr (.comp (.call 1 (.cons (.ix (.ix (.nm 3) (.lit (.int 0))) (.nm 5)) (.cons (.ix (.ix (.nm 3) (.lit (.int 1))) (.nm 5)) .nil)) .nil) (.nm 5) (.range1 (.nm 2)) .none [5])) .nil) .nil)) .nil))
theorem s_Lrow_sum : FnScope N_Lrow_sum P_Lrow_sum (defScope (top 42)) := C8.fnScope_by (by kernel_rfl)
theorem k_Lrow_sum : chSs G_Lrow_sum ⟨N_Lrow_sum, (defScope (top 42)).names, fun _ => true⟩ b_Lrow_sum (defBody (top 42)) = true := by kernel_rfl
def d_Lrow_sum : He.DefD := ⟨("_law_row_sum", none), "_law_row_sum", "_law_row_sum", defArgs (top 42), defBody (top 42), defScope (top 42), [], []⟩
noncomputable def e_Lrow_sum_2 : Ent := mkEnt "_law_row_sum" 2 [] [] [0, 1] G_Lrow_sum 6 b_Lrow_sum

/-! ### _law_row -/
def N_Lrow : List Str := ["_law_pail_here", "_law_most", "_law_row_here", "_law_k", "_law_each"]
def P_Lrow : List Str := ["_law_pail_here", "_law_most"]
noncomputable def G_Lrow : Gam := ⟨[e_Ldip_2, e_Ldrawn_3, e_Ltrim_1], [], ["range"], []⟩
def b_Lrow : Sms := .cons (.asg (.nm 2) (.fr (.comp (.call 1 (.cons (.nm 0) (.cons (.lit (.int 4)) (.cons (.lit (.int 3)) .nil))) .nil) (.nm 3) (.range1 (.call 0 (.cons (.nm 0) (.cons (.bin .add (.nm 1) (.lit (.int 1))) .nil)) .nil)) .none [3]))) (.cons (.ret (.call 2 (.cons (.fr (.comp (.ife (.cmp .eq (.call 0 (.cons (.nm 0) (.cons (.lit (.int 5)) .nil)) .nil) (.lit (.int 0))) (.tup (.cons (.lit (.int 0)) (.cons (.lit (.int 0)) (.cons (.lit (.int 1)) .nil)))) (.nm 4)) (.nm 4) (.seq (.nm 2)) .none [4])) .nil) .nil)) .nil)
theorem s_Lrow : FnScope N_Lrow P_Lrow (defScope (top 40)) := C8.fnScope_by (by kernel_rfl)
theorem k_Lrow : chSs G_Lrow ⟨N_Lrow, (defScope (top 40)).names, fun _ => true⟩ b_Lrow (defBody (top 40)) = true := by kernel_rfl
def d_Lrow : He.DefD := ⟨("_law_row", none), "_law_row", "_law_row", defArgs (top 40), defBody (top 40), defScope (top 40), [], []⟩
noncomputable def e_Lrow_2 : Ent := mkEnt "_law_row" 2 [] [] [0, 1] G_Lrow 5 b_Lrow

/-! ### _law_many -/
def N_Lmany : List Str := ["_law_pail_here", "_law_x"]
def P_Lmany : List Str := ["_law_pail_here"]
noncomputable def G_Lmany : Gam := ⟨[e_Ldrawn_3], [], [], []⟩
def b_Lmany : Sms := .cons (.asg (.nm 1) (.call 0 (.cons (.nm 0) (.cons (.lit (.int 4)) (.cons (.lit (.int 3)) .nil))) .nil)) (.cons (.ret (.ife (.cmp .ne (.slc (.nm 1) .none (.some (.lit (.int 2)))) (.tup (.cons (.lit (.int 0)) (.cons (.lit (.int 0)) .nil)))) (.nm 1) (.tup (.cons (.lit (.int 0)) (.cons (.bin .sub (.lit (.int 0)) (.lit (.int 1))) (.cons (.lit (.int 2)) .nil)))))) .nil)
theorem s_Lmany : FnScope N_Lmany P_Lmany (defScope (top 51)) := C8.fnScope_by (by kernel_rfl)
theorem k_Lmany : chSs G_Lmany ⟨N_Lmany, (defScope (top 51)).names, fun _ => true⟩ b_Lmany (defBody (top 51)) = true := by kernel_rfl
def d_Lmany : He.DefD := ⟨("_law_many", none), "_law_many", "_law_many", defArgs (top 51), defBody (top 51), defScope (top 51), [], []⟩
noncomputable def e_Lmany_1 : Ent := mkEnt "_law_many" 1 [] [] [0] G_Lmany 2 b_Lmany

/-! ### is_whole -/
def N_is_whole : List Str := ["value"]
def P_is_whole : List Str := ["value"]
noncomputable def G_is_whole : Gam := ⟨[], [], ["isinstance", "bool", "int"], []⟩
def b_is_whole : Sms := .cons (.ret (.and (.isi (.nm 0) "int") (.not (.isi (.nm 0) "bool")))) .nil
theorem s_is_whole : FnScope N_is_whole P_is_whole (defScope (top 9)) := C8.fnScope_by (by kernel_rfl)
theorem k_is_whole : chSs G_is_whole ⟨N_is_whole, (defScope (top 9)).names, fun _ => true⟩ b_is_whole (defBody (top 9)) = true := by kernel_rfl
def d_is_whole : He.DefD := ⟨("is_whole", none), "is_whole", "is_whole", defArgs (top 9), defBody (top 9), defScope (top 9), [], []⟩
noncomputable def e_is_whole_1 : Ent := mkEnt "is_whole" 1 [] [] [0] G_is_whole 1 b_is_whole

/-! ### is_frac -/
def N_is_frac : List Str := ["value"]
def P_is_frac : List Str := ["value"]
noncomputable def G_is_frac : Gam := ⟨[e_is_whole_1], [], ["isinstance", "tuple", "len"], [("gcd", "math.gcd")]⟩
def b_is_frac : Sms := .cons (.ife (.or (.not (.isi (.nm 0) "tuple")) (.or (.cmp .ne (.bi .len (.cons (.nm 0) .nil)) (.lit (.int 2))) (.or (.not (.call 0 (.cons (.ix (.nm 0) (.lit (.int 0))) .nil) .nil)) (.not (.call 0 (.cons (.ix (.nm 0) (.lit (.int 1))) .nil) .nil))))) (.cons (.ret (.lit (.bl false))) .nil) .nil) (.cons (.ret (.and (.cmp .gt (.ix (.nm 0) (.lit (.int 1))) (.lit (.int 0))) (.cmp .eq (.bi .gcd (.cons (.ix (.nm 0) (.lit (.int 0))) (.cons (.ix (.nm 0) (.lit (.int 1))) .nil))) (.lit (.int 1))))) .nil)
theorem s_is_frac : FnScope N_is_frac P_is_frac (defScope (top 10)) := C8.fnScope_by (by kernel_rfl)
theorem k_is_frac : chSs G_is_frac ⟨N_is_frac, (defScope (top 10)).names, fun _ => true⟩ b_is_frac (defBody (top 10)) = true := by kernel_rfl
def d_is_frac : He.DefD := ⟨("is_frac", none), "is_frac", "is_frac", defArgs (top 10), defBody (top 10), defScope (top 10), [], []⟩
noncomputable def e_is_frac_1 : Ent := mkEnt "is_frac" 1 [] [] [0] G_is_frac 1 b_is_frac

/-! ### is_num -/
def N_is_num : List Str := ["value"]
def P_is_num : List Str := ["value"]
noncomputable def G_is_num : Gam := ⟨[e_is_frac_1], [], ["isinstance", "tuple", "len"], []⟩
def b_is_num : Sms := .cons (.ret (.and (.isi (.nm 0) "tuple") (.and (.cmp .eq (.bi .len (.cons (.nm 0) .nil)) (.lit (.int 2))) (.and (.call 0 (.cons (.ix (.nm 0) (.lit (.int 0))) .nil) .nil) (.call 0 (.cons (.ix (.nm 0) (.lit (.int 1))) .nil) .nil))))) .nil
theorem s_is_num : FnScope N_is_num P_is_num (defScope (top 11)) := C8.fnScope_by (by kernel_rfl)
theorem k_is_num : chSs G_is_num ⟨N_is_num, (defScope (top 11)).names, fun _ => true⟩ b_is_num (defBody (top 11)) = true := by kernel_rfl
def d_is_num : He.DefD := ⟨("is_num", none), "is_num", "is_num", defArgs (top 11), defBody (top 11), defScope (top 11), [], []⟩
noncomputable def e_is_num_1 : Ent := mkEnt "is_num" 1 [] [] [0] G_is_num 1 b_is_num

/-! ### is_a_row -/
def N_is_a_row : List Str := ["value", "each"]
def P_is_a_row : List Str := ["value"]
noncomputable def G_is_a_row : Gam := ⟨[e_is_num_1], [c_NOUGHT], ["isinstance", "tuple"], []⟩
def b_is_a_row : Sms := .cons (.ife (.or (.not (.isi (.nm 0) "tuple")) (.cmp .ne (.fr (.comp (.nm 1) (.nm 1) (.seq (.nm 0)) (.some (.not (.call 0 (.cons (.nm 1) .nil) .nil))) [1])) (.fr (.disp .nil)))) (.cons (.ret (.lit (.bl false))) .nil) .nil) (.cons (.ret (.or (.cmp .eq (.nm 0) (.tup .nil)) (.cmp .ne (.ix (.nm 0) (.neg (.lit (.int 1)))) (.gc 0)))) .nil)
theorem s_is_a_row : FnScope N_is_a_row P_is_a_row (defScope (top 23)) := C8.fnScope_by (by kernel_rfl)
theorem k_is_a_row : chSs G_is_a_row ⟨N_is_a_row, (defScope (top 23)).names, fun _ => true⟩ b_is_a_row (defBody (top 23)) = true := by kernel_rfl
def d_is_a_row : He.DefD := ⟨("is_a_row", none), "is_a_row", "is_a_row", defArgs (top 23), defBody (top 23), defScope (top 23), [], []⟩
noncomputable def e_is_a_row_1 : Ent := mkEnt "is_a_row" 1 [] [] [0] G_is_a_row 2 b_is_a_row

/-! ### check_row -/
def N_check_row : List Str := ["value"]
def P_check_row : List Str := ["value"]
noncomputable def G_check_row : Gam := ⟨[e_is_a_row_1], [], [], []⟩
def b_check_row : Sms := .cons (.ife (.not (.call 0 (.cons (.nm 0) .nil) .nil)) (.cons .never .nil) .nil) .nil
theorem s_check_row : FnScope N_check_row P_check_row (defScope (top 30)) := C8.fnScope_by (by kernel_rfl)
theorem k_check_row : chSs G_check_row ⟨N_check_row, (defScope (top 30)).names, fun _ => true⟩ b_check_row (defBody (top 30)) = true := by kernel_rfl
def d_check_row : He.DefD := ⟨("check_row", none), "check_row", "check_row", defArgs (top 30), defBody (top 30), defScope (top 30), [], []⟩
noncomputable def e_check_row_1 : Ent := mkEnt "check_row" 1 [] [] [0] G_check_row 1 b_check_row

/-! ### frac_reduced -/
def N_frac_reduced : List Str := ["n", "m", "divisor"]
def P_frac_reduced : List Str := ["n", "m"]
noncomputable def G_frac_reduced : Gam := ⟨[], [], [], [("gcd", "math.gcd")]⟩
def b_frac_reduced : Sms := .cons (.asg (.nm 2) (.ife (.cmp .gt (.nm 1) (.lit (.int 0))) (.bi .gcd (.cons (.nm 0) (.cons (.nm 1) .nil))) (.neg (.bi .gcd (.cons (.nm 0) (.cons (.nm 1) .nil)))))) (.cons (.ret (.tup (.cons (.bin .fdiv (.nm 0) (.nm 2)) (.cons (.bin .fdiv (.nm 1) (.nm 2)) .nil)))) .nil)
theorem s_frac_reduced : FnScope N_frac_reduced P_frac_reduced (defScope (top 12)) := C8.fnScope_by (by kernel_rfl)
theorem k_frac_reduced : chSs G_frac_reduced ⟨N_frac_reduced, (defScope (top 12)).names, fun _ => true⟩ b_frac_reduced (defBody (top 12)) = true := by kernel_rfl
def d_frac_reduced : He.DefD := ⟨("frac_reduced", none), "frac_reduced", "frac_reduced", defArgs (top 12), defBody (top 12), defScope (top 12), [], []⟩
noncomputable def e_frac_reduced_2 : Ent := mkEnt "frac_reduced" 2 [] [] [0, 1] G_frac_reduced 3 b_frac_reduced

/-! ### frac_product -/
def N_frac_product : List Str := ["x", "y"]
def P_frac_product : List Str := ["x", "y"]
noncomputable def G_frac_product : Gam := ⟨[e_frac_reduced_2], [], [], []⟩
def b_frac_product : Sms := .cons (.ret (.call 0 (.cons (.bin .mul (.ix (.nm 0) (.lit (.int 0))) (.ix (.nm 1) (.lit (.int 0)))) (.cons (.bin .mul (.ix (.nm 0) (.lit (.int 1))) (.ix (.nm 1) (.lit (.int 1)))) .nil)) .nil)) .nil
theorem s_frac_product : FnScope N_frac_product P_frac_product (defScope (top 14)) := C8.fnScope_by (by kernel_rfl)
theorem k_frac_product : chSs G_frac_product ⟨N_frac_product, (defScope (top 14)).names, fun _ => true⟩ b_frac_product (defBody (top 14)) = true := by kernel_rfl
def d_frac_product : He.DefD := ⟨("frac_product", none), "frac_product", "frac_product", defArgs (top 14), defBody (top 14), defScope (top 14), [], []⟩
noncomputable def e_frac_product_2 : Ent := mkEnt "frac_product" 2 [] [] [0, 1] G_frac_product 2 b_frac_product

/-! ### num_scaled -/
def N_num_scaled : List Str := ["x", "fraction"]
def P_num_scaled : List Str := ["x", "fraction"]
noncomputable def G_num_scaled : Gam := ⟨[e_frac_product_2], [], [], []⟩
def b_num_scaled : Sms := .cons (.ret (.tup (.cons (.call 0 (.cons (.ix (.nm 0) (.lit (.int 0))) (.cons (.nm 1) .nil)) .nil) (.cons (.call 0 (.cons (.ix (.nm 0) (.lit (.int 1))) (.cons (.nm 1) .nil)) .nil) .nil)))) .nil
theorem s_num_scaled : FnScope N_num_scaled P_num_scaled (defScope (top 18)) := C8.fnScope_by (by kernel_rfl)
theorem k_num_scaled : chSs G_num_scaled ⟨N_num_scaled, (defScope (top 18)).names, fun _ => true⟩ b_num_scaled (defBody (top 18)) = true := by kernel_rfl
def d_num_scaled : He.DefD := ⟨("num_scaled", none), "num_scaled", "num_scaled", defArgs (top 18), defBody (top 18), defScope (top 18), [], []⟩
noncomputable def e_num_scaled_2 : Ent := mkEnt "num_scaled" 2 [] [] [0, 1] G_num_scaled 2 b_num_scaled

/-! ### num_product -/
def N_num_product : List Str := ["x", "y", "a", "b", "c", "d", "p", "q", "r", "s", "under"]
def P_num_product : List Str := ["x", "y"]
noncomputable def G_num_product : Gam := ⟨[e_frac_reduced_2], [], [], []⟩
def b_num_product : Sms := .cons (.asg (.tup (.cons (.tup (.cons (.nm 2) (.cons (.nm 3) .nil))) (.cons (.tup (.cons (.nm 4) (.cons (.nm 5) .nil))) .nil))) (.nm 0)) (.cons (.asg (.tup (.cons (.tup (.cons (.nm 6) (.cons (.nm 7) .nil))) (.cons (.tup (.cons (.nm 8) (.cons (.nm 9) .nil))) .nil))) (.nm 1)) (.cons (.asg (.nm 10) (.bin .mul (.bin .mul (.bin .mul (.nm 3) (.nm 5)) (.nm 7)) (.nm 9))) (.cons (.ret (.tup (.cons (.call 0 (.cons (.bin .sub (.bin .mul (.bin .mul (.bin .mul (.nm 2) (.nm 6)) (.nm 5)) (.nm 9)) (.bin .mul (.bin .mul (.bin .mul (.nm 4) (.nm 8)) (.nm 3)) (.nm 7))) (.cons (.nm 10) .nil)) .nil) (.cons (.call 0 (.cons (.bin .add (.bin .mul (.bin .mul (.bin .mul (.nm 2) (.nm 8)) (.nm 5)) (.nm 7)) (.bin .mul (.bin .mul (.bin .mul (.nm 4) (.nm 6)) (.nm 3)) (.nm 9))) (.cons (.nm 10) .nil)) .nil) .nil)))) .nil)))
theorem s_num_product : FnScope N_num_product P_num_product (defScope (top 17)) := C8.fnScope_by (by kernel_rfl)
theorem k_num_product : chSs G_num_product ⟨N_num_product, (defScope (top 17)).names, fun _ => true⟩ b_num_product (defBody (top 17)) = true := by kernel_rfl
def d_num_product : He.DefD := ⟨("num_product", none), "num_product", "num_product", defArgs (top 17), defBody (top 17), defScope (top 17), [], []⟩
noncomputable def e_num_product_2 : Ent := mkEnt "num_product" 2 [] [] [0, 1] G_num_product 11 b_num_product

/-! ### frac_over -/
def N_frac_over : List Str := ["x", "y"]
def P_frac_over : List Str := ["x", "y"]
noncomputable def G_frac_over : Gam := ⟨[e_frac_reduced_2], [], [], []⟩
def b_frac_over : Sms := .cons (.ret (.call 0 (.cons (.bin .mul (.ix (.nm 0) (.lit (.int 0))) (.ix (.nm 1) (.lit (.int 1)))) (.cons (.bin .mul (.ix (.nm 0) (.lit (.int 1))) (.ix (.nm 1) (.lit (.int 0)))) .nil)) .nil)) .nil
theorem s_frac_over : FnScope N_frac_over P_frac_over (defScope (top 15)) := C8.fnScope_by (by kernel_rfl)
theorem k_frac_over : chSs G_frac_over ⟨N_frac_over, (defScope (top 15)).names, fun _ => true⟩ b_frac_over (defBody (top 15)) = true := by kernel_rfl
def d_frac_over : He.DefD := ⟨("frac_over", none), "frac_over", "frac_over", defArgs (top 15), defBody (top 15), defScope (top 15), [], []⟩
noncomputable def e_frac_over_2 : Ent := mkEnt "frac_over" 2 [] [] [0, 1] G_frac_over 2 b_frac_over

/-! ### num_mirrored -/
def N_num_mirrored : List Str := ["x"]
def P_num_mirrored : List Str := ["x"]
noncomputable def G_num_mirrored : Gam := ⟨[], [], [], []⟩
def b_num_mirrored : Sms := .cons (.ret (.tup (.cons (.ix (.nm 0) (.lit (.int 0))) (.cons (.tup (.cons (.neg (.ix (.ix (.nm 0) (.lit (.int 1))) (.lit (.int 0)))) (.cons (.ix (.ix (.nm 0) (.lit (.int 1))) (.lit (.int 1))) .nil))) .nil)))) .nil
theorem s_num_mirrored : FnScope N_num_mirrored P_num_mirrored (defScope (top 19)) := C8.fnScope_by (by kernel_rfl)
theorem k_num_mirrored : chSs G_num_mirrored ⟨N_num_mirrored, (defScope (top 19)).names, fun _ => true⟩ b_num_mirrored (defBody (top 19)) = true := by kernel_rfl
def d_num_mirrored : He.DefD := ⟨("num_mirrored", none), "num_mirrored", "num_mirrored", defArgs (top 19), defBody (top 19), defScope (top 19), [], []⟩
noncomputable def e_num_mirrored_1 : Ent := mkEnt "num_mirrored" 1 [] [] [0] G_num_mirrored 1 b_num_mirrored

/-! ### num_size -/
def N_num_size : List Str := ["x", "a", "b", "c", "d"]
def P_num_size : List Str := ["x"]
noncomputable def G_num_size : Gam := ⟨[e_frac_reduced_2], [], [], []⟩
def b_num_size : Sms := .cons (.asg (.tup (.cons (.tup (.cons (.nm 1) (.cons (.nm 2) .nil))) (.cons (.tup (.cons (.nm 3) (.cons (.nm 4) .nil))) .nil))) (.nm 0)) (.cons (.ret (.call 0 (.cons (.bin .add (.bin .mul (.bin .mul (.bin .mul (.nm 1) (.nm 1)) (.nm 4)) (.nm 4)) (.bin .mul (.bin .mul (.bin .mul (.nm 3) (.nm 3)) (.nm 2)) (.nm 2))) (.cons (.bin .mul (.bin .mul (.bin .mul (.nm 2) (.nm 2)) (.nm 4)) (.nm 4)) .nil)) .nil)) .nil)
theorem s_num_size : FnScope N_num_size P_num_size (defScope (top 20)) := C8.fnScope_by (by kernel_rfl)
theorem k_num_size : chSs G_num_size ⟨N_num_size, (defScope (top 20)).names, fun _ => true⟩ b_num_size (defBody (top 20)) = true := by kernel_rfl
def d_num_size : He.DefD := ⟨("num_size", none), "num_size", "num_size", defArgs (top 20), defBody (top 20), defScope (top 20), [], []⟩
noncomputable def e_num_size_1 : Ent := mkEnt "num_size" 1 [] [] [0] G_num_size 5 b_num_size

/-! ### num_over -/
def N_num_over : List Str := ["x", "y"]
def P_num_over : List Str := ["x", "y"]
noncomputable def G_num_over : Gam := ⟨[e_num_scaled_2, e_num_product_2, e_num_mirrored_1, e_frac_over_2, e_num_size_1], [c_FRAC_ONE], [], []⟩
def b_num_over : Sms := .cons (.ret (.call 0 (.cons (.call 1 (.cons (.nm 0) (.cons (.call 2 (.cons (.nm 1) .nil) .nil) .nil)) .nil) (.cons (.call 3 (.cons (.gc 0) (.cons (.call 4 (.cons (.nm 1) .nil) .nil) .nil)) .nil) .nil)) .nil)) .nil
theorem s_num_over : FnScope N_num_over P_num_over (defScope (top 21)) := C8.fnScope_by (by kernel_rfl)
theorem k_num_over : chSs G_num_over ⟨N_num_over, (defScope (top 21)).names, fun _ => true⟩ b_num_over (defBody (top 21)) = true := by kernel_rfl
def d_num_over : He.DefD := ⟨("num_over", none), "num_over", "num_over", defArgs (top 21), defBody (top 21), defScope (top 21), [], []⟩
noncomputable def e_num_over_2 : Ent := mkEnt "num_over" 2 [] [] [0, 1] G_num_over 2 b_num_over

/-! ### row_trimmed -/
def N_row_trimmed : List Str := ["numbers", "many"]
def P_row_trimmed : List Str := ["numbers"]
noncomputable def G_row_trimmed : Gam := ⟨[], [c_NOUGHT], ["len", "tuple"], []⟩
def b_row_trimmed : Sms := .cons (.asg (.nm 1) (.bi .len (.cons (.nm 0) .nil))) (.cons (.wh (.and (.cmp .gt (.nm 1) (.lit (.int 0))) (.cmp .eq (.ix (.nm 0) (.bin .sub (.nm 1) (.lit (.int 1)))) (.gc 0))) (.cons (.aug 1 .sub (.lit (.int 1))) .nil)) (.cons (.ret (.bi .tuple (.cons (.fr (.slc (.nm 0) .none (.some (.nm 1)))) .nil))) .nil))
theorem s_row_trimmed : FnScope N_row_trimmed P_row_trimmed (defScope (top 24)) := C8.fnScope_by (by kernel_rfl)
theorem k_row_trimmed : chSs G_row_trimmed ⟨N_row_trimmed, (defScope (top 24)).names, fun _ => true⟩ b_row_trimmed (defBody (top 24)) = true := by kernel_rfl
def d_row_trimmed : He.DefD := ⟨("row_trimmed", none), "row_trimmed", "row_trimmed", defArgs (top 24), defBody (top 24), defScope (top 24), [], []⟩
noncomputable def e_row_trimmed_1 : Ent := mkEnt "row_trimmed" 1 [] [] [0] G_row_trimmed 2 b_row_trimmed

/-! ### frac_less -/
def N_frac_less : List Str := ["x", "y"]
def P_frac_less : List Str := ["x", "y"]
noncomputable def G_frac_less : Gam := ⟨[e_frac_reduced_2], [], [], []⟩
def b_frac_less : Sms := .cons (.ret (.call 0 (.cons (.bin .sub (.bin .mul (.ix (.nm 0) (.lit (.int 0))) (.ix (.nm 1) (.lit (.int 1)))) (.bin .mul (.ix (.nm 1) (.lit (.int 0))) (.ix (.nm 0) (.lit (.int 1))))) (.cons (.bin .mul (.ix (.nm 0) (.lit (.int 1))) (.ix (.nm 1) (.lit (.int 1)))) .nil)) .nil)) .nil
theorem s_frac_less : FnScope N_frac_less P_frac_less (defScope (top 13)) := C8.fnScope_by (by kernel_rfl)
theorem k_frac_less : chSs G_frac_less ⟨N_frac_less, (defScope (top 13)).names, fun _ => true⟩ b_frac_less (defBody (top 13)) = true := by kernel_rfl
def d_frac_less : He.DefD := ⟨("frac_less", none), "frac_less", "frac_less", defArgs (top 13), defBody (top 13), defScope (top 13), [], []⟩
noncomputable def e_frac_less_2 : Ent := mkEnt "frac_less" 2 [] [] [0, 1] G_frac_less 2 b_frac_less

/-! ### num_less -/
def N_num_less : List Str := ["x", "y"]
def P_num_less : List Str := ["x", "y"]
noncomputable def G_num_less : Gam := ⟨[e_frac_less_2], [], [], []⟩
def b_num_less : Sms := .cons (.ret (.tup (.cons (.call 0 (.cons (.ix (.nm 0) (.lit (.int 0))) (.cons (.ix (.nm 1) (.lit (.int 0))) .nil)) .nil) (.cons (.call 0 (.cons (.ix (.nm 0) (.lit (.int 1))) (.cons (.ix (.nm 1) (.lit (.int 1))) .nil)) .nil) .nil)))) .nil
theorem s_num_less : FnScope N_num_less P_num_less (defScope (top 16)) := C8.fnScope_by (by kernel_rfl)
theorem k_num_less : chSs G_num_less ⟨N_num_less, (defScope (top 16)).names, fun _ => true⟩ b_num_less (defBody (top 16)) = true := by kernel_rfl
def d_num_less : He.DefD := ⟨("num_less", none), "num_less", "num_less", defArgs (top 16), defBody (top 16), defScope (top 16), [], []⟩
noncomputable def e_num_less_2 : Ent := mkEnt "num_less" 2 [] [] [0, 1] G_num_less 2 b_num_less

/-! ### row_rest -/
def N_row_rest : List Str := ["row", "other", "rest", "factor", "last", "start", "number", "by", "each"]
def P_row_rest : List Str := ["row", "other"]
noncomputable def G_row_rest : Gam := ⟨[e_num_over_2, e_num_product_2, e_num_less_2, e_row_trimmed_1], [c_ONE], ["list", "range", "len", "enumerate"], []⟩
def b_row_rest : Sms := .cons (.own 2 (.list (.nm 0))) (.cons (.asg (.nm 3) (.fr (.disp .nil))) (.cons (.asg (.nm 4) (.call 0 (.cons (.gc 0) (.cons (.ix (.nm 1) (.neg (.lit (.int 1)))) .nil)) .nil)) (.cons (.for_ (.nm 5) (.range3 (.bin .sub (.bi .len (.cons (.nm 0) .nil)) (.bi .len (.cons (.nm 1) .nil))) (.neg (.lit (.int 1))) (.neg (.lit (.int 1)))) (.cons (.asg (.nm 6) (.call 1 (.cons (.ix (.nm 2) (.neg (.lit (.int 1)))) (.cons (.nm 4) .nil)) .nil)) (.cons (.asg (.nm 3) (.fr (.disp (.cons (.nm 6) (.star (.nm 3) .nil))))) (.cons (.for_ (.tup (.cons (.nm 7) (.cons (.nm 8) .nil))) (.enum (.nm 1)) (.cons (.asg (.sub 2 (.bin .add (.nm 5) (.nm 7))) (.call 2 (.cons (.ix (.nm 2) (.bin .add (.nm 5) (.nm 7))) (.cons (.call 1 (.cons (.nm 6) (.cons (.nm 8) .nil)) .nil) .nil)) .nil)) .nil)) (.cons (.pop 2) .nil))))) (.cons (.fz 2) (.cons (.ret (.tup (.cons (.call 3 (.cons (.nm 3) .nil) .nil) (.cons (.call 3 (.cons (.nm 2) .nil) .nil) .nil)))) .nil)))))
theorem s_row_rest : FnScope N_row_rest P_row_rest (defScope (top 26)) := C8.fnScope_by (by kernel_rfl)
theorem k_row_rest : chSs G_row_rest ⟨N_row_rest, (defScope (top 26)).names, fun _ => true⟩ b_row_rest (defBody (top 26)) = true := by kernel_rfl
def d_row_rest : He.DefD := ⟨("row_rest", none), "row_rest", "row_rest", defArgs (top 26), defBody (top 26), defScope (top 26), [], []⟩
noncomputable def e_row_rest_2 : Ent := mkEnt "row_rest" 2 [] [] [0, 1] G_row_rest 9 b_row_rest

/-! ### row_divided -/
def N_row_divided : List Str := ["row", "other"]
def P_row_divided : List Str := ["row", "other"]
noncomputable def G_row_divided : Gam := ⟨[e_check_row_1, e_row_rest_2], [], [], []⟩
def b_row_divided : Sms := .cons (.ex (.call 0 (.cons (.nm 0) .nil) .nil)) (.cons (.ex (.call 0 (.cons (.nm 1) .nil) .nil)) (.cons (.ife (.cmp .eq (.nm 1) (.tup .nil)) (.cons .never .nil) .nil) (.cons (.ret (.call 1 (.cons (.nm 0) (.cons (.nm 1) .nil)) .nil)) .nil)))
theorem s_row_divided : FnScope N_row_divided P_row_divided (defScope (top 31)) := C8.fnScope_by (by kernel_rfl)
theorem k_row_divided : chSs G_row_divided ⟨N_row_divided, (defScope (top 31)).names, fun _ => true⟩ b_row_divided (defBody (top 31)) = true := by kernel_rfl
def d_row_divided : He.DefD := ⟨("row_divided", none), "row_divided", "row_divided", defArgs (top 31), defBody (top 31), defScope (top 31), [], []⟩
noncomputable def e_row_divided_2 : Ent := mkEnt "row_divided" 2 [] [] [0, 1] G_row_divided 2 b_row_divided
noncomputable def e_row_divided_0_other_row : Ent := mkEnt "row_divided" 0 ["other", "row"] [] [1, 0] G_row_divided 2 b_row_divided

/-! ### _law_divided -/
def N_Ldivided : List Str := ["_law_pail_here", "_law_other", "_law_factor", "_law_rest", "_law_row_here", "_law_due", "_law_first", "_law_second"]
def P_Ldivided : List Str := ["_law_pail_here"]
noncomputable def G_Ldivided : Gam := ⟨[e_Lrow_2, e_Lmany_1, e_Ltrim_1, e_Lrow_sum_2, e_Lrow_times_2_S, e_Ltold_row_1, e_row_divided_2, e_row_divided_0_other_row], [], ["len", "repr"], []⟩
def b_Ldivided : Sms := .cons (.asg (.nm 1) (.fr (.cat (.call 0 (.cons (.nm 0) (.cons (.lit (.int 3)) .nil)) .nil) (.fr (.disp (.cons (.call 1 (.cons (.nm 0) .nil) .nil) .nil)))))) (.cons (.par [2, 3] (.cons (.call 0 (.cons (.nm 0) (.cons (.lit (.int 4)) .nil)) .nil) (.cons (.call 0 (.cons (.nm 0) (.cons (.lit (.int 4)) .nil)) .nil) .nil))) (.cons (.asg (.nm 3) (.call 2 (.cons (.fr (.slc (.nm 3) .none (.some (.bin .sub (.bi .len (.cons (.nm 1) .nil)) (.lit (.int 1)))))) .nil) .nil)) (.cons (.asg (.nm 4) (.call 3 (.cons (.call 4 (.cons (.nm 1) (.cons (.nm 2) .nil)) .nil) (.cons (.nm 3) .nil)) .nil)) (.cons (.asg (.nm 5) (.tup (.cons (.call 5 (.cons (.nm 2) .nil) .nil) (.cons (.call 5 (.cons (.nm 3) .nil) .nil) .nil)))) (.cons (.par [6, 7] (.cons (.call 5 (.cons (.nm 4) .nil) .nil) (.cons (.call 5 (.cons (.nm 1) .nil) .nil) .nil))) (.cons (.ret (.cmp .eq (.bi .repr (.cons (.fr (.disp (.cons (.call 6 (.cons (.nm 6) (.cons (.nm 7) .nil)) .nil) (.cons (.call 7 .nil (.cons (.nm 7) (.cons (.nm 6) .nil))) .nil)))) .nil)) (.bi .repr (.cons (.fr (.disp (.cons (.nm 5) (.cons (.nm 5) .nil)))) .nil)))) .nil))))))
theorem s_Ldivided : FnScope N_Ldivided P_Ldivided (defScope (top 54)) := C8.fnScope_by (by kernel_rfl)
theorem k_Ldivided : chSs G_Ldivided ⟨N_Ldivided, (defScope (top 54)).names, fun _ => true⟩ b_Ldivided (defBody (top 54)) = true := by kernel_rfl
def d_Ldivided : He.DefD := ⟨("_law_divided", none), "_law_divided", "_law_divided", defArgs (top 54), defBody (top 54), defScope (top 54), [], []⟩
noncomputable def e_Ldivided_1 : Ent := mkEnt "_law_divided" 1 [] [] [0] G_Ldivided 8 b_Ldivided

/-! ### _law_spread -/
def N_Lspread : List Str := ["_law_roots_here", "_law_times_here", "_law_found", "_law_k"]
def P_Lspread : List Str := ["_law_roots_here", "_law_times_here"]
noncomputable def G_Lspread : Gam := ⟨[], [], ["range", "len"], []⟩
def b_Lspread : Sms := .cons (.asg (.nm 2) (.fr (.disp .nil))) (.cons (.for_ (.nm 3) (.range1 (.bi .len (.cons (.nm 0) .nil))) (.cons (.asg (.nm 2) (.fr (.cat (.nm 2) (.fr (.rep (.disp (.cons (.ix (.nm 0) (.nm 3)) .nil)) (.ix (.nm 1) (.nm 3))))))) .nil)) (.cons (.ret (.nm 2)) .nil))
theorem s_Lspread : FnScope N_Lspread P_Lspread (defScope (top 53)) := C8.fnScope_by (by kernel_rfl)
theorem k_Lspread : chSs G_Lspread ⟨N_Lspread, (defScope (top 53)).names, fun _ => true⟩ b_Lspread (defBody (top 53)) = true := by kernel_rfl
def d_Lspread : He.DefD := ⟨("_law_spread", none), "_law_spread", "_law_spread", defArgs (top 53), defBody (top 53), defScope (top 53), [], []⟩
noncomputable def e_Lspread_2 : Ent := mkEnt "_law_spread" 2 [] [] [0, 1] G_Lspread 4 b_Lspread

/-! ### _law_over -/
def N_Lover : List Str := ["_law_x", "_law_y", "_law_down"]
def P_Lover : List Str := ["_law_x", "_law_y"]
noncomputable def G_Lover : Gam := ⟨[e_Lcut_3], [], [], []⟩
def b_Lover : Sms := .cons (.asg (.nm 2) (.bin .mul (.ix (.nm 0) (.lit (.int 2))) (.bin .add (.bin .mul (.ix (.nm 1) (.lit (.int 0))) (.ix (.nm 1) (.lit (.int 0)))) (.bin .mul (.ix (.nm 1) (.lit (.int 1))) (.ix (.nm 1) (.lit (.int 1))))))) (.cons (.ret (.call 0 (.cons (.bin .mul (.bin .add (.bin .mul (.ix (.nm 0) (.lit (.int 0))) (.ix (.nm 1) (.lit (.int 0)))) (.bin .mul (.ix (.nm 0) (.lit (.int 1))) (.ix (.nm 1) (.lit (.int 1))))) (.ix (.nm 1) (.lit (.int 2)))) (.cons (.bin .mul (.bin .sub (.bin .mul (.ix (.nm 0) (.lit (.int 1))) (.ix (.nm 1) (.lit (.int 0)))) (.bin .mul (.ix (.nm 0) (.lit (.int 0))) (.ix (.nm 1) (.lit (.int 1))))) (.ix (.nm 1) (.lit (.int 2)))) (.cons (.nm 2) .nil))) .nil)) .nil)
theorem s_Lover : FnScope N_Lover P_Lover (defScope (top 49)) := C8.fnScope_by (by kernel_rfl)
theorem k_Lover : chSs G_Lover ⟨N_Lover, (defScope (top 49)).names, fun _ => true⟩ b_Lover (defBody (top 49)) = true := by kernel_rfl
def d_Lover : He.DefD := ⟨("_law_over", none), "_law_over", "_law_over", defArgs (top 49), defBody (top 49), defScope (top 49), [], []⟩
noncomputable def e_Lover_2 : Ent := mkEnt "_law_over" 2 [] [] [0, 1] G_Lover 3 b_Lover

/-! ### row_scaled -/
def N_row_scaled : List Str := ["row", "number", "each"]
def P_row_scaled : List Str := ["row", "number"]
noncomputable def G_row_scaled : Gam := ⟨[e_row_trimmed_1, e_num_product_2], [], [], []⟩
def b_row_scaled : Sms := .cons (.ret (.call 0 (.cons (.fr (.comp (.call 1 (.cons (.nm 2) (.cons (.nm 1) .nil)) .nil) (.nm 2) (.seq (.nm 0)) .none [2])) .nil) .nil)) .nil
theorem s_row_scaled : FnScope N_row_scaled P_row_scaled (defScope (top 25)) := C8.fnScope_by (by kernel_rfl)
theorem k_row_scaled : chSs G_row_scaled ⟨N_row_scaled, (defScope (top 25)).names, fun _ => true⟩ b_row_scaled (defBody (top 25)) = true := by kernel_rfl
def d_row_scaled : He.DefD := ⟨("row_scaled", none), "row_scaled", "row_scaled", defArgs (top 25), defBody (top 25), defScope (top 25), [], []⟩
noncomputable def e_row_scaled_2 : Ent := mkEnt "row_scaled" 2 [] [] [0, 1] G_row_scaled 3 b_row_scaled

/-! ### row_last_one -/
def N_row_last_one : List Str := ["row"]
def P_row_last_one : List Str := ["row"]
noncomputable def G_row_last_one : Gam := ⟨[e_row_scaled_2, e_num_over_2], [c_ONE], [], []⟩
def b_row_last_one : Sms := .cons (.ret (.ife (.cmp .eq (.nm 0) (.tup .nil)) (.tup .nil) (.call 0 (.cons (.nm 0) (.cons (.call 1 (.cons (.gc 0) (.cons (.ix (.nm 0) (.neg (.lit (.int 1)))) .nil)) .nil) .nil)) .nil))) .nil
theorem s_row_last_one : FnScope N_row_last_one P_row_last_one (defScope (top 27)) := C8.fnScope_by (by kernel_rfl)
theorem k_row_last_one : chSs G_row_last_one ⟨N_row_last_one, (defScope (top 27)).names, fun _ => true⟩ b_row_last_one (defBody (top 27)) = true := by kernel_rfl
def d_row_last_one : He.DefD := ⟨("row_last_one", none), "row_last_one", "row_last_one", defArgs (top 27), defBody (top 27), defScope (top 27), [], []⟩
noncomputable def e_row_last_one_1 : Ent := mkEnt "row_last_one" 1 [] [] [0] G_row_last_one 1 b_row_last_one

/-! ### row_divisor -/
def N_row_divisor : List Str := ["row", "other", "one", "two"]
def P_row_divisor : List Str := ["row", "other"]
noncomputable def G_row_divisor : Gam := ⟨[e_row_last_one_1, e_row_rest_2], [], [], []⟩
def b_row_divisor : Sms := .cons (.par [2, 3] (.cons (.call 0 (.cons (.nm 0) .nil) .nil) (.cons (.call 0 (.cons (.nm 1) .nil) .nil) .nil))) (.cons (.wh (.cmp .ne (.nm 3) (.tup .nil)) (.cons (.par [2, 3] (.cons (.nm 3) (.cons (.call 0 (.cons (.ix (.call 1 (.cons (.nm 2) (.cons (.nm 3) .nil)) .nil) (.lit (.int 1))) .nil) .nil) .nil))) .nil)) (.cons (.ret (.nm 2)) .nil))
theorem s_row_divisor : FnScope N_row_divisor P_row_divisor (defScope (top 28)) := C8.fnScope_by (by kernel_rfl)
theorem k_row_divisor : chSs G_row_divisor ⟨N_row_divisor, (defScope (top 28)).names, fun _ => true⟩ b_row_divisor (defBody (top 28)) = true := by kernel_rfl
def d_row_divisor : He.DefD := ⟨("row_divisor", none), "row_divisor", "row_divisor", defArgs (top 28), defBody (top 28), defScope (top 28), [], []⟩
noncomputable def e_row_divisor_2 : Ent := mkEnt "row_divisor" 2 [] [] [0, 1] G_row_divisor 4 b_row_divisor

/-! ### row_common -/
def N_row_common : List Str := ["row", "other"]
def P_row_common : List Str := ["row", "other"]
noncomputable def G_row_common : Gam := ⟨[e_check_row_1, e_row_divisor_2], [], [], []⟩
def b_row_common : Sms := .cons (.ex (.call 0 (.cons (.nm 0) .nil) .nil)) (.cons (.ex (.call 0 (.cons (.nm 1) .nil) .nil)) (.cons (.ret (.call 1 (.cons (.nm 0) (.cons (.nm 1) .nil)) .nil)) .nil))
theorem s_row_common : FnScope N_row_common P_row_common (defScope (top 32)) := C8.fnScope_by (by kernel_rfl)
theorem k_row_common : chSs G_row_common ⟨N_row_common, (defScope (top 32)).names, fun _ => true⟩ b_row_common (defBody (top 32)) = true := by kernel_rfl
def d_row_common : He.DefD := ⟨("row_common", none), "row_common", "row_common", defArgs (top 32), defBody (top 32), defScope (top 32), [], []⟩
noncomputable def e_row_common_2 : Ent := mkEnt "row_common" 2 [] [] [0, 1] G_row_common 2 b_row_common
noncomputable def e_row_common_0_other_row : Ent := mkEnt "row_common" 0 ["other", "row"] [] [1, 0] G_row_common 2 b_row_common

/-! ### _law_right -/
def N_Lright : List Str := ["_law_pail_here", "_law_roots_here", "_law_one", "_law_two", "_law_low", "_law_common", "_law_lead", "_law_far", "_law_left", "_law_right_here", "_law_first", "_law_second", "_law_a", "_law_b", "_law_due", "_law_whole", "_law_k", "_law_each"]
def P_Lright : List Str := ["_law_pail_here"]
noncomputable def G_Lright : Gam := ⟨[e_Ldivided_1, e_Lroots_1, e_Ldip_2, e_Lmonic_1, e_Lspread_2, e_Lmany_1, e_Lscaled_2, e_Lrow_times_2_S, e_Ltold_row_1, e_row_common_2, e_row_common_0_other_row, e_row_divided_2, e_Lover_2], [], ["range", "len", "min", "repr"], []⟩
def b_Lright : Sms := .cons (.ife (.not (.call 0 (.cons (.nm 0) .nil) .nil)) (.cons (.ret (.lit (.bl false))) .nil) .nil) (.cons (.asg (.nm 1) (.call 1 (.cons (.nm 0) .nil) .nil)) (.cons (.asg (.tup (.cons (.nm 2) (.cons (.nm 3) .nil))) (.tup (.cons (.fr (.comp (.call 2 (.cons (.nm 0) (.cons (.lit (.int 3)) .nil)) .nil) (.nm 17) (.seq (.nm 1)) .none [17])) (.cons (.fr (.comp (.call 2 (.cons (.nm 0) (.cons (.lit (.int 3)) .nil)) .nil) (.nm 17) (.seq (.nm 1)) .none [17])) .nil)))) (.cons (.asg (.nm 4) (.fr (.comp (.bi .min2 (.cons (.ix (.nm 2) (.nm 16)) (.cons (.ix (.nm 3) (.nm 16)) .nil))) (.nm 16) (.range1 (.bi .len (.cons (.nm 1) .nil))) .none [16]))) (.cons (.asg (.nm 5) (.call 3 (.cons (.call 4 (.cons (.nm 1) (.cons (.nm 4) .nil)) .nil) .nil) .nil)) (.cons (.par [6, 7] (.cons (.call 5 (.cons (.nm 0) .nil) .nil) (.cons (.call 5 (.cons (.nm 0) .nil) .nil) .nil))) (.cons (.asg (.nm 8) (.call 6 (.cons (.call 3 (.cons (.call 4 (.cons (.nm 1) (.cons (.fr (.comp (.bin .sub (.ix (.nm 2) (.nm 16)) (.ix (.nm 4) (.nm 16))) (.nm 16) (.range1 (.bi .len (.cons (.nm 1) .nil))) .none [16])) .nil)) .nil) .nil) .nil) (.cons (.nm 6) .nil)) .nil)) (.cons (.asg (.nm 9) (.call 6 (.cons (.call 3 (.cons (.call 4 (.cons (.nm 1) (.cons (.fr (.comp (.bin .sub (.ix (.nm 3) (.nm 16)) (.ix (.nm 4) (.nm 16))) (.nm 16) (.range1 (.bi .len (.cons (.nm 1) .nil))) .none [16])) .nil)) .nil) .nil) .nil) (.cons (.nm 7) .nil)) .nil)) (.cons (.par [10, 11] (.cons (.call 7 (.cons (.nm 5) (.cons (.nm 8) .nil)) .nil) (.cons (.call 7 (.cons (.nm 5) (.cons (.nm 9) .nil)) .nil) .nil))) (.cons (.par [12, 13, 14] (.cons (.call 8 (.cons (.nm 10) .nil) .nil) (.cons (.call 8 (.cons (.nm 11) .nil) .nil) (.cons (.call 8 (.cons (.nm 5) .nil) .nil) .nil)))) (.cons (.ife (.cmp .ne (.bi .repr (.cons (.fr (.disp (.cons (.call 9 (.cons (.nm 12) (.cons (.nm 13) .nil)) .nil) (.cons (.call 10 .nil (.cons (.nm 12) (.cons (.nm 13) .nil))) (.cons (.call 11 (.cons (.nm 12) (.cons (.nm 14) .nil)) .nil) .nil))))) .nil)) (.bi .repr (.cons (.fr (.disp (.cons (.nm 14) (.cons (.nm 14) (.cons (.tup (.cons (.call 8 (.cons (.nm 8) .nil) .nil) (.cons (.tup .nil) .nil))) .nil))))) .nil))) (.cons (.ret (.lit (.bl false))) .nil) .nil) (.cons (.ife (.cmp .ne (.bi .repr (.cons (.call 11 (.cons (.nm 13) (.cons (.call 9 (.cons (.nm 12) (.cons (.nm 13) .nil)) .nil) .nil)) .nil) .nil)) (.bi .repr (.cons (.tup (.cons (.call 8 (.cons (.nm 9) .nil) .nil) (.cons (.tup .nil) .nil))) .nil))) (.cons (.ret (.lit (.bl false))) .nil) .nil) (.cons (.asg (.nm 15) (.call 8 (.cons (.call 6 (.cons (.nm 10) (.cons (.call 12 (.cons (.tup (.cons (.lit (.int 1)) (.cons (.lit (.int 0)) (.cons (.lit (.int 1)) .nil)))) (.cons (.nm 6) .nil)) .nil) .nil)) .nil) .nil) .nil)) (.cons (.ret (.cmp .eq (.bi .repr (.cons (.fr (.disp (.cons (.call 9 (.cons (.nm 12) (.cons (.tup .nil) .nil)) .nil) (.cons (.call 9 (.cons (.tup .nil) (.cons (.nm 12) .nil)) .nil) (.cons (.call 9 (.cons (.tup .nil) (.cons (.tup .nil) .nil)) .nil) .nil))))) .nil)) (.bi .repr (.cons (.fr (.disp (.cons (.nm 15) (.cons (.nm 15) (.cons (.tup .nil) .nil))))) .nil)))) .nil)))))))))))))
theorem s_Lright : FnScope N_Lright P_Lright (defScope (top 55)) := C8.fnScope_by (by kernel_rfl)
theorem k_Lright : chSs G_Lright ⟨N_Lright, (defScope (top 55)).names, fun _ => true⟩ b_Lright (defBody (top 55)) = true := by kernel_rfl
def d_Lright : He.DefD := ⟨("_law_right", none), "_law_right", "_law_right", defArgs (top 55), defBody (top 55), defScope (top 55), [], []⟩
noncomputable def e_Lright_1 : Ent := mkEnt "_law_right" 1 [] [] [0] G_Lright 18 b_Lright

/-! ### _law_pail -/
def N_Lpail : List Str := ["_law_script", "_law_turn", "_law_cell", "_law_mixed", "_law_each", "_law_rich"]
def P_Lpail : List Str := ["_law_script", "_law_turn"]
noncomputable def G_Lpail : Gam := ⟨[], [], ["len", "int", "abs"], []⟩
def b_Lpail : Sms := .cons (.asg (.nm 2) (.ife (.cmp .lt (.nm 1) (.bi .len (.cons (.nm 0) .nil))) (.bi .int1 (.cons (.ix (.nm 0) (.nm 1)) .nil)) (.bin .add (.bin .mul (.lit (.int 977)) (.nm 1)) (.lit (.int 41))))) (.cons (.asg (.nm 3) (.bin .add (.lit (.int 51043)) (.bin .mul (.lit (.int 8009)) (.nm 1)))) (.cons (.for_ (.nm 4) (.seq (.fr (.slc (.nm 0) .none (.some (.lit (.int 9)))))) (.cons (.asg (.nm 3) (.bin .mod (.bi .int1 (.cons (.bin .add (.bin .add (.bin .mul (.nm 3) (.lit (.int 69069))) (.bin .mul (.bin .mod (.bi .int1 (.cons (.nm 4) .nil)) (.lit (.int 998244353))) (.lit (.int 31)))) (.lit (.int 7))) .nil)) (.lit (.int 2147483629)))) .nil)) (.cons (.asg (.nm 5) (.or (.cmp .lt (.nm 2) (.lit (.int 0))) (.cmp .ge (.nm 2) (.bin .pow (.lit (.int 10)) (.lit (.int 15)))))) (.cons (.retc (.cons (.ife (.nm 5) (.bi .abs (.cons (.nm 2) .nil)) (.lit (.int 0))) (.cons (.bin .mod (.bi .int1 (.cons (.bin .add (.bin .add (.bin .mul (.nm 3) (.lit (.int 89))) (.bin .mul (.bin .mod (.bi .int1 (.cons (.nm 2) .nil)) (.lit (.int 998244353))) (.lit (.int 20011)))) (.lit (.int 5))) .nil)) (.lit (.int 2147483629))) (.cons (.lit (.int 0)) .nil)))) .nil))))
theorem s_Lpail : FnScope N_Lpail P_Lpail (defScope (top 34)) := C8.fnScope_by (by kernel_rfl)
theorem k_Lpail : chSs G_Lpail ⟨N_Lpail, (defScope (top 34)).names, fun _ => true⟩ b_Lpail (defBody (top 34)) = true := by kernel_rfl
def d_Lpail : He.DefD := ⟨("_law_pail", none), "_law_pail", "_law_pail", defArgs (top 34), defBody (top 34), defScope (top 34), [], []⟩
noncomputable def e_Lpail_2 : Ent := mkEnt "_law_pail" 2 [] [] [0, 1] G_Lpail 6 b_Lpail

/-! ### law -/
def N_law : List Str := ["_law_script", "_law_turn"]
def P_law : List Str := ["_law_script"]
noncomputable def G_law : Gam := ⟨[e_Lright_1, e_Lpail_2], [], ["all", "range", "max", "min", "len"], []⟩
def b_law : Sms := .cons (.ret (.bi .all (.cons (.fr (.comp (.call 0 (.cons (.call 1 (.cons (.nm 0) (.cons (.nm 1) .nil)) .nil) .nil) .nil) (.nm 1) (.range1 (.bi .max2 (.cons (.lit (.int 2)) (.cons (.bi .min2 (.cons (.bi .len (.cons (.nm 0) .nil)) (.cons (.lit (.int 3)) .nil))) .nil)))) .none [1])) .nil))) .nil
theorem s_law : FnScope N_law P_law (defScope (top 56)) := C8.fnScope_by (by kernel_rfl)
theorem k_law : chSs G_law ⟨N_law, (defScope (top 56)).names, fun _ => true⟩ b_law (defBody (top 56)) = true := by kernel_rfl
def d_law : He.DefD := ⟨("law", none), "law", "law", defArgs (top 56), defBody (top 56), defScope (top 56), [], []⟩

/-! ### the head -/
def fn : List He.DefD := ([d_Ldip, d_Lgcd, d_Lcut, d_Ldrawn, d_Lroots, d_Ltrim, d_Lrow_times, d_Lmonic, d_Ltimes, d_Lscaled, d_Lfraction, d_Ltold, d_Ltold_row, d_Ladd, d_Lrow_sum, d_Lrow, d_Lmany, d_is_whole, d_is_frac, d_is_num, d_is_a_row, d_check_row, d_frac_reduced, d_frac_product, d_num_scaled, d_num_product, d_frac_over, d_num_mirrored, d_num_size, d_num_over] : List He.DefD) ++ ([d_row_trimmed, d_frac_less, d_num_less, d_row_rest, d_row_divided, d_Ldivided, d_Lspread, d_Lover, d_row_scaled, d_row_last_one, d_row_divisor, d_row_common, d_Lright, d_Lpail, d_law] : List He.DefD)
def fa : List He.Fa := ([.glo "_law_dip", .glo "_law_gcd", .glo "_law_cut", .glo "_law_drawn", .glo "_law_roots", .glo "_law_trim", .glo "_law_row_times", .glo "_law_monic", .glo "_law_times", .glo "_law_scaled", .glo "_law_fraction", .glo "_law_told", .glo "_law_told_row", .glo "_law_add", .glo "_law_row_sum", .glo "_law_row", .glo "_law_many", .glo "is_whole", .glo "is_frac", .glo "is_num", .glo "is_a_row", .glo "check_row", .glo "frac_reduced", .glo "frac_product", .glo "num_scaled", .glo "num_product", .glo "frac_over", .glo "num_mirrored", .glo "num_size", .glo "num_over"] : List He.Fa) ++ ([.glo "row_trimmed", .glo "frac_less", .glo "num_less", .glo "row_rest", .glo "row_divided", .glo "_law_divided", .glo "_law_spread", .glo "_law_over", .glo "row_scaled", .glo "row_last_one", .glo "row_divisor", .glo "row_common", .glo "_law_right", .glo "_law_pail", .glo "law", .free "divmod", .free "int", .free "abs", .free "range", .free "len", .free "list", .free "max", .free "tuple", .free "isinstance", .free "bool", .free "enumerate", .free "repr", .free "min", .free "all"] : List He.Fa)
def cs : List (Str × D) := [c_NOUGHT, c_FRAC_ONE, c_ONE]
def bs : List (Str × String) := [("gcd", "math.gcd")]
def zs : List (Str × Nat × D) := []
abbrev R : PySem.W.OpenRow := PySem.W.OpenLaw.row PySem.Challenge.rw_withinrim_k05_whole_rows_divided_and_com
abbrev hk : PySem.W.Hook := hookC 6 fa fn cs bs zs
def ob (s : PySem.W.SharedT) : He.AlD := obsCG 6 fa fn cs bs zs (HandSHeadRun.getT s)
theorem ob_eq (s : PySem.W.SharedT) : ob s = hk.obs s.abs := obsCG_eq (HandSHeadRun.getT_eq s)
def loose : List Str := (["__name__", "RimError", "ValueError", "InvalidRow", "NotNow", "FRAC_ONE", "NOUGHT", "ONE", "is_whole", "is_frac", "is_num", "frac_reduced", "frac_less", "frac_product", "frac_over", "num_less", "num_product", "num_scaled", "num_mirrored", "num_size", "num_over", "is_a_row", "row_trimmed", "row_scaled", "row_rest", "row_last_one", "row_divisor", "check_row", "row_divided", "row_common"] : List Str) ++ (["_law_pail", "_law_dip", "_law_gcd", "_law_cut", "_law_drawn", "_law_trim", "_law_row", "_law_add", "_law_row_sum", "_law_times", "_law_row_times", "_law_fraction", "_law_told", "_law_told_row", "_law_monic", "_law_over", "_law_scaled", "_law_many", "_law_roots", "_law_spread", "_law_divided", "_law_right"] : List Str)
theorem run (w : World) : HandSHeadRun.RunEqI R (PySem.W.view R.prog [0, 56]) hk ob 6000 loose w := by
  unfold HandSHeadRun.RunEqI; kernel_rfl
section
variable {P : Program} {w : World} {K : PySem.W.Frag} {mg : Str → Option Value} {base h : Heap}
theorem facts (X : K.In h) (G : h.Ns mainGlobals mg) {f : Addr} (hfa : mg ("law" : Str) = some (.ref f)) (c : SaysC fa fn cs bs zs K) :
    ∃ fd : FuncData, (∀ (s : Shared) (v : Value), BindsTo s fd ⟨[v], []⟩ [("_law_script", v)]) ∧ ∀ base : Heap, K.In base → base.Ns mainGlobals mg → FnG P w K mg base 45 f fd P_law (spD K G_law 2 b_law P_law) := by
  have r_divmod : mg ("divmod" : Str) = none := He.free_ok X G (c.d.fact 45 (f := .free "divmod") rfl)
  have r_int : mg ("int" : Str) = none := He.free_ok X G (c.d.fact 46 (f := .free "int") rfl)
  have r_abs : mg ("abs" : Str) = none := He.free_ok X G (c.d.fact 47 (f := .free "abs") rfl)
  have r_range : mg ("range" : Str) = none := He.free_ok X G (c.d.fact 48 (f := .free "range") rfl)
  have r_len : mg ("len" : Str) = none := He.free_ok X G (c.d.fact 49 (f := .free "len") rfl)
  have r_list : mg ("list" : Str) = none := He.free_ok X G (c.d.fact 50 (f := .free "list") rfl)
  have r_max : mg ("max" : Str) = none := He.free_ok X G (c.d.fact 51 (f := .free "max") rfl)
  have r_tuple : mg ("tuple" : Str) = none := He.free_ok X G (c.d.fact 52 (f := .free "tuple") rfl)
  have r_isinstance : mg ("isinstance" : Str) = none := He.free_ok X G (c.d.fact 53 (f := .free "isinstance") rfl)
  have r_bool : mg ("bool" : Str) = none := He.free_ok X G (c.d.fact 54 (f := .free "bool") rfl)
  have r_enumerate : mg ("enumerate" : Str) = none := He.free_ok X G (c.d.fact 55 (f := .free "enumerate") rfl)
  have r_repr : mg ("repr" : Str) = none := He.free_ok X G (c.d.fact 56 (f := .free "repr") rfl)
  have r_min : mg ("min" : Str) = none := He.free_ok X G (c.d.fact 57 (f := .free "min") rfl)
  have r_all : mg ("all" : Str) = none := He.free_ok X G (c.d.fact 58 (f := .free "all") rfl)
  have q_NOUGHT := con_ok X G (c.c c_NOUGHT (by simp [cs]))
  have q_FRAC_ONE := con_ok X G (c.c c_FRAC_ONE (by simp [cs]))
  have q_ONE := con_ok X G (c.c c_ONE (by simp [cs]))
  have u_gcd : mg ("gcd" : Str) = some (.builtin "math.gcd") := bf_ok X G (c.b ("gcd", "math.gcd") (by simp [bs]))
  obtain ⟨fd0, F0⟩ := c.d.def_ 0 (d := d_Ldip) rfl
  have m0 : mg ("_law_dip" : Str) = some (.ref _) := He.glo_ok X G (c.d.fact 0 (f := .glo "_law_dip") rfl)
  obtain ⟨fd1, F1⟩ := c.d.def_ 1 (d := d_Lgcd) rfl
  have m1 : mg ("_law_gcd" : Str) = some (.ref _) := He.glo_ok X G (c.d.fact 1 (f := .glo "_law_gcd") rfl)
  obtain ⟨fd2, F2⟩ := c.d.def_ 2 (d := d_Lcut) rfl
  have m2 : mg ("_law_cut" : Str) = some (.ref _) := He.glo_ok X G (c.d.fact 2 (f := .glo "_law_cut") rfl)
  obtain ⟨fd3, F3⟩ := c.d.def_ 3 (d := d_Ldrawn) rfl
  have m3 : mg ("_law_drawn" : Str) = some (.ref _) := He.glo_ok X G (c.d.fact 3 (f := .glo "_law_drawn") rfl)
  obtain ⟨fd4, F4⟩ := c.d.def_ 4 (d := d_Lroots) rfl
  have m4 : mg ("_law_roots" : Str) = some (.ref _) := He.glo_ok X G (c.d.fact 4 (f := .glo "_law_roots") rfl)
  obtain ⟨fd5, F5⟩ := c.d.def_ 5 (d := d_Ltrim) rfl
  have m5 : mg ("_law_trim" : Str) = some (.ref _) := He.glo_ok X G (c.d.fact 5 (f := .glo "_law_trim") rfl)
  obtain ⟨fd6, F6⟩ := c.d.def_ 6 (d := d_Lrow_times) rfl
  have m6 : mg ("_law_row_times" : Str) = some (.ref _) := He.glo_ok X G (c.d.fact 6 (f := .glo "_law_row_times") rfl)
  obtain ⟨fd7, F7⟩ := c.d.def_ 7 (d := d_Lmonic) rfl
  have m7 : mg ("_law_monic" : Str) = some (.ref _) := He.glo_ok X G (c.d.fact 7 (f := .glo "_law_monic") rfl)
  obtain ⟨fd8, F8⟩ := c.d.def_ 8 (d := d_Ltimes) rfl
  have m8 : mg ("_law_times" : Str) = some (.ref _) := He.glo_ok X G (c.d.fact 8 (f := .glo "_law_times") rfl)
  obtain ⟨fd9, F9⟩ := c.d.def_ 9 (d := d_Lscaled) rfl
  have m9 : mg ("_law_scaled" : Str) = some (.ref _) := He.glo_ok X G (c.d.fact 9 (f := .glo "_law_scaled") rfl)
  obtain ⟨fd10, F10⟩ := c.d.def_ 10 (d := d_Lfraction) rfl
  have m10 : mg ("_law_fraction" : Str) = some (.ref _) := He.glo_ok X G (c.d.fact 10 (f := .glo "_law_fraction") rfl)
  obtain ⟨fd11, F11⟩ := c.d.def_ 11 (d := d_Ltold) rfl
  have m11 : mg ("_law_told" : Str) = some (.ref _) := He.glo_ok X G (c.d.fact 11 (f := .glo "_law_told") rfl)
  obtain ⟨fd12, F12⟩ := c.d.def_ 12 (d := d_Ltold_row) rfl
  have m12 : mg ("_law_told_row" : Str) = some (.ref _) := He.glo_ok X G (c.d.fact 12 (f := .glo "_law_told_row") rfl)
  obtain ⟨fd13, F13⟩ := c.d.def_ 13 (d := d_Ladd) rfl
  have m13 : mg ("_law_add" : Str) = some (.ref _) := He.glo_ok X G (c.d.fact 13 (f := .glo "_law_add") rfl)
  obtain ⟨fd14, F14⟩ := c.d.def_ 14 (d := d_Lrow_sum) rfl
  have m14 : mg ("_law_row_sum" : Str) = some (.ref _) := He.glo_ok X G (c.d.fact 14 (f := .glo "_law_row_sum") rfl)
  obtain ⟨fd15, F15⟩ := c.d.def_ 15 (d := d_Lrow) rfl
  have m15 : mg ("_law_row" : Str) = some (.ref _) := He.glo_ok X G (c.d.fact 15 (f := .glo "_law_row") rfl)
  obtain ⟨fd16, F16⟩ := c.d.def_ 16 (d := d_Lmany) rfl
  have m16 : mg ("_law_many" : Str) = some (.ref _) := He.glo_ok X G (c.d.fact 16 (f := .glo "_law_many") rfl)
  obtain ⟨fd17, F17⟩ := c.d.def_ 17 (d := d_is_whole) rfl
  have m17 : mg ("is_whole" : Str) = some (.ref _) := He.glo_ok X G (c.d.fact 17 (f := .glo "is_whole") rfl)
  obtain ⟨fd18, F18⟩ := c.d.def_ 18 (d := d_is_frac) rfl
  have m18 : mg ("is_frac" : Str) = some (.ref _) := He.glo_ok X G (c.d.fact 18 (f := .glo "is_frac") rfl)
  obtain ⟨fd19, F19⟩ := c.d.def_ 19 (d := d_is_num) rfl
  have m19 : mg ("is_num" : Str) = some (.ref _) := He.glo_ok X G (c.d.fact 19 (f := .glo "is_num") rfl)
  obtain ⟨fd20, F20⟩ := c.d.def_ 20 (d := d_is_a_row) rfl
  have m20 : mg ("is_a_row" : Str) = some (.ref _) := He.glo_ok X G (c.d.fact 20 (f := .glo "is_a_row") rfl)
  obtain ⟨fd21, F21⟩ := c.d.def_ 21 (d := d_check_row) rfl
  have m21 : mg ("check_row" : Str) = some (.ref _) := He.glo_ok X G (c.d.fact 21 (f := .glo "check_row") rfl)
  obtain ⟨fd22, F22⟩ := c.d.def_ 22 (d := d_frac_reduced) rfl
  have m22 : mg ("frac_reduced" : Str) = some (.ref _) := He.glo_ok X G (c.d.fact 22 (f := .glo "frac_reduced") rfl)
  obtain ⟨fd23, F23⟩ := c.d.def_ 23 (d := d_frac_product) rfl
  have m23 : mg ("frac_product" : Str) = some (.ref _) := He.glo_ok X G (c.d.fact 23 (f := .glo "frac_product") rfl)
  obtain ⟨fd24, F24⟩ := c.d.def_ 24 (d := d_num_scaled) rfl
  have m24 : mg ("num_scaled" : Str) = some (.ref _) := He.glo_ok X G (c.d.fact 24 (f := .glo "num_scaled") rfl)
  obtain ⟨fd25, F25⟩ := c.d.def_ 25 (d := d_num_product) rfl
  have m25 : mg ("num_product" : Str) = some (.ref _) := He.glo_ok X G (c.d.fact 25 (f := .glo "num_product") rfl)
  obtain ⟨fd26, F26⟩ := c.d.def_ 26 (d := d_frac_over) rfl
  have m26 : mg ("frac_over" : Str) = some (.ref _) := He.glo_ok X G (c.d.fact 26 (f := .glo "frac_over") rfl)
  obtain ⟨fd27, F27⟩ := c.d.def_ 27 (d := d_num_mirrored) rfl
  have m27 : mg ("num_mirrored" : Str) = some (.ref _) := He.glo_ok X G (c.d.fact 27 (f := .glo "num_mirrored") rfl)
  obtain ⟨fd28, F28⟩ := c.d.def_ 28 (d := d_num_size) rfl
  have m28 : mg ("num_size" : Str) = some (.ref _) := He.glo_ok X G (c.d.fact 28 (f := .glo "num_size") rfl)
  obtain ⟨fd29, F29⟩ := c.d.def_ 29 (d := d_num_over) rfl
  have m29 : mg ("num_over" : Str) = some (.ref _) := He.glo_ok X G (c.d.fact 29 (f := .glo "num_over") rfl)
  obtain ⟨fd30, F30⟩ := c.d.def_ 30 (d := d_row_trimmed) rfl
  have m30 : mg ("row_trimmed" : Str) = some (.ref _) := He.glo_ok X G (c.d.fact 30 (f := .glo "row_trimmed") rfl)
  obtain ⟨fd31, F31⟩ := c.d.def_ 31 (d := d_frac_less) rfl
  have m31 : mg ("frac_less" : Str) = some (.ref _) := He.glo_ok X G (c.d.fact 31 (f := .glo "frac_less") rfl)
  obtain ⟨fd32, F32⟩ := c.d.def_ 32 (d := d_num_less) rfl
  have m32 : mg ("num_less" : Str) = some (.ref _) := He.glo_ok X G (c.d.fact 32 (f := .glo "num_less") rfl)
  obtain ⟨fd33, F33⟩ := c.d.def_ 33 (d := d_row_rest) rfl
  have m33 : mg ("row_rest" : Str) = some (.ref _) := He.glo_ok X G (c.d.fact 33 (f := .glo "row_rest") rfl)
  obtain ⟨fd34, F34⟩ := c.d.def_ 34 (d := d_row_divided) rfl
  have m34 : mg ("row_divided" : Str) = some (.ref _) := He.glo_ok X G (c.d.fact 34 (f := .glo "row_divided") rfl)
  obtain ⟨fd35, F35⟩ := c.d.def_ 35 (d := d_Ldivided) rfl
  have m35 : mg ("_law_divided" : Str) = some (.ref _) := He.glo_ok X G (c.d.fact 35 (f := .glo "_law_divided") rfl)
  obtain ⟨fd36, F36⟩ := c.d.def_ 36 (d := d_Lspread) rfl
  have m36 : mg ("_law_spread" : Str) = some (.ref _) := He.glo_ok X G (c.d.fact 36 (f := .glo "_law_spread") rfl)
  obtain ⟨fd37, F37⟩ := c.d.def_ 37 (d := d_Lover) rfl
  have m37 : mg ("_law_over" : Str) = some (.ref _) := He.glo_ok X G (c.d.fact 37 (f := .glo "_law_over") rfl)
  obtain ⟨fd38, F38⟩ := c.d.def_ 38 (d := d_row_scaled) rfl
  have m38 : mg ("row_scaled" : Str) = some (.ref _) := He.glo_ok X G (c.d.fact 38 (f := .glo "row_scaled") rfl)
  obtain ⟨fd39, F39⟩ := c.d.def_ 39 (d := d_row_last_one) rfl
  have m39 : mg ("row_last_one" : Str) = some (.ref _) := He.glo_ok X G (c.d.fact 39 (f := .glo "row_last_one") rfl)
  obtain ⟨fd40, F40⟩ := c.d.def_ 40 (d := d_row_divisor) rfl
  have m40 : mg ("row_divisor" : Str) = some (.ref _) := He.glo_ok X G (c.d.fact 40 (f := .glo "row_divisor") rfl)
  obtain ⟨fd41, F41⟩ := c.d.def_ 41 (d := d_row_common) rfl
  have m41 : mg ("row_common" : Str) = some (.ref _) := He.glo_ok X G (c.d.fact 41 (f := .glo "row_common") rfl)
  obtain ⟨fd42, F42⟩ := c.d.def_ 42 (d := d_Lright) rfl
  have m42 : mg ("_law_right" : Str) = some (.ref _) := He.glo_ok X G (c.d.fact 42 (f := .glo "_law_right") rfl)
  obtain ⟨fd43, F43⟩ := c.d.def_ 43 (d := d_Lpail) rfl
  have m43 : mg ("_law_pail" : Str) = some (.ref _) := He.glo_ok X G (c.d.fact 43 (f := .glo "_law_pail") rfl)
  obtain ⟨fd44, F44⟩ := c.d.def_ 44 (d := d_law) rfl
  have m44 : mg ("law" : Str) = some (.ref _) := He.glo_ok X G (c.d.fact 44 (f := .glo "law") rfl)
  have e := hfa.symm.trans m44
  cases e
  have bl := FunD.bindsA (ps := P_law) F44 fun _ _ _ _ _ _ us hl => match us, hl with | [_], _ => rfl
  obtain ⟨_, y_e_Ldip_2⟩ := kbn0 (ps := P_Ldip) F0 2 [] [0, 1] fun _ _ _ _ _ _ us ws hu hw => match us, ws, hu, hw with | [_, _], [], _, _ => rfl
  obtain ⟨_, y_e_Lgcd_2⟩ := kbn0 (ps := P_Lgcd) F1 2 [] [0, 1] fun _ _ _ _ _ _ us ws hu hw => match us, ws, hu, hw with | [_, _], [], _, _ => rfl
  obtain ⟨_, y_e_Lcut_3⟩ := kbn0 (ps := P_Lcut) F2 3 [] [0, 1, 2] fun _ _ _ _ _ _ us ws hu hw => match us, ws, hu, hw with | [_, _, _], [], _, _ => rfl
  obtain ⟨_, y_e_Ldrawn_3⟩ := kbn0 (ps := P_Ldrawn) F3 3 [] [0, 1, 2] fun _ _ _ _ _ _ us ws hu hw => match us, ws, hu, hw with | [_, _, _], [], _, _ => rfl
  obtain ⟨_, y_e_Lroots_1⟩ := kbn0 (ps := P_Lroots) F4 1 [] [0] fun _ _ _ _ _ _ us ws hu hw => match us, ws, hu, hw with | [_], [], _, _ => rfl
  obtain ⟨_, y_e_Ltrim_1⟩ := kbn0 (ps := P_Ltrim) F5 1 [] [0] fun _ _ _ _ _ _ us ws hu hw => match us, ws, hu, hw with | [_], [], _, _ => rfl
  obtain ⟨_, y_e_Lrow_times_2_S⟩ := kbn0 (ps := P_Lrow_times) F6 2 [] [0, 1] fun _ _ _ _ _ _ us ws hu hw => match us, ws, hu, hw with | [_, _], [], _, _ => rfl
  obtain ⟨_, y_e_Lmonic_1⟩ := kbn0 (ps := P_Lmonic) F7 1 [] [0] fun _ _ _ _ _ _ us ws hu hw => match us, ws, hu, hw with | [_], [], _, _ => rfl
  obtain ⟨_, y_e_Ltimes_2⟩ := kbn0 (ps := P_Ltimes) F8 2 [] [0, 1] fun _ _ _ _ _ _ us ws hu hw => match us, ws, hu, hw with | [_, _], [], _, _ => rfl
  obtain ⟨_, y_e_Lscaled_2⟩ := kbn0 (ps := P_Lscaled) F9 2 [] [0, 1] fun _ _ _ _ _ _ us ws hu hw => match us, ws, hu, hw with | [_, _], [], _, _ => rfl
  obtain ⟨_, y_e_Lfraction_2⟩ := kbn0 (ps := P_Lfraction) F10 2 [] [0, 1] fun _ _ _ _ _ _ us ws hu hw => match us, ws, hu, hw with | [_, _], [], _, _ => rfl
  obtain ⟨_, y_e_Ltold_1⟩ := kbn0 (ps := P_Ltold) F11 1 [] [0] fun _ _ _ _ _ _ us ws hu hw => match us, ws, hu, hw with | [_], [], _, _ => rfl
  obtain ⟨_, y_e_Ltold_row_1⟩ := kbn0 (ps := P_Ltold_row) F12 1 [] [0] fun _ _ _ _ _ _ us ws hu hw => match us, ws, hu, hw with | [_], [], _, _ => rfl
  obtain ⟨_, y_e_Ladd_2⟩ := kbn0 (ps := P_Ladd) F13 2 [] [0, 1] fun _ _ _ _ _ _ us ws hu hw => match us, ws, hu, hw with | [_, _], [], _, _ => rfl
  obtain ⟨_, y_e_Lrow_sum_2⟩ := kbn0 (ps := P_Lrow_sum) F14 2 [] [0, 1] fun _ _ _ _ _ _ us ws hu hw => match us, ws, hu, hw with | [_, _], [], _, _ => rfl
  obtain ⟨_, y_e_Lrow_2⟩ := kbn0 (ps := P_Lrow) F15 2 [] [0, 1] fun _ _ _ _ _ _ us ws hu hw => match us, ws, hu, hw with | [_, _], [], _, _ => rfl
  obtain ⟨_, y_e_Lmany_1⟩ := kbn0 (ps := P_Lmany) F16 1 [] [0] fun _ _ _ _ _ _ us ws hu hw => match us, ws, hu, hw with | [_], [], _, _ => rfl
  obtain ⟨_, y_e_is_whole_1⟩ := kbn0 (ps := P_is_whole) F17 1 [] [0] fun _ _ _ _ _ _ us ws hu hw => match us, ws, hu, hw with | [_], [], _, _ => rfl
  obtain ⟨_, y_e_is_frac_1⟩ := kbn0 (ps := P_is_frac) F18 1 [] [0] fun _ _ _ _ _ _ us ws hu hw => match us, ws, hu, hw with | [_], [], _, _ => rfl
  obtain ⟨_, y_e_is_num_1⟩ := kbn0 (ps := P_is_num) F19 1 [] [0] fun _ _ _ _ _ _ us ws hu hw => match us, ws, hu, hw with | [_], [], _, _ => rfl
  obtain ⟨_, y_e_is_a_row_1⟩ := kbn0 (ps := P_is_a_row) F20 1 [] [0] fun _ _ _ _ _ _ us ws hu hw => match us, ws, hu, hw with | [_], [], _, _ => rfl
  obtain ⟨_, y_e_check_row_1⟩ := kbn0 (ps := P_check_row) F21 1 [] [0] fun _ _ _ _ _ _ us ws hu hw => match us, ws, hu, hw with | [_], [], _, _ => rfl
  obtain ⟨_, y_e_frac_reduced_2⟩ := kbn0 (ps := P_frac_reduced) F22 2 [] [0, 1] fun _ _ _ _ _ _ us ws hu hw => match us, ws, hu, hw with | [_, _], [], _, _ => rfl
  obtain ⟨_, y_e_frac_product_2⟩ := kbn0 (ps := P_frac_product) F23 2 [] [0, 1] fun _ _ _ _ _ _ us ws hu hw => match us, ws, hu, hw with | [_, _], [], _, _ => rfl
  obtain ⟨_, y_e_num_scaled_2⟩ := kbn0 (ps := P_num_scaled) F24 2 [] [0, 1] fun _ _ _ _ _ _ us ws hu hw => match us, ws, hu, hw with | [_, _], [], _, _ => rfl
  obtain ⟨_, y_e_num_product_2⟩ := kbn0 (ps := P_num_product) F25 2 [] [0, 1] fun _ _ _ _ _ _ us ws hu hw => match us, ws, hu, hw with | [_, _], [], _, _ => rfl
  obtain ⟨_, y_e_frac_over_2⟩ := kbn0 (ps := P_frac_over) F26 2 [] [0, 1] fun _ _ _ _ _ _ us ws hu hw => match us, ws, hu, hw with | [_, _], [], _, _ => rfl
  obtain ⟨_, y_e_num_mirrored_1⟩ := kbn0 (ps := P_num_mirrored) F27 1 [] [0] fun _ _ _ _ _ _ us ws hu hw => match us, ws, hu, hw with | [_], [], _, _ => rfl
  obtain ⟨_, y_e_num_size_1⟩ := kbn0 (ps := P_num_size) F28 1 [] [0] fun _ _ _ _ _ _ us ws hu hw => match us, ws, hu, hw with | [_], [], _, _ => rfl
  obtain ⟨_, y_e_num_over_2⟩ := kbn0 (ps := P_num_over) F29 2 [] [0, 1] fun _ _ _ _ _ _ us ws hu hw => match us, ws, hu, hw with | [_, _], [], _, _ => rfl
  obtain ⟨_, y_e_row_trimmed_1⟩ := kbn0 (ps := P_row_trimmed) F30 1 [] [0] fun _ _ _ _ _ _ us ws hu hw => match us, ws, hu, hw with | [_], [], _, _ => rfl
  obtain ⟨_, y_e_frac_less_2⟩ := kbn0 (ps := P_frac_less) F31 2 [] [0, 1] fun _ _ _ _ _ _ us ws hu hw => match us, ws, hu, hw with | [_, _], [], _, _ => rfl
  obtain ⟨_, y_e_num_less_2⟩ := kbn0 (ps := P_num_less) F32 2 [] [0, 1] fun _ _ _ _ _ _ us ws hu hw => match us, ws, hu, hw with | [_, _], [], _, _ => rfl
  obtain ⟨_, y_e_row_rest_2⟩ := kbn0 (ps := P_row_rest) F33 2 [] [0, 1] fun _ _ _ _ _ _ us ws hu hw => match us, ws, hu, hw with | [_, _], [], _, _ => rfl
  obtain ⟨_, y_e_row_divided_2⟩ := kbn0 (ps := P_row_divided) F34 2 [] [0, 1] fun _ _ _ _ _ _ us ws hu hw => match us, ws, hu, hw with | [_, _], [], _, _ => rfl
  obtain ⟨_, y_e_row_divided_0_other_row⟩ := kbn0 (ps := P_row_divided) F34 0 ["other", "row"] [1, 0] fun _ _ _ _ _ _ us ws hu hw => match us, ws, hu, hw with | [], [_, _], _, _ => rfl
  obtain ⟨_, y_e_Ldivided_1⟩ := kbn0 (ps := P_Ldivided) F35 1 [] [0] fun _ _ _ _ _ _ us ws hu hw => match us, ws, hu, hw with | [_], [], _, _ => rfl
  obtain ⟨_, y_e_Lspread_2⟩ := kbn0 (ps := P_Lspread) F36 2 [] [0, 1] fun _ _ _ _ _ _ us ws hu hw => match us, ws, hu, hw with | [_, _], [], _, _ => rfl
  obtain ⟨_, y_e_Lover_2⟩ := kbn0 (ps := P_Lover) F37 2 [] [0, 1] fun _ _ _ _ _ _ us ws hu hw => match us, ws, hu, hw with | [_, _], [], _, _ => rfl
  obtain ⟨_, y_e_row_scaled_2⟩ := kbn0 (ps := P_row_scaled) F38 2 [] [0, 1] fun _ _ _ _ _ _ us ws hu hw => match us, ws, hu, hw with | [_, _], [], _, _ => rfl
  obtain ⟨_, y_e_row_last_one_1⟩ := kbn0 (ps := P_row_last_one) F39 1 [] [0] fun _ _ _ _ _ _ us ws hu hw => match us, ws, hu, hw with | [_], [], _, _ => rfl
  obtain ⟨_, y_e_row_divisor_2⟩ := kbn0 (ps := P_row_divisor) F40 2 [] [0, 1] fun _ _ _ _ _ _ us ws hu hw => match us, ws, hu, hw with | [_, _], [], _, _ => rfl
  obtain ⟨_, y_e_row_common_2⟩ := kbn0 (ps := P_row_common) F41 2 [] [0, 1] fun _ _ _ _ _ _ us ws hu hw => match us, ws, hu, hw with | [_, _], [], _, _ => rfl
  obtain ⟨_, y_e_row_common_0_other_row⟩ := kbn0 (ps := P_row_common) F41 0 ["other", "row"] [1, 0] fun _ _ _ _ _ _ us ws hu hw => match us, ws, hu, hw with | [], [_, _], _, _ => rfl
  obtain ⟨_, y_e_Lright_1⟩ := kbn0 (ps := P_Lright) F42 1 [] [0] fun _ _ _ _ _ _ us ws hu hw => match us, ws, hu, hw with | [_], [], _, _ => rfl
  obtain ⟨_, y_e_Lpail_2⟩ := kbn0 (ps := P_Lpail) F43 2 [] [0, 1] fun _ _ _ _ _ _ us ws hu hw => match us, ws, hu, hw with | [_, _], [], _, _ => rfl
  refine ⟨fd44, fun s v => bl s [v] rfl, fun base _ _ => ?_⟩
  have g0 : FnG P w K mg base 1 _ fd0 P_Ldip (spD K G_Ldip 4 b_Ldip P_Ldip) := fnG_of (N := N_Ldip) F0 s_Ldip k_Ldip ⟨(fa_cons r_divmod (fa_cons r_int fa_nil)), fa_nil, fa_nil⟩ ents_nil
  have t_e_Ldip_2 : EntOk P w K mg base 1 e_Ldip_2 := ent_of m0 F0.kp g0 y_e_Ldip_2 (fun g H => .nil) rfl rfl
  have g1 : FnG P w K mg base 2 _ fd1 P_Lgcd (spD K G_Lgcd 2 b_Lgcd P_Lgcd) := fnG_of (N := N_Lgcd) F1 s_Lgcd k_Lgcd ⟨(fa_cons r_abs (fa_cons r_int fa_nil)), fa_nil, fa_nil⟩ ents_nil
  have t_e_Lgcd_2 : EntOk P w K mg base 2 e_Lgcd_2 := ent_of m1 F1.kp g1 y_e_Lgcd_2 (fun g H => .nil) rfl rfl
  have g2 : FnG P w K mg base 3 _ fd2 P_Lcut (spD K G_Lcut 4 b_Lcut P_Lcut) := fnG_of (N := N_Lcut) F2 s_Lcut k_Lcut ⟨fa_nil, fa_nil, fa_nil⟩ (ents_cons t_e_Lgcd_2 (by decide) ents_nil)
  have t_e_Lcut_3 : EntOk P w K mg base 3 e_Lcut_3 := ent_of m2 F2.kp g2 y_e_Lcut_3 (fun g H => .nil) rfl rfl
  have g3 : FnG P w K mg base 4 _ fd3 P_Ldrawn (spD K G_Ldrawn 5 b_Ldrawn P_Ldrawn) := fnG_of (N := N_Ldrawn) F3 s_Ldrawn k_Ldrawn ⟨fa_nil, fa_nil, fa_nil⟩ (ents_cons t_e_Ldip_2 (by decide) (ents_cons t_e_Lcut_3 (by decide) ents_nil))
  have t_e_Ldrawn_3 : EntOk P w K mg base 4 e_Ldrawn_3 := ent_of m3 F3.kp g3 y_e_Ldrawn_3 (fun g H => .nil) rfl rfl
  have g4 : FnG P w K mg base 5 _ fd4 P_Lroots (spD K G_Lroots 4 b_Lroots P_Lroots) := fnG_of (N := N_Lroots) F4 s_Lroots k_Lroots ⟨(fa_cons r_range fa_nil), fa_nil, fa_nil⟩ (ents_cons t_e_Ldip_2 (by decide) (ents_cons t_e_Ldrawn_3 (by decide) ents_nil))
  have t_e_Lroots_1 : EntOk P w K mg base 5 e_Lroots_1 := ent_of m4 F4.kp g4 y_e_Lroots_1 (fun g H => .nil) rfl rfl
  have g5 : FnG P w K mg base 6 _ fd5 P_Ltrim (spD K G_Ltrim 3 b_Ltrim P_Ltrim) := fnG_of (N := N_Ltrim) F5 s_Ltrim k_Ltrim ⟨(fa_cons r_len (fa_cons r_range (fa_cons r_list fa_nil))), fa_nil, fa_nil⟩ ents_nil
  have t_e_Ltrim_1 : EntOk P w K mg base 6 e_Ltrim_1 := ent_of m5 F5.kp g5 y_e_Ltrim_1 (fun g H => .nil) rfl rfl
  have g6 : FnG P w K mg base 7 _ fd6 P_Lrow_times (spD K G_Lrow_times 16 b_Lrow_times P_Lrow_times) := fnG_of (N := N_Lrow_times) F6 s_Lrow_times k_Lrow_times ⟨(fa_cons r_max (fa_cons r_len (fa_cons r_range fa_nil))), fa_nil, fa_nil⟩ (ents_cons t_e_Lgcd_2 (by decide) (ents_cons t_e_Ltrim_1 (by decide) (ents_cons t_e_Lcut_3 (by decide) ents_nil)))
  have t_e_Lrow_times_2_S : EntOk P w K mg base 7 e_Lrow_times_2_S := ent_seal (ent_of m6 F6.kp g6 y_e_Lrow_times_2_S (fun g H => .nil) rfl rfl)
  have g7 : FnG P w K mg base 8 _ fd7 P_Lmonic (spD K G_Lmonic 3 b_Lmonic P_Lmonic) := fnG_of (N := N_Lmonic) F7 s_Lmonic k_Lmonic ⟨fa_nil, fa_nil, fa_nil⟩ (ents_cons t_e_Lrow_times_2_S (by decide) ents_nil)
  have t_e_Lmonic_1 : EntOk P w K mg base 8 e_Lmonic_1 := ent_of m7 F7.kp g7 y_e_Lmonic_1 (fun g H => .nil) rfl rfl
  have g8 : FnG P w K mg base 9 _ fd8 P_Ltimes (spD K G_Ltimes 2 b_Ltimes P_Ltimes) := fnG_of (N := N_Ltimes) F8 s_Ltimes k_Ltimes ⟨fa_nil, fa_nil, fa_nil⟩ (ents_cons t_e_Lcut_3 (by decide) ents_nil)
  have t_e_Ltimes_2 : EntOk P w K mg base 9 e_Ltimes_2 := ent_of m8 F8.kp g8 y_e_Ltimes_2 (fun g H => .nil) rfl rfl
  have g9 : FnG P w K mg base 10 _ fd9 P_Lscaled (spD K G_Lscaled 3 b_Lscaled P_Lscaled) := fnG_of (N := N_Lscaled) F9 s_Lscaled k_Lscaled ⟨fa_nil, fa_nil, fa_nil⟩ (ents_cons t_e_Ltimes_2 (by decide) ents_nil)
  have t_e_Lscaled_2 : EntOk P w K mg base 10 e_Lscaled_2 := ent_of m9 F9.kp g9 y_e_Lscaled_2 (fun g H => .nil) rfl rfl
  have g10 : FnG P w K mg base 11 _ fd10 P_Lfraction (spD K G_Lfraction 3 b_Lfraction P_Lfraction) := fnG_of (N := N_Lfraction) F10 s_Lfraction k_Lfraction ⟨fa_nil, fa_nil, fa_nil⟩ (ents_cons t_e_Lgcd_2 (by decide) ents_nil)
  have t_e_Lfraction_2 : EntOk P w K mg base 11 e_Lfraction_2 := ent_of m10 F10.kp g10 y_e_Lfraction_2 (fun g H => .nil) rfl rfl
  have g11 : FnG P w K mg base 12 _ fd11 P_Ltold (spD K G_Ltold 1 b_Ltold P_Ltold) := fnG_of (N := N_Ltold) F11 s_Ltold k_Ltold ⟨fa_nil, fa_nil, fa_nil⟩ (ents_cons t_e_Lfraction_2 (by decide) ents_nil)
  have t_e_Ltold_1 : EntOk P w K mg base 12 e_Ltold_1 := ent_of m11 F11.kp g11 y_e_Ltold_1 (fun g H => .nil) rfl rfl
  have g12 : FnG P w K mg base 13 _ fd12 P_Ltold_row (spD K G_Ltold_row 2 b_Ltold_row P_Ltold_row) := fnG_of (N := N_Ltold_row) F12 s_Ltold_row k_Ltold_row ⟨(fa_cons r_tuple fa_nil), fa_nil, fa_nil⟩ (ents_cons t_e_Ltrim_1 (by decide) (ents_cons t_e_Ltold_1 (by decide) ents_nil))
  have t_e_Ltold_row_1 : EntOk P w K mg base 13 e_Ltold_row_1 := ent_of m12 F12.kp g12 y_e_Ltold_row_1 (fun g H => .nil) rfl rfl
  have g13 : FnG P w K mg base 14 _ fd13 P_Ladd (spD K G_Ladd 2 b_Ladd P_Ladd) := fnG_of (N := N_Ladd) F13 s_Ladd k_Ladd ⟨fa_nil, fa_nil, fa_nil⟩ (ents_cons t_e_Lcut_3 (by decide) ents_nil)
  have t_e_Ladd_2 : EntOk P w K mg base 14 e_Ladd_2 := ent_of m13 F13.kp g13 y_e_Ladd_2 (fun g H => .nil) rfl rfl
  have g14 : FnG P w K mg base 15 _ fd14 P_Lrow_sum (spD K G_Lrow_sum 6 b_Lrow_sum P_Lrow_sum) := fnG_of (N := N_Lrow_sum) F14 s_Lrow_sum k_Lrow_sum ⟨(fa_cons r_max (fa_cons r_len (fa_cons r_list (fa_cons r_range fa_nil)))), fa_nil, fa_nil⟩ (ents_cons t_e_Ltrim_1 (by decide) (ents_cons t_e_Ladd_2 (by decide) ents_nil))
  have t_e_Lrow_sum_2 : EntOk P w K mg base 15 e_Lrow_sum_2 := ent_of m14 F14.kp g14 y_e_Lrow_sum_2 (fun g H => .nil) rfl rfl
  have g15 : FnG P w K mg base 16 _ fd15 P_Lrow (spD K G_Lrow 5 b_Lrow P_Lrow) := fnG_of (N := N_Lrow) F15 s_Lrow k_Lrow ⟨(fa_cons r_range fa_nil), fa_nil, fa_nil⟩ (ents_cons t_e_Ldip_2 (by decide) (ents_cons t_e_Ldrawn_3 (by decide) (ents_cons t_e_Ltrim_1 (by decide) ents_nil)))
  have t_e_Lrow_2 : EntOk P w K mg base 16 e_Lrow_2 := ent_of m15 F15.kp g15 y_e_Lrow_2 (fun g H => .nil) rfl rfl
  have g16 : FnG P w K mg base 17 _ fd16 P_Lmany (spD K G_Lmany 2 b_Lmany P_Lmany) := fnG_of (N := N_Lmany) F16 s_Lmany k_Lmany ⟨fa_nil, fa_nil, fa_nil⟩ (ents_cons t_e_Ldrawn_3 (by decide) ents_nil)
  have t_e_Lmany_1 : EntOk P w K mg base 17 e_Lmany_1 := ent_of m16 F16.kp g16 y_e_Lmany_1 (fun g H => .nil) rfl rfl
  have g17 : FnG P w K mg base 18 _ fd17 P_is_whole (spD K G_is_whole 1 b_is_whole P_is_whole) := fnG_of (N := N_is_whole) F17 s_is_whole k_is_whole ⟨(fa_cons r_isinstance (fa_cons r_bool (fa_cons r_int fa_nil))), fa_nil, fa_nil⟩ ents_nil
  have t_e_is_whole_1 : EntOk P w K mg base 18 e_is_whole_1 := ent_of m17 F17.kp g17 y_e_is_whole_1 (fun g H => .nil) rfl rfl
  have g18 : FnG P w K mg base 19 _ fd18 P_is_frac (spD K G_is_frac 1 b_is_frac P_is_frac) := fnG_of (N := N_is_frac) F18 s_is_frac k_is_frac ⟨(fa_cons r_isinstance (fa_cons r_tuple (fa_cons r_len fa_nil))), fa_nil, (fa_cons u_gcd fa_nil)⟩ (ents_cons t_e_is_whole_1 (by decide) ents_nil)
  have t_e_is_frac_1 : EntOk P w K mg base 19 e_is_frac_1 := ent_of m18 F18.kp g18 y_e_is_frac_1 (fun g H => .nil) rfl rfl
  have g19 : FnG P w K mg base 20 _ fd19 P_is_num (spD K G_is_num 1 b_is_num P_is_num) := fnG_of (N := N_is_num) F19 s_is_num k_is_num ⟨(fa_cons r_isinstance (fa_cons r_tuple (fa_cons r_len fa_nil))), fa_nil, fa_nil⟩ (ents_cons t_e_is_frac_1 (by decide) ents_nil)
  have t_e_is_num_1 : EntOk P w K mg base 20 e_is_num_1 := ent_of m19 F19.kp g19 y_e_is_num_1 (fun g H => .nil) rfl rfl
  have g20 : FnG P w K mg base 21 _ fd20 P_is_a_row (spD K G_is_a_row 2 b_is_a_row P_is_a_row) := fnG_of (N := N_is_a_row) F20 s_is_a_row k_is_a_row ⟨(fa_cons r_isinstance (fa_cons r_tuple fa_nil)), (fa_cons q_NOUGHT fa_nil), fa_nil⟩ (ents_cons t_e_is_num_1 (by decide) ents_nil)
  have t_e_is_a_row_1 : EntOk P w K mg base 21 e_is_a_row_1 := ent_of m20 F20.kp g20 y_e_is_a_row_1 (fun g H => .nil) rfl rfl
  have g21 : FnG P w K mg base 22 _ fd21 P_check_row (spD K G_check_row 1 b_check_row P_check_row) := fnG_of (N := N_check_row) F21 s_check_row k_check_row ⟨fa_nil, fa_nil, fa_nil⟩ (ents_cons t_e_is_a_row_1 (by decide) ents_nil)
  have t_e_check_row_1 : EntOk P w K mg base 22 e_check_row_1 := ent_of m21 F21.kp g21 y_e_check_row_1 (fun g H => .nil) rfl rfl
  have g22 : FnG P w K mg base 23 _ fd22 P_frac_reduced (spD K G_frac_reduced 3 b_frac_reduced P_frac_reduced) := fnG_of (N := N_frac_reduced) F22 s_frac_reduced k_frac_reduced ⟨fa_nil, fa_nil, (fa_cons u_gcd fa_nil)⟩ ents_nil
  have t_e_frac_reduced_2 : EntOk P w K mg base 23 e_frac_reduced_2 := ent_of m22 F22.kp g22 y_e_frac_reduced_2 (fun g H => .nil) rfl rfl
  have g23 : FnG P w K mg base 24 _ fd23 P_frac_product (spD K G_frac_product 2 b_frac_product P_frac_product) := fnG_of (N := N_frac_product) F23 s_frac_product k_frac_product ⟨fa_nil, fa_nil, fa_nil⟩ (ents_cons t_e_frac_reduced_2 (by decide) ents_nil)
  have t_e_frac_product_2 : EntOk P w K mg base 24 e_frac_product_2 := ent_of m23 F23.kp g23 y_e_frac_product_2 (fun g H => .nil) rfl rfl
  have g24 : FnG P w K mg base 25 _ fd24 P_num_scaled (spD K G_num_scaled 2 b_num_scaled P_num_scaled) := fnG_of (N := N_num_scaled) F24 s_num_scaled k_num_scaled ⟨fa_nil, fa_nil, fa_nil⟩ (ents_cons t_e_frac_product_2 (by decide) ents_nil)
  have t_e_num_scaled_2 : EntOk P w K mg base 25 e_num_scaled_2 := ent_of m24 F24.kp g24 y_e_num_scaled_2 (fun g H => .nil) rfl rfl
  have g25 : FnG P w K mg base 26 _ fd25 P_num_product (spD K G_num_product 11 b_num_product P_num_product) := fnG_of (N := N_num_product) F25 s_num_product k_num_product ⟨fa_nil, fa_nil, fa_nil⟩ (ents_cons t_e_frac_reduced_2 (by decide) ents_nil)
  have t_e_num_product_2 : EntOk P w K mg base 26 e_num_product_2 := ent_of m25 F25.kp g25 y_e_num_product_2 (fun g H => .nil) rfl rfl
  have g26 : FnG P w K mg base 27 _ fd26 P_frac_over (spD K G_frac_over 2 b_frac_over P_frac_over) := fnG_of (N := N_frac_over) F26 s_frac_over k_frac_over ⟨fa_nil, fa_nil, fa_nil⟩ (ents_cons t_e_frac_reduced_2 (by decide) ents_nil)
  have t_e_frac_over_2 : EntOk P w K mg base 27 e_frac_over_2 := ent_of m26 F26.kp g26 y_e_frac_over_2 (fun g H => .nil) rfl rfl
  have g27 : FnG P w K mg base 28 _ fd27 P_num_mirrored (spD K G_num_mirrored 1 b_num_mirrored P_num_mirrored) := fnG_of (N := N_num_mirrored) F27 s_num_mirrored k_num_mirrored ⟨fa_nil, fa_nil, fa_nil⟩ ents_nil
  have t_e_num_mirrored_1 : EntOk P w K mg base 28 e_num_mirrored_1 := ent_of m27 F27.kp g27 y_e_num_mirrored_1 (fun g H => .nil) rfl rfl
  have g28 : FnG P w K mg base 29 _ fd28 P_num_size (spD K G_num_size 5 b_num_size P_num_size) := fnG_of (N := N_num_size) F28 s_num_size k_num_size ⟨fa_nil, fa_nil, fa_nil⟩ (ents_cons t_e_frac_reduced_2 (by decide) ents_nil)
  have t_e_num_size_1 : EntOk P w K mg base 29 e_num_size_1 := ent_of m28 F28.kp g28 y_e_num_size_1 (fun g H => .nil) rfl rfl
  have g29 : FnG P w K mg base 30 _ fd29 P_num_over (spD K G_num_over 2 b_num_over P_num_over) := fnG_of (N := N_num_over) F29 s_num_over k_num_over ⟨fa_nil, (fa_cons q_FRAC_ONE fa_nil), fa_nil⟩ (ents_cons t_e_num_scaled_2 (by decide) (ents_cons t_e_num_product_2 (by decide) (ents_cons t_e_num_mirrored_1 (by decide) (ents_cons t_e_frac_over_2 (by decide) (ents_cons t_e_num_size_1 (by decide) ents_nil)))))
  have t_e_num_over_2 : EntOk P w K mg base 30 e_num_over_2 := ent_of m29 F29.kp g29 y_e_num_over_2 (fun g H => .nil) rfl rfl
  have g30 : FnG P w K mg base 31 _ fd30 P_row_trimmed (spD K G_row_trimmed 2 b_row_trimmed P_row_trimmed) := fnG_of (N := N_row_trimmed) F30 s_row_trimmed k_row_trimmed ⟨(fa_cons r_len (fa_cons r_tuple fa_nil)), (fa_cons q_NOUGHT fa_nil), fa_nil⟩ ents_nil
  have t_e_row_trimmed_1 : EntOk P w K mg base 31 e_row_trimmed_1 := ent_of m30 F30.kp g30 y_e_row_trimmed_1 (fun g H => .nil) rfl rfl
  have g31 : FnG P w K mg base 32 _ fd31 P_frac_less (spD K G_frac_less 2 b_frac_less P_frac_less) := fnG_of (N := N_frac_less) F31 s_frac_less k_frac_less ⟨fa_nil, fa_nil, fa_nil⟩ (ents_cons t_e_frac_reduced_2 (by decide) ents_nil)
  have t_e_frac_less_2 : EntOk P w K mg base 32 e_frac_less_2 := ent_of m31 F31.kp g31 y_e_frac_less_2 (fun g H => .nil) rfl rfl
  have g32 : FnG P w K mg base 33 _ fd32 P_num_less (spD K G_num_less 2 b_num_less P_num_less) := fnG_of (N := N_num_less) F32 s_num_less k_num_less ⟨fa_nil, fa_nil, fa_nil⟩ (ents_cons t_e_frac_less_2 (by decide) ents_nil)
  have t_e_num_less_2 : EntOk P w K mg base 33 e_num_less_2 := ent_of m32 F32.kp g32 y_e_num_less_2 (fun g H => .nil) rfl rfl
  have g33 : FnG P w K mg base 34 _ fd33 P_row_rest (spD K G_row_rest 9 b_row_rest P_row_rest) := fnG_of (N := N_row_rest) F33 s_row_rest k_row_rest ⟨(fa_cons r_list (fa_cons r_range (fa_cons r_len (fa_cons r_enumerate fa_nil)))), (fa_cons q_ONE fa_nil), fa_nil⟩ (ents_cons t_e_num_over_2 (by decide) (ents_cons t_e_num_product_2 (by decide) (ents_cons t_e_num_less_2 (by decide) (ents_cons t_e_row_trimmed_1 (by decide) ents_nil))))
  have t_e_row_rest_2 : EntOk P w K mg base 34 e_row_rest_2 := ent_of m33 F33.kp g33 y_e_row_rest_2 (fun g H => .nil) rfl rfl
  have g34 : FnG P w K mg base 35 _ fd34 P_row_divided (spD K G_row_divided 2 b_row_divided P_row_divided) := fnG_of (N := N_row_divided) F34 s_row_divided k_row_divided ⟨fa_nil, fa_nil, fa_nil⟩ (ents_cons t_e_check_row_1 (by decide) (ents_cons t_e_row_rest_2 (by decide) ents_nil))
  have t_e_row_divided_2 : EntOk P w K mg base 35 e_row_divided_2 := ent_of m34 F34.kp g34 y_e_row_divided_2 (fun g H => .nil) rfl rfl
  have t_e_row_divided_0_other_row : EntOk P w K mg base 35 e_row_divided_0_other_row := ent_of m34 F34.kp g34 y_e_row_divided_0_other_row (fun g H => .nil) rfl rfl
  have g35 : FnG P w K mg base 36 _ fd35 P_Ldivided (spD K G_Ldivided 8 b_Ldivided P_Ldivided) := fnG_of (N := N_Ldivided) F35 s_Ldivided k_Ldivided ⟨(fa_cons r_len (fa_cons r_repr fa_nil)), fa_nil, fa_nil⟩ (ents_cons t_e_Lrow_2 (by decide) (ents_cons t_e_Lmany_1 (by decide) (ents_cons t_e_Ltrim_1 (by decide) (ents_cons t_e_Lrow_sum_2 (by decide) (ents_cons t_e_Lrow_times_2_S (by decide) (ents_cons t_e_Ltold_row_1 (by decide) (ents_cons t_e_row_divided_2 (by decide) (ents_cons t_e_row_divided_0_other_row (by decide) ents_nil))))))))
  have t_e_Ldivided_1 : EntOk P w K mg base 36 e_Ldivided_1 := ent_of m35 F35.kp g35 y_e_Ldivided_1 (fun g H => .nil) rfl rfl
  have g36 : FnG P w K mg base 37 _ fd36 P_Lspread (spD K G_Lspread 4 b_Lspread P_Lspread) := fnG_of (N := N_Lspread) F36 s_Lspread k_Lspread ⟨(fa_cons r_range (fa_cons r_len fa_nil)), fa_nil, fa_nil⟩ ents_nil
  have t_e_Lspread_2 : EntOk P w K mg base 37 e_Lspread_2 := ent_of m36 F36.kp g36 y_e_Lspread_2 (fun g H => .nil) rfl rfl
  have g37 : FnG P w K mg base 38 _ fd37 P_Lover (spD K G_Lover 3 b_Lover P_Lover) := fnG_of (N := N_Lover) F37 s_Lover k_Lover ⟨fa_nil, fa_nil, fa_nil⟩ (ents_cons t_e_Lcut_3 (by decide) ents_nil)
  have t_e_Lover_2 : EntOk P w K mg base 38 e_Lover_2 := ent_of m37 F37.kp g37 y_e_Lover_2 (fun g H => .nil) rfl rfl
  have g38 : FnG P w K mg base 39 _ fd38 P_row_scaled (spD K G_row_scaled 3 b_row_scaled P_row_scaled) := fnG_of (N := N_row_scaled) F38 s_row_scaled k_row_scaled ⟨fa_nil, fa_nil, fa_nil⟩ (ents_cons t_e_row_trimmed_1 (by decide) (ents_cons t_e_num_product_2 (by decide) ents_nil))
  have t_e_row_scaled_2 : EntOk P w K mg base 39 e_row_scaled_2 := ent_of m38 F38.kp g38 y_e_row_scaled_2 (fun g H => .nil) rfl rfl
  have g39 : FnG P w K mg base 40 _ fd39 P_row_last_one (spD K G_row_last_one 1 b_row_last_one P_row_last_one) := fnG_of (N := N_row_last_one) F39 s_row_last_one k_row_last_one ⟨fa_nil, (fa_cons q_ONE fa_nil), fa_nil⟩ (ents_cons t_e_row_scaled_2 (by decide) (ents_cons t_e_num_over_2 (by decide) ents_nil))
  have t_e_row_last_one_1 : EntOk P w K mg base 40 e_row_last_one_1 := ent_of m39 F39.kp g39 y_e_row_last_one_1 (fun g H => .nil) rfl rfl
  have g40 : FnG P w K mg base 41 _ fd40 P_row_divisor (spD K G_row_divisor 4 b_row_divisor P_row_divisor) := fnG_of (N := N_row_divisor) F40 s_row_divisor k_row_divisor ⟨fa_nil, fa_nil, fa_nil⟩ (ents_cons t_e_row_last_one_1 (by decide) (ents_cons t_e_row_rest_2 (by decide) ents_nil))
  have t_e_row_divisor_2 : EntOk P w K mg base 41 e_row_divisor_2 := ent_of m40 F40.kp g40 y_e_row_divisor_2 (fun g H => .nil) rfl rfl
  have g41 : FnG P w K mg base 42 _ fd41 P_row_common (spD K G_row_common 2 b_row_common P_row_common) := fnG_of (N := N_row_common) F41 s_row_common k_row_common ⟨fa_nil, fa_nil, fa_nil⟩ (ents_cons t_e_check_row_1 (by decide) (ents_cons t_e_row_divisor_2 (by decide) ents_nil))
  have t_e_row_common_2 : EntOk P w K mg base 42 e_row_common_2 := ent_of m41 F41.kp g41 y_e_row_common_2 (fun g H => .nil) rfl rfl
  have t_e_row_common_0_other_row : EntOk P w K mg base 42 e_row_common_0_other_row := ent_of m41 F41.kp g41 y_e_row_common_0_other_row (fun g H => .nil) rfl rfl
  have g42 : FnG P w K mg base 43 _ fd42 P_Lright (spD K G_Lright 18 b_Lright P_Lright) := fnG_of (N := N_Lright) F42 s_Lright k_Lright ⟨(fa_cons r_range (fa_cons r_len (fa_cons r_min (fa_cons r_repr fa_nil)))), fa_nil, fa_nil⟩ (ents_cons t_e_Ldivided_1 (by decide) (ents_cons t_e_Lroots_1 (by decide) (ents_cons t_e_Ldip_2 (by decide) (ents_cons t_e_Lmonic_1 (by decide) (ents_cons t_e_Lspread_2 (by decide) (ents_cons t_e_Lmany_1 (by decide) (ents_cons t_e_Lscaled_2 (by decide) (ents_cons t_e_Lrow_times_2_S (by decide) (ents_cons t_e_Ltold_row_1 (by decide) (ents_cons t_e_row_common_2 (by decide) (ents_cons t_e_row_common_0_other_row (by decide) (ents_cons t_e_row_divided_2 (by decide) (ents_cons t_e_Lover_2 (by decide) ents_nil)))))))))))))
  have t_e_Lright_1 : EntOk P w K mg base 43 e_Lright_1 := ent_of m42 F42.kp g42 y_e_Lright_1 (fun g H => .nil) rfl rfl
  have g43 : FnG P w K mg base 44 _ fd43 P_Lpail (spD K G_Lpail 6 b_Lpail P_Lpail) := fnG_of (N := N_Lpail) F43 s_Lpail k_Lpail ⟨(fa_cons r_len (fa_cons r_int (fa_cons r_abs fa_nil))), fa_nil, fa_nil⟩ ents_nil
  have t_e_Lpail_2 : EntOk P w K mg base 44 e_Lpail_2 := ent_of m43 F43.kp g43 y_e_Lpail_2 (fun g H => .nil) rfl rfl
  have g44 : FnG P w K mg base 45 _ fd44 P_law (spD K G_law 2 b_law P_law) := fnG_of (N := N_law) F44 s_law k_law ⟨(fa_cons r_all (fa_cons r_range (fa_cons r_max (fa_cons r_min (fa_cons r_len fa_nil))))), fa_nil, fa_nil⟩ (ents_cons t_e_Lright_1 (by decide) (ents_cons t_e_Lpail_2 (by decide) ents_nil))
  exact g44
end
end W
open PySem PySem.W PySem.Calls PyProof.Rows
theorem THELAW (main : ∀ ns : List Int, ns.length ≤ 63 → (∀ z ∈ ns, Builtin.Int.intBits z ≤ 1048576) → ∃ S, PD.runF W.G_law 2 W.b_law [.lst (ns.map PD.D.int)] [] = some (.bl true, S)) : PySem.Challenge.rw_withinrim_k05_whole_rows_divided_and_com.Holds := by
  w_on; o_law
  refine HandSHeadRun.head_imp (r := OpenLaw.row PySem.Challenge.rw_withinrim_k05_whole_rows_divided_and_com) (q := view (OpenLaw.row PySem.Challenge.rw_withinrim_k05_whole_rows_divided_and_com).prog [0, 56]) (H := W.hk) (ob := W.ob) (M := 6000) (loose := W.loose) (d := HandSHeadRun.topDef (OpenLaw.row PySem.Challenge.rw_withinrim_k05_whole_rows_divided_and_com).prog 56) (kwd := []) W.ob_eq
    W.run (by kernel_rfl) (by kernel_rfl) (by kernel_rfl) (by rfl) (by first | assumption | decide +kernel) (by decide +kernel) ⟨rfl, rfl, rfl, rfl, rfl, by decide +kernel⟩ ?hw ?hc
  case hw => w_witness2
  case hc =>
    refine PD.walkGB (l := PySem.Challenge.rw_withinrim_k05_whole_rows_divided_and_com) (k := 45) (x := "_law_script") (G := W.G_law) (m := 2) (b := W.b_law) rfl (by kernel_rfl) ⟨rfl, by decide, by decide⟩ ?F main
    intro w mg fa h Y G hmg0
    obtain ⟨K, KX, c⟩ := Y
    have hmg : mg ("law" : PySem.Str) = some (.ref fa) := by
      have e : (HandSHeadRun.topDef (OpenLaw.row PySem.Challenge.rw_withinrim_k05_whole_rows_divided_and_com).prog 56).name = ("law" : PySem.Str) := by kernel_rfl
      rw [← e]
      exact hmg0
    obtain ⟨fd, hb, hF⟩ := W.facts (P := (PySem.Challenge.rw_withinrim_k05_whole_rows_divided_and_com).prog) (w := w) KX G hmg c
    exact ⟨K, fd, KX, hb, hF⟩

set_option Elab.async false
set_option linter.all false
set_option autoImplicit false
set_option maxRecDepth 100000
set_option maxHeartbeats 2000000
namespace PD
open PySem PySem.Spec PyProof.Rows L2
def Sms.hd : Sms → Sm | .cons s _ => s | .nil => .pass
def Sms.tl : Sms → Sms | .cons _ ss => ss | .nil => .nil
def Sm.body : Sm → Sms | .for_ _ _ b => b | .wh _ b => b | _ => .nil
def Sms.nth : Sms → Nat → Sm | .cons s _, 0 => s | .cons _ ss, n + 1 => ss.nth n | .nil, _ => .pass
def Sms.drp : Sms → Nat → Sms | ss, 0 => ss | .cons _ ss, n + 1 => ss.drp n | .nil, _ => .nil
theorem st_nx {G : Gam} {s : Sm} {ss : Sms} {L L2 : Loc} {S S2 : Store} {r : Option ((Fl × Loc) × Store)} (h : evS G s L S = some ((.nx, L2), S2)) (t : evSs G ss L2 S2 = r) : evSs G (.cons s ss) L S = r := by
  rw [evSs_cons, h]
  exact t
theorem st_ret {G : Gam} {s : Sm} {ss : Sms} {L L2 : Loc} {S S2 : Store} {d : D} (h : evS G s L S = some ((.ret d, L2), S2)) : evSs G (.cons s ss) L S = some ((.ret d, L2), S2) := by
  rw [evSs_cons, h]
  rfl
theorem okSh_N {k : Nat} {p : Cq} (h : hb k p) (hk : k ≤ 1900) : (Nm p).okSh := okSh_Nm (h.szn.1.mono hk) (h.szn.2.mono hk)
theorem okShs_map {k : Nat} (hk : k ≤ 1900) : ∀ {ps : List Cq}, (∀ p ∈ ps, hb k p) → D.okShs (ps.map Nm)
  | [], _ => trivial
  | p :: ps, h => ⟨okSh_N (h p (by simp)) hk, okShs_map hk fun q hq => h q (by simp [hq])⟩
@[simp] theorem isN_n : cmpV .isN (.d .non) (.d .non) = some true := rfl
@[simp] theorem notN_n : cmpV .notN (.d .non) (.d .non) = some false := rfl
@[simp] theorem isN_t {xs : List D} : cmpV .isN (.d (.tup xs)) (.d .non) = some false := rfl
@[simp] theorem notN_t {xs : List D} : cmpV .notN (.d (.tup xs)) (.d .non) = some true := rfl
@[simp] theorem isN_l {xs : List D} : cmpV .isN (.d (.lst xs)) (.d .non) = some false := rfl
@[simp] theorem notN_l {xs : List D} : cmpV .notN (.d (.lst xs)) (.d .non) = some true := rfl
@[simp] theorem isN_i {i : Int} : cmpV .isN (.d (.int i)) (.d .non) = some false := rfl
@[simp] theorem isN_T (p : Cq) : cmpV .isN (.d (T p)) (.d .non) = some false := rfl
@[simp] theorem isN_N (p : Cq) : cmpV .isN (.d (Nm p)) (.d .non) = some false := rfl
@[simp] theorem notN_T (p : Cq) : cmpV .notN (.d (T p)) (.d .non) = some true := rfl
@[simp] theorem notN_N (p : Cq) : cmpV .notN (.d (Nm p)) (.d .non) = some true := rfl
@[simp] theorem evF_rep {G : Gam} {f : Fx} {b : Xp} {L : Loc} {S : Store} : evF G (.rep f b) L S = bnd (evF G f L S) fun l S1 => bnd (evX G b L S1) fun y S2 => lft (match y with
      | .d (.int k) => if 0 ≤ k ∧ k < 2 ^ 63 ∧ l.length * k.toNat ≤ line then some (List.replicate k.toNat l).flatten else none
      | _ => none) S2 := rfl
theorem rep2 (d : D) : (List.replicate (2 : Int).toNat [d]).flatten = [d, d] := rfl
end PD

set_option Elab.async false
set_option linter.all false
set_option autoImplicit false
set_option maxRecDepth 100000
set_option maxHeartbeats 2000000
namespace PD
open PySem PySem.Spec PyProof.Rows L2
section
variable {i : Int} {b : Bool} {xs : List D} {z : Str}
@[simp] theorem isi1 : isiV (.d (.int i)) "int" = some true := rfl
@[simp] theorem isi2 : isiV (.d (.int i)) "bool" = some false := rfl
@[simp] theorem isi3 : isiV (.d (.bl b)) "int" = some true := rfl
@[simp] theorem isi4 : isiV (.d (.bl b)) "bool" = some true := rfl
@[simp] theorem isi5 : isiV (.d (.tup xs)) "tuple" = some true := rfl
@[simp] theorem isi6 : isiV (.d (.int i)) "tuple" = some false := rfl
@[simp] theorem isi7 : isiV (.d (.lst xs)) "tuple" = some false := rfl
@[simp] theorem isi8 : isiV (.d .non) "tuple" = some false := rfl
@[simp] theorem isi9 : isiV (.d (.str z)) "tuple" = some false := rfl
@[simp] theorem isi10 : isiV (.d (.tup xs)) "int" = some false := rfl
@[simp] theorem isi11 : isiV (.d (.bl b)) "tuple" = some false := rfl
end
theorem mulN_1 (p q : Cq) : Rat.divInt (p.1.num * q.1.num * p.2.den * q.2.den - p.2.num * q.2.num * p.1.den * q.1.den) (p.1.den * p.2.den * q.1.den * q.2.den) = (mulN p q).1 := by
  refine divInt_eq (Int.mul_ne_zero (Int.mul_ne_zero (Int.mul_ne_zero (den_ne _) (den_ne _)) (den_ne _)) (den_ne _)) ?_
  simp only [Rat.intCast_mul, Rat.intCast_sub, nd p.1, nd p.2, nd q.1, nd q.2, mulN]
  grind
theorem mulN_2 (p q : Cq) : Rat.divInt (p.1.num * q.2.num * p.2.den * q.1.den + p.2.num * q.1.num * p.1.den * q.2.den) (p.1.den * p.2.den * q.1.den * q.2.den) = (mulN p q).2 := by
  refine divInt_eq (Int.mul_ne_zero (Int.mul_ne_zero (Int.mul_ne_zero (den_ne _) (den_ne _)) (den_ne _)) (den_ne _)) ?_
  simp only [Rat.intCast_mul, Rat.intCast_add, nd p.1, nd p.2, nd q.1, nd q.2, mulN]
  grind
theorem sizN_1 (p : Cq) : Rat.divInt (p.1.num * p.1.num * p.2.den * p.2.den + p.2.num * p.2.num * p.1.den * p.1.den) (p.1.den * p.1.den * p.2.den * p.2.den) = sizN p := by
  refine divInt_eq (Int.mul_ne_zero (Int.mul_ne_zero (Int.mul_ne_zero (den_ne _) (den_ne _)) (den_ne _)) (den_ne _)) ?_
  simp only [Rat.intCast_mul, Rat.intCast_add, nd p.1, nd p.2, sizN]
  grind
theorem ok2 {k : Nat} {a b : Int} (ha : sz k a) (hb : sz k b) (h : k ≤ 9000) : okMul a b = true := okMul_sz ha hb (by omega)
theorem ok3 {k : Nat} {a b c : Int} (ha : sz k a) (hb : sz k b) (hc : sz k c) (h : k ≤ 9000) : okMul (a * b) c = true := okMul_sz (ha.mul hb) hc (by omega)
theorem ok4 {k : Nat} {a b c d : Int} (ha : sz k a) (hb : sz k b) (hc : sz k c) (hd : sz k d) (h : k ≤ 9000) : okMul (a * b * c) d = true := okMul_sz ((ha.mul hb).mul hc) hd (by omega)
theorem sz4 {k : Nat} {a b c d : Int} (ha : sz k a) (hb : sz k b) (hc : sz k c) (hd : sz k d) : sz (4 * k) (a * b * c * d) := (((ha.mul hb).mul hc).mul hd).mono (by omega)
theorem one_sz : Sz 1 (1 : Rat) := ⟨by unfold sz; decide, by unfold sz; decide⟩
theorem F_one : F 1 = .tup [.int 1, .int 1] := rfl
theorem F_zero : F 0 = .tup [.int 0, .int 1] := rfl
theorem Nm_c0 : Nm c0 = .tup [.tup [.int 0, .int 1], .tup [.int 0, .int 1]] := rfl
theorem Nm_c1 : Nm c1 = .tup [.tup [.int 1, .int 1], .tup [.int 0, .int 1]] := rfl
theorem Sz.neg {k : Nat} {r : Rat} (h : Sz k r) : Sz k (-r) := ⟨by rw [Rat.neg_num]; exact h.n.neg, by rw [Rat.neg_den]; exact h.d⟩
theorem Sz.mul {k l : Nat} {x y : Rat} (h : Sz k x) (h' : Sz l y) : Sz (k + l) (x * y) := by
  rw [← mul_eq]
  exact Sz.div (h.n.mul h'.n) (h.d.mul h'.d) (Int.mul_ne_zero (den_ne _) (den_ne _))
theorem Sz.add {k l : Nat} {x y : Rat} (h : Sz k x) (h' : Sz l y) : Sz (k + l + 1) (x + y) := by
  rw [← add_eq]
  refine Sz.div ((h.n.mul h'.d).add ((h'.n.mul h.d).mono (by omega))) ((h.d.mul h'.d).mono (by omega)) (Int.mul_ne_zero (den_ne _) (den_ne _))
theorem Sz.sub {k l : Nat} {x y : Rat} (h : Sz k x) (h' : Sz l y) : Sz (k + l + 1) (x - y) := by
  rw [← sub_eq]
  refine Sz.div ((h.n.mul h'.d).sub ((h'.n.mul h.d).mono (by omega))) ((h.d.mul h'.d).mono (by omega)) (Int.mul_ne_zero (den_ne _) (den_ne _))
theorem Sz.over {k l : Nat} {x y : Rat} (h : Sz k x) (h' : Sz l y) (h0 : y ≠ 0) : Sz (k + l) (x / y) := by
  rw [← over_eq x y h0]
  exact Sz.div (h.n.mul h'.d) (h.d.mul h'.n) (Int.mul_ne_zero (den_ne _) (num_ne h0))
/-- fractions are alike exactly if the numbers are -/
theorem F_inj {x y : Rat} : (x.num = y.num ∧ (x.den : Int) = y.den) ↔ x = y := by
  constructor
  · rintro ⟨h1, h2⟩
    exact Rat.ext h1 (by omega)
  · rintro rfl
    exact ⟨rfl, rfl⟩
theorem eqOk_F {x : Rat} : eqOk (F x) = true := rfl
theorem eqOk_Nm {q : Cq} : eqOk (Nm q) = true := rfl
theorem eqOk_T {q : Cq} : eqOk (T q) = true := rfl
theorem eqD_F {x y : Rat} : eqD (F x) (F y) = decide (x = y) := by
  have e : eqD (F x) (F y) = (x.num == y.num && ((x.den : Int) == y.den && true)) := by simp [eqD, F, D.py, D.pys, PySem.PyData.eqv, PySem.PyData.eqvAll]
  rw [e]
  by_cases h : x = y
  · subst h; simp
  · rw [decide_eq_false h]
    cases q : (x.num == y.num && ((x.den : Int) == y.den && true)) with
    | false => rfl
    | true =>
      exfalso
      simp only [Bool.and_true, Bool.and_eq_true, beq_iff_eq] at q
      exact h (F_inj.mp q)
theorem eqD_Nm {p q : Cq} : eqD (Nm p) (Nm q) = decide (p = q) := by
  have e : eqD (Nm p) (Nm q) = (eqD (F p.1) (F q.1) && (eqD (F p.2) (F q.2) && true)) := by simp [eqD, Nm, F, D.py, D.pys, PySem.PyData.eqv, PySem.PyData.eqvAll]
  rw [e, eqD_F, eqD_F, Bool.and_true]
  by_cases h : p = q
  · subst h; simp
  · rw [decide_eq_false h]
    cases z : (decide (p.1 = q.1) && decide (p.2 = q.2)) with
    | false => rfl
    | true =>
      simp only [Bool.and_eq_true, decide_eq_true_eq] at z
      exact absurd (Prod.ext z.1 z.2) h
theorem eqD_T {p q : Cq} : eqD (T p) (T q) = decide (p = q) := by
  have e : eqD (T p) (T q) = ((t3 p).1 == (t3 q).1 && ((t3 p).2.1 == (t3 q).2.1 && ((t3 p).2.2 == (t3 q).2.2 && true))) := by simp [eqD, T, D.py, D.pys, PySem.PyData.eqv, PySem.PyData.eqvAll]
  rw [e]
  by_cases h : p = q
  · subst h; simp
  · rw [decide_eq_false h]
    cases z : ((t3 p).1 == (t3 q).1 && ((t3 p).2.1 == (t3 q).2.1 && ((t3 p).2.2 == (t3 q).2.2 && true))) with
    | false => rfl
    | true =>
      simp only [Bool.and_true, Bool.and_eq_true, beq_iff_eq] at z
      exact absurd (t3_inj (Prod.ext z.1 (Prod.ext z.2.1 z.2.2))) h
theorem cmp_F {x y : Rat} : cmpV .eq (.d (F x)) (.d (F y)) = some (decide (x = y)) := by
  show (if (eqOk (F x) && eqOk (F y)) = true then some (eqD (F x) (F y)) else none) = _
  rw [eqOk_F, eqOk_F, eqD_F]; rfl
theorem cmpn_F {x y : Rat} : cmpV .ne (.d (F x)) (.d (F y)) = some (!decide (x = y)) := by
  show (if (eqOk (F x) && eqOk (F y)) = true then some (!eqD (F x) (F y)) else none) = _
  rw [eqOk_F, eqOk_F, eqD_F]; rfl
theorem cmp_Nm {x y : Cq} : cmpV .eq (.d (Nm x)) (.d (Nm y)) = some (decide (x = y)) := by
  show (if (eqOk (Nm x) && eqOk (Nm y)) = true then some (eqD (Nm x) (Nm y)) else none) = _
  rw [eqOk_Nm, eqOk_Nm, eqD_Nm]; rfl
theorem cmpn_Nm {x y : Cq} : cmpV .ne (.d (Nm x)) (.d (Nm y)) = some (!decide (x = y)) := by
  show (if (eqOk (Nm x) && eqOk (Nm y)) = true then some (!eqD (Nm x) (Nm y)) else none) = _
  rw [eqOk_Nm, eqOk_Nm, eqD_Nm]; rfl
theorem cmp_Tr {x y : Cq} : cmpV .eq (.d (T x)) (.d (T y)) = some (decide (x = y)) := by
  show (if (eqOk (T x) && eqOk (T y)) = true then some (eqD (T x) (T y)) else none) = _
  rw [eqOk_T, eqOk_T, eqD_T]; rfl
theorem cmpn_Tr {x y : Cq} : cmpV .ne (.d (T x)) (.d (T y)) = some (!decide (x = y)) := by
  show (if (eqOk (T x) && eqOk (T y)) = true then some (!eqD (T x) (T y)) else none) = _
  rw [eqOk_T, eqOk_T, eqD_T]; rfl
theorem cmp_Nm0 {x : Cq} : cmpV .eq (.d (Nm x)) (.d (.tup [.tup [.int 0, .int 1], .tup [.int 0, .int 1]])) = some (decide (x = 0)) := cmp_Nm (y := c0)
theorem cmp_Nm1 {x : Cq} : cmpV .eq (.d (Nm x)) (.d (.tup [.tup [.int 1, .int 1], .tup [.int 0, .int 1]])) = some (decide (x = 1)) := cmp_Nm (y := c1)
theorem cmp_F1 {x : Rat} : cmpV .eq (.d (F x)) (.d (.tup [.int 1, .int 1])) = some (decide (x = 1)) := cmp_F (y := 1)
theorem sgn_sub (x y : Rat) : (y.num * x.den < x.num * y.den ↔ y < x) ∧ (x.num * y.den - y.num * x.den < 0 ↔ x < y) := by
  constructor
  · rw [Rat.lt_iff]
  · rw [Rat.lt_iff]; omega
theorem num_pos {x : Rat} (h : 0 < x) : 0 < x.num := by
  have := (Rat.lt_iff 0 x).mp h
  simpa using this
end PD
namespace W
open PySem PySem.Spec PyProof.Rows L2 PD
section
variable {S : Store} {k l : Nat} {p q : Cq} {x y : Rat} {i j : Int} {b : Bool} {xs : List D} {z : Str}
theorem r_red {n m : Int} {k : Nat} {S : Store} (h : m ≠ 0) (hm : sz k m) (hk : k < 9000) : runF G_frac_reduced 3 b_frac_reduced [.int n, .int m] S = some (F (Rat.divInt n m), S) := by
  obtain ⟨g1, g2⟩ := gcd_sz (n := n) h
  have ok : okDiv (if 0 < m then ((Nat.gcd n.natAbs m.natAbs : Nat) : Int) else -((Nat.gcd n.natAbs m.natAbs : Nat) : Int)) = true := by
    refine okDiv_sz (k := k) ?_ ?_ hk
    · refine hm.le ?_
      split <;> omega
    · split <;> omega
  rw [runF_eq]
  by_cases hp : 0 < m
  · have e := red_F (n := n) h
    simp only [hp, if_true] at e ok
    simp [b_frac_reduced, G_frac_reduced, hp, ok]
    exact e
  · have e := red_F (n := n) h
    simp only [hp, if_false] at e ok
    simp [b_frac_reduced, G_frac_reduced, hp, ok]
    exact e
theorem r_frac_less (hx : Sz k x) (hy : Sz l y) (h : k + l < 9000) : runF G_frac_less 2 b_frac_less [F x, F y] S = some (F (x - y), S) := by
  rw [runF_eq]
  have o1 := okMul_sz hx.n hy.d (by omega)
  have o2 := okMul_sz hy.n hx.d (by omega)
  have o3 := okMul_sz hx.d hy.d (by omega)
  have e := r_red (n := x.num * y.den - y.num * x.den) (S := S) (Int.mul_ne_zero (den_ne x) (den_ne y)) (hx.d.mul hy.d) h
  rw [sub_eq] at e
  simp only [F] at e ⊢
  simp [b_frac_less, G_frac_less, o1, o2, o3, e_frac_reduced_2, pick, e]
theorem r_frac_product (hx : Sz k x) (hy : Sz l y) (h : k + l < 9000) : runF G_frac_product 2 b_frac_product [F x, F y] S = some (F (x * y), S) := by
  rw [runF_eq]
  have o1 := okMul_sz hx.n hy.n (by omega)
  have o3 := okMul_sz hx.d hy.d (by omega)
  have e := r_red (n := x.num * y.num) (S := S) (Int.mul_ne_zero (den_ne x) (den_ne y)) (hx.d.mul hy.d) h
  rw [mul_eq] at e
  simp only [F] at e ⊢
  simp [b_frac_product, G_frac_product, o1, o3, e_frac_reduced_2, pick, e]
theorem r_frac_over (hx : Sz k x) (hy : Sz l y) (hy0 : y ≠ 0) (h : k + l < 9000) : runF G_frac_over 2 b_frac_over [F x, F y] S = some (F (x / y), S) := by
  rw [runF_eq]
  have o1 := okMul_sz hx.n hy.d (by omega)
  have o3 := okMul_sz hx.d hy.n (by omega)
  have e := r_red (n := x.num * y.den) (S := S) (Int.mul_ne_zero (den_ne x) (num_ne hy0)) (hx.d.mul hy.n) h
  rw [over_eq x y hy0] at e
  simp only [F] at e ⊢
  simp [b_frac_over, G_frac_over, o1, o3, e_frac_reduced_2, pick, e]
theorem r_is_whole_i : runF G_is_whole 1 b_is_whole [.int i] S = some (.bl true, S) := by
  rw [runF_eq]; simp [b_is_whole, G_is_whole]
theorem r_is_frac_ij : runF G_is_frac 1 b_is_frac [.tup [.int i, .int j]] S = some (.bl (decide (0 < j) && decide (Nat.gcd i.natAbs j.natAbs = 1)), S) := by
  rw [runF_eq]
  simp [b_is_frac, G_is_frac, e_is_whole_1, pick, r_is_whole_i]
  by_cases h : 0 < j
  · simp [h]
    omega
  · simp [h]
theorem r_is_frac_F : runF G_is_frac 1 b_is_frac [F x] S = some (.bl true, S) := by
  have h := x.reduced
  have e : F x = .tup [.int x.num, .int x.den] := rfl
  rw [e, r_is_frac_ij, decide_eq_true (den_pos x)]
  have h2 : Nat.gcd x.num.natAbs (x.den : Int).natAbs = 1 := by rw [Int.natAbs_natCast]; exact h
  rw [decide_eq_true h2]
  rfl
theorem r_is_num_N : runF G_is_num 1 b_is_num [Nm p] S = some (.bl true, S) := by
  rw [runF_eq]
  simp [b_is_num, G_is_num, e_is_frac_1, pick, Nm, r_is_frac_F]
theorem r_num_less (hp : hb k p) (hq : hb l q) (h : k + l < 9000) : runF G_num_less 2 b_num_less [Nm p, Nm q] S = some (Nm (p - q), S) := by
  show _ = some (Nm (subN p q), S)
  rw [runF_eq]
  simp [b_num_less, G_num_less, Nm, e_frac_less_2, pick, r_frac_less hp.szn.1 hq.szn.1 h, r_frac_less hp.szn.2 hq.szn.2 h, subN]
theorem r_num_mirrored : runF G_num_mirrored 1 b_num_mirrored [Nm p] S = some (Nm (conN p), S) := by
  rw [runF_eq]
  simp [b_num_mirrored, G_num_mirrored, Nm, F, conN, Rat.neg_num, Rat.neg_den]
theorem r_num_product (hp' : hb k p) (hq' : hb l q) (h : k + l < 4500) : runF G_num_product 11 b_num_product [Nm p, Nm q] S = some (Nm (p * q), S) := by
  show _ = some (Nm (mulN p q), S)
  obtain ⟨⟨a, b⟩, c, d⟩ := hp'.szn.mono (show k ≤ k + l by omega)
  obtain ⟨⟨e, f⟩, g, h'⟩ := hq'.szn.mono (show l ≤ k + l by omega)
  have hk : k + l ≤ 9000 := by omega
  have nz : ((p.1.den : Int) * p.2.den * q.1.den * q.2.den) ≠ 0 := Int.mul_ne_zero (Int.mul_ne_zero (Int.mul_ne_zero (den_ne _) (den_ne _)) (den_ne _)) (den_ne _)
  have hu : sz (k + k + l + l) ((p.1.den : Int) * p.2.den * q.1.den * q.2.den) := ((hp'.szn.1.2.mul hp'.szn.2.2).mul hq'.szn.1.2).mul hq'.szn.2.2
  have e1 := r_red (n := p.1.num * q.1.num * p.2.den * q.2.den - p.2.num * q.2.num * p.1.den * q.1.den) (S := S) nz hu (by omega)
  have e2 := r_red (n := p.1.num * q.2.num * p.2.den * q.1.den + p.2.num * q.1.num * p.1.den * q.2.den) (S := S) nz hu (by omega)
  rw [mulN_1] at e1
  rw [mulN_2] at e2
  rw [runF_eq]
  simp [b_num_product, G_num_product, Nm, F, e_frac_reduced_2, pick, ok2 b d hk, ok3 b d f hk, ok4 b d f h' hk, ok2 a e hk, ok3 a e d hk, ok4 a e d h' hk, ok2 c g hk, ok3 c g b hk, ok4 c g b f hk,
    ok2 a g hk, ok3 a g d hk, ok4 a g d f hk, ok2 c e hk, ok3 c e b hk, ok4 c e b h' hk]
  simp only [F] at e1 e2
  simp [e1, e2]
theorem r_num_size (hp' : hb k p) (h : k < 2200) : runF G_num_size 5 b_num_size [Nm p] S = some (F (sizN p), S) := by
  obtain ⟨⟨a, b⟩, c, d⟩ := hp'.szn
  have hk : k ≤ 9000 := by omega
  have nz : ((p.1.den : Int) * p.1.den * p.2.den * p.2.den) ≠ 0 := Int.mul_ne_zero (Int.mul_ne_zero (Int.mul_ne_zero (den_ne _) (den_ne _)) (den_ne _)) (den_ne _)
  have e1 := r_red (n := p.1.num * p.1.num * p.2.den * p.2.den + p.2.num * p.2.num * p.1.den * p.1.den) (S := S) nz (sz4 b b d d) (by omega)
  rw [sizN_1] at e1
  rw [runF_eq]
  simp [b_num_size, G_num_size, Nm, F, e_frac_reduced_2, pick, ok2 b b hk, ok3 b b d hk, ok4 b b d d hk, ok2 a a hk, ok3 a a d hk, ok4 a a d d hk, ok2 c c hk, ok3 c c b hk, ok4 c c b b hk]
  simp only [F] at e1
  simp [e1]
theorem r_num_scaled (hp : hb k p) (hx : Sz l x) (h : k + l < 9000) : runF G_num_scaled 2 b_num_scaled [Nm p, F x] S = some (Nm (p * re x), S) := by
  rw [← scl_eq]
  rw [runF_eq]
  simp [b_num_scaled, G_num_scaled, Nm, e_frac_product_2, pick, r_frac_product hp.szn.1 hx h, r_frac_product hp.szn.2 hx h, sclN]
theorem r_num_over (hp : hb k p) (hq : hb l q) (hq0 : q ≠ 0) (h : k + 3 * l < 4500) : runF G_num_over 2 b_num_over [Nm p, Nm q] S = some (Nm (p / q), S) := by
  have h1 := r_num_product (S := S) hp hq.con (by omega)
  have h2 := r_num_size (S := S) hq (by omega)
  have sq := hq.siz
  have h3 := r_frac_over (S := S) one_sz sq (sizN_ne hq0) (by omega)
  have h4 := r_num_scaled (S := S) (show hb _ (p * conN q) from hp.mul hq.con) (one_sz.over sq (sizN_ne hq0)) (by omega)
  have e : p * conN q * re (1 / sizN q) = p / q := by rw [← scl_eq, ← ovr_eq]; rfl
  rw [e] at h4
  rw [F_one] at h3
  rw [runF_eq]
  simp [b_num_over, G_num_over, c_FRAC_ONE, e_num_scaled_2, e_num_product_2, e_num_mirrored_1, e_frac_over_2, e_num_size_1, pick, r_num_mirrored, h1, h2, h3, h4]
end
end W

set_option Elab.async false
set_option linter.all false
set_option autoImplicit false
set_option maxRecDepth 100000
set_option maxHeartbeats 2000000
namespace PD
open PySem PySem.Spec PyProof.Rows L2
/-- the pot of draws stands in cell n, N draws at most were made -/
def Pl (N : Nat) (S : Store) (n : Nat) : Prop := ∃ a b c : Int, S[n]? = some [.int a, .int b, .int c] ∧ 0 ≤ a ∧ 0 ≤ b ∧ b < 2147483629 ∧ 0 ≤ c ∧ c ≤ N
theorem Pl.mono {N M : Nat} {S : Store} {n : Nat} (h : Pl N S n) (le : N ≤ M) : Pl M S n := by
  obtain ⟨a, b, c, h1, h2, h3, h4, h5, h6⟩ := h
  exact ⟨a, b, c, h1, h2, h3, h4, h5, by omega⟩
theorem fm_nn (a : Int) {b : Int} (h : 0 < b) : 0 ≤ a.fmod b := by
  rw [Int.fmod_eq_emod_of_nonneg _ (by omega)]
  exact Int.emod_nonneg _ (by omega)
theorem fm_lt (a : Int) {b : Int} (h : 0 < b) : a.fmod b < b := by
  rw [Int.fmod_eq_emod_of_nonneg _ (by omega)]
  exact Int.emod_lt_of_pos _ h
theorem sz_of {k : Nat} {i : Int} (h1 : -(2 ^ k : Nat) < i) (h2 : i < (2 ^ k : Nat)) : sz k i := by
  unfold sz
  omega
@[simp] theorem ixN30 : ixN 3 0 = some 0 := rfl
@[simp] theorem ixN31 : ixN 3 1 = some 1 := rfl
@[simp] theorem ixN32 : ixN 3 2 = some 2 := rfl
theorem atI_mem {α : Type} {xs : List α} {i : Int} (h0 : 0 ≤ i) (h : i < xs.length) : ∃ x ∈ xs, atI xs i = some x := by
  unfold atI ixN
  have hi : i.toNat < xs.length := by omega
  refine ⟨xs[i.toNat], List.getElem_mem _, ?_⟩
  simp [h0, h, hi]
@[simp] theorem biV_reprL {xs : List D} : biV .repr [.d (.lst xs)] = if shOk (.lst xs) then some (.str (D.lst xs).py.shown) else none := rfl
@[simp] theorem biV_reprT {xs : List D} : biV .repr [.d (.tup xs)] = if shOk (.tup xs) then some (.str (D.tup xs).py.shown) else none := rfl
theorem forL_nil {step : D → Loc → Store → Option ((Fl × Loc) × Store)} {L : Loc} {S : Store} : forL step [] L S = some ((.nx, L), S) := rfl
theorem forL_cons {step : D → Loc → Store → Option ((Fl × Loc) × Store)} {d : D} {ds : List D} {L : Loc} {S : Store} : forL step (d :: ds) L S = bnd (step d L S) fun r S1 => match r.1 with
    | .nx => forL step ds r.2 S1
    | .cnt => forL step ds r.2 S1
    | .brk => some ((.nx, r.2), S1)
    | .ret x => some ((.ret x, r.2), S1) := rfl
end PD
namespace W
open PySem PySem.Spec PyProof.Rows L2 PD
section
variable {S : Store} {k l N n : Nat} {p q : Cq} {x y : Rat}
def gcdW : Sm := .wh (.cmp .gt (.nm 1) (.lit (.int 0))) (.cons (.par [0, 1] (.cons (.nm 1) (.cons (.bin .mod (.bi .int1 (.cons (.nm 0) .nil)) (.nm 1)) .nil))) .nil)
theorem sizT (p : Cq) : q3 ((t3 p).1 * (t3 p).1 + (t3 p).2.1 * (t3 p).2.1) 0 ((t3 p).2.2 * (t3 p).2.2) = (sizN p, 0) := by
  have e := q3_siz (a := (t3 p).1) (b := (t3 p).2.1) (by have := t3_pos p; omega : (t3 p).2.2 ≠ 0)
  rw [t3_q3] at e
  unfold q3
  rw [e, Rat.zero_divInt]
end
end W

set_option Elab.async false
set_option linter.all false
set_option autoImplicit false
set_option maxRecDepth 100000
set_option maxHeartbeats 2000000
namespace PD
open PySem PySem.Spec PyProof.Rows L2
/-- the told form of a turn -/
def Tn (u c : Cq) : D := .tup [Nm u, Nm c]
def NmO : Option Cq → D
  | none => .non | some p => Nm p
def TOp : Option Cq → D
  | none => .non | some p => T p
theorem sz_real {k : Nat} {x : Rat} (h : Sz k x) : hb (k + 1) (re x) := hb_real h
theorem hb_inv {k : Nat} {x : Rat} (h : Sz k x) (h0 : x ≠ 0) : Sz (k + 1) (1 / x) := (one_sz.over h h0).mono (by omega)
theorem hb_low {k l : Nat} {c : Cq} {t : Rat} (hc : hb k c) (ht : Sz l t) (h0 : t ≠ 0) : hb (k + l + 3) (lowN c t) :=
  (hc.con.mul (sz_real (hb_inv ht h0))).mono (by omega)
theorem hb_1 : hb 1 (1 : Cq) := hb_c1
theorem hb_0 : hb 1 (0 : Cq) := hb_c0
theorem hb.mul' {k l : Nat} {p q : Cq} (h : hb k p) (h' : hb l q) : hb (k + l + 1) (p * q) := h.mul h'
theorem hb.add' {k l : Nat} {p q : Cq} (h : hb k p) (h' : hb l q) : hb (k + l + 1) (p + q) := h.add h'
theorem hb.sub' {k l : Nat} {p q : Cq} (h : hb k p) (h' : hb l q) : hb (k + l + 1) (p - q) := h.sub h'
theorem hb.neg' {k : Nat} {p : Cq} (h : hb k p) : hb k (-p) := h.neg
theorem hb.div' {k l : Nat} {p q : Cq} (h : hb k p) (h' : hb l q) (h0 : q ≠ 0) : hb (k + 2 * l + 1) (p / q) := by
  rw [← ovr_eq]; exact h.ovr h' h0
end PD
namespace W
open PySem PySem.Spec PyProof.Rows L2 PD
section
variable {S : Store} {k l m N n : Nat} {p q u c v d z : Cq} {x y t : Rat}
theorem hb_led (hu : hb m u) (hc : hb k c) (ht : Sz l t) (hz : hb n z) (h0 : t ≠ 0) {w : Cq} (h : ledN u c t z = some w) : hb (m + 3 * n + 3 * k + 2 * l + 15) w := by
  unfold ledN at h
  split at h
  · cases h
  · rename_i e
    cases h
    exact ((hu.mul' (hz.sub' hc)).div' (hb_1.sub' ((hb_low hc ht h0).mul' hz)) e).mono (by omega)
theorem hb_along (hu : hb m u) (hc : hb k c) (hd : hb n d) (ht : Sz l t) (h0 : t ≠ 0) : hb (m + n + k + l + 5) (alongN u c d t) :=
  (hu.add' (hd.mul' (hb_low hc ht h0))).mono (by omega)
theorem hb_rnd (hu : hb m u) (hc : hb k c) (hd : hb n d) (hv : hb N v) (ht : Sz l t) (h0 : t ≠ 0) (ha : alongN u c d t ≠ 0) (hu0 : u ≠ 0) : hb (5 * m + N + 3 * (n + k + l) + 20) (rndN u c v d t) := by
  have a := hb_along hu hc hd ht h0
  refine ((hv.mul' a).div' (hu.mul' a.con) ?_).mono (by omega)
  have : conN (alongN u c d t) ≠ 0 := fun z => ha (con_z z)
  grind
theorem hb_ctr (hu : hb m u) (hc : hb k c) (hd : hb n d) (ht : Sz l t) (h0 : t ≠ 0) (ha : alongN u c d t ≠ 0) : hb (3 * m + 3 * n + 3 * k + 2 * l + 14) (ctrN u c d t) :=
  (((hu.mul' hc).add' hd).div' (hb_along hu hc hd ht h0) ha).mono (by omega)
/-! the law's own -/
theorem cmpn_nil : cmpV .ne (.d (.lst [])) (.d (.lst [])) = some false := rfl
theorem t3_re (r : Rat) : t3 (re r) = (r.num, 0, (r.den : Int)) := by
  have e : (re r : Cq) = q3 r.num 0 r.den := by unfold q3 re; rw [Rat.num_divInt_den, Rat.zero_divInt]
  have g : Nat.gcd (Nat.gcd r.num.natAbs (0 : Int).natAbs) (r.den : Int).natAbs = 1 := by
    rw [show (0 : Int).natAbs = 0 from rfl, Nat.gcd_zero_right, Int.natAbs_natCast]
    exact r.reduced
  rw [e, t3_of (den_pos r) g]
theorem num_neg' {r : Rat} : r.num < 0 ↔ r < 0 := by
  rw [Rat.lt_iff]
  simp
theorem cmp_nil : cmpV .eq (.d (.lst [])) (.d (.lst [])) = some true := rfl
end
end W

set_option Elab.async false
set_option linter.all false
set_option autoImplicit false
set_option maxRecDepth 100000
set_option maxHeartbeats 2000000
namespace PD
open PySem PySem.Spec PyProof.Rows L2
theorem oks {i j : Int} (h : i.natAbs < 2 ^ 40) (h' : j.natAbs < 2 ^ 40) : okMul i j = true := okMul_sz (k := 40) (l := 40) h h' (by decide)
theorem okd {j : Int} (h : j.natAbs < 2 ^ 40) (h0 : j ≠ 0) : okDiv j = true := okDiv_sz (k := 40) h h0 (by decide)
theorem sq_le {a c : Int} (h : a.natAbs ≤ c.natAbs) : a * a ≤ c * c := by
  have e : ∀ z : Int, z * z = ((z.natAbs * z.natAbs : Nat) : Int) := fun z => by rw [← Int.natAbs_mul_self (a := z)]
  rw [e, e c]
  exact_mod_cast Nat.mul_le_mul h h
theorem sq_nn' (a : Int) : 0 ≤ a * a := by
  rcases Int.le_total 0 a with z | z
  · exact Int.mul_nonneg z z
  · exact Int.mul_nonneg_of_nonpos_of_nonpos z z
theorem divInt_lt {a b c d : Int} (hb : 0 < b) (hd : 0 < d) (h : a * d < c * b) : Rat.divInt a b < Rat.divInt c d := by
  have e1 := di (a := a) (d := b) (by omega)
  have e2 := di (a := c) (d := d) (by omega)
  have h' : (a : Rat) * (d : Rat) < (c : Rat) * (b : Rat) := by exact_mod_cast h
  rw [e1, e2] at h'
  have hp : (0 : Rat) < (b : Rat) * (d : Rat) := Rat.mul_pos (by exact_mod_cast hb) (by exact_mod_cast hd)
  generalize Rat.divInt a b = X at *
  generalize Rat.divInt c d = Y at *
  refine Rat.lt_of_mul_lt_mul_right (c := (b : Rat) * d) ?_ (by grind)
  grind
theorem divInt_le {a b c d : Int} (hb : 0 < b) (hd : 0 < d) (h : a * d ≤ c * b) : Rat.divInt a b ≤ Rat.divInt c d := by
  have e1 := di (a := a) (d := b) (by omega)
  have e2 := di (a := c) (d := d) (by omega)
  have h' : (a : Rat) * (d : Rat) ≤ (c : Rat) * (b : Rat) := by exact_mod_cast h
  rw [e1, e2] at h'
  have hp : (0 : Rat) < (b : Rat) * (d : Rat) := Rat.mul_pos (by exact_mod_cast hb) (by exact_mod_cast hd)
  generalize Rat.divInt a b = X at *
  generalize Rat.divInt c d = Y at *
  by_cases q : X ≤ Y
  · exact q
  · exfalso
    have := Rat.mul_lt_mul_of_pos_right (show Y < X by grind) hp
    grind
theorem unit_q3 {m n : Int} (hm : m ≠ 0) : sizN (q3 (m * m - n * n) (2 * m * n) (m * m + n * n)) = 1 := by
  have h := sq_pos (a := m) (b := n) (.inl hm)
  rw [← q3_siz (by omega)]
  refine divInt_eq (Int.mul_ne_zero (by omega) (by omega)) ?_
  rw [show (m * m - n * n) * (m * m - n * n) + 2 * m * n * (2 * m * n) = (m * m + n * n) * (m * m + n * n) by grind]
  grind
theorem q3_lt {a b d : Int} (hd : 0 < d) (h : a * a + b * b < d * d) : sizN (q3 a b d) < 1 := by
  rw [← q3_siz (by omega)]
  have hp : 0 < d * d := Int.mul_pos hd hd
  rw [show (1 : Rat) = Rat.divInt 1 1 by decide +kernel]
  exact divInt_lt hp (by decide) (by omega)
end PD
namespace W
open PySem PySem.Spec PyProof.Rows L2 PD
section
variable {S : Store} {k l m N n : Nat} {p q u c v d z : Cq} {x y t : Rat}
def rootW : Sm := .wh (.cmp .lt (.nm 2) (.nm 1)) (.cons (.par [1, 2] (.cons (.nm 2) (.cons (.bin .fdiv (.bin .add (.nm 2) (.bin .fdiv (.nm 0) (.nm 2))) (.lit (.int 2))) .nil))) .nil)
end
end W

set_option Elab.async false
set_option linter.all false
set_option autoImplicit false
set_option maxRecDepth 100000
set_option maxHeartbeats 2000000
namespace PD
open PySem PySem.Spec PyProof.Rows L2
theorem bits_log {z : Int} (h : Builtin.Int.intBits z ≤ 1048576) : z.natAbs.log2 ≤ 1048576 := by
  unfold Builtin.Int.intBits at h
  split at h
  · rename_i e
    rw [eq_of_beq e]
    decide
  · omega
theorem cut_ints (zs : List Int) (lo hi : Option Int) : PD.cutD (zs.map D.int) lo hi = ((zs.drop (HT.sIx zs.length 0 lo)).take (HT.sIx zs.length zs.length hi - HT.sIx zs.length 0 lo)).map D.int := by
  unfold cutD
  rw [List.length_map, List.map_take, List.map_drop]
theorem atI_ints {zs : List Int} {i : Int} (h0 : 0 ≤ i) (h : i < zs.length) : ∃ z ∈ zs, atI (zs.map D.int) i = some (.int z) := by
  obtain ⟨x, hx, e⟩ := atI_mem (xs := zs) h0 h
  refine ⟨x, hx, ?_⟩
  unfold atI at *
  rw [List.length_map]
  cases q : ixN zs.length i with
  | none => rw [q] at e; cases e
  | some j =>
    rw [q] at e
    have e : zs[j]? = some x := e
    show (zs.map D.int)[j]? = some (.int x)
    rw [List.getElem?_map, e]; rfl
end PD
namespace W
open PySem PySem.Spec PyProof.Rows L2 PD
section
variable {S : Store}
def potB : Sms := .cons (.asg (.nm 2) (.bin .mod (.bi .int1 (.cons (.bin .add (.bin .add (.bin .mul (.nm 2) (.lit (.int 69621))) (.bin .mul (.bi .int1 (.cons (.nm 4) .nil)) (.bin .add (.bin .mul (.lit (.int 2)) (.nm 3)) (.lit (.int 5))))) (.lit (.int 40487))) .nil)) (.lit (.int 2147483629)))) .nil
theorem pot_loop {G : Gam} {A B R : Lv} : ∀ (ds : List D) (j : Nat) (m : Int) (C E : Lv), 0 ≤ m → m < 2147483648 → j + ds.length ≤ 100 → (∀ d ∈ ds, ∃ z : Int, d = .int z ∧ z.natAbs.log2 ≤ 1048576) →
    ∃ m' C' E', forL (fun d L S => bnd (evG G (.tup (.cons (.nm 3) (.cons (.nm 4) .nil))) d L S) fun L2 S2 => evSs G potB L2 S2) (ds.mapIdx fun i d => D.tup [.int ((j + i : Nat) : Int), d]) [A, B, .dat (.int m), C, E, R] S =
      some ((.nx, [A, B, .dat (.int m'), C', E', R]), S) ∧ 0 ≤ m' ∧ m' < 2147483648
  | [], j, m, C, E, h0, h1, _, _ => ⟨m, C, E, rfl, h0, h1⟩
  | d :: ds, j, m, C, E, h0, h1, hj, hd => by
    obtain ⟨z, rfl, hz⟩ := hd d (by simp)
    have o1 : okMul m 69621 = true := okMul_sz (k := 32) (l := 20) (by unfold sz; omega) (by unfold sz; decide) (by decide)
    have lj : (2 * (j : Int) + 5).natAbs.log2 ≤ 10 := (show sz 10 (2 * (j : Int) + 5) by unfold sz; simp only [List.length_cons] at hj; omega).log
    have o2 : okMul z (2 * (j : Int) + 5) = true := by unfold okMul; exact decide_eq_true (by omega)
    have o3 : okMul 2 (j : Int) = true := okMul_sz (k := 2) (l := 10) (by unfold sz; decide) (by unfold sz; simp only [List.length_cons] at hj; omega) (by decide)
    obtain ⟨m1, hm1⟩ : ∃ m1, (m * 69621 + z * (2 * (j : Int) + 5) + 40487).fmod 2147483629 = m1 := ⟨_, rfl⟩
    have p0 : 0 ≤ m1 := by rw [← hm1]; exact fm_nn _ (by decide)
    have p1 : m1 < 2147483629 := by rw [← hm1]; exact fm_lt _ (by decide)
    obtain ⟨m', C', E', e, r⟩ := pot_loop (G := G) (A := A) (B := B) (R := R) ds (j + 1) m1 (.dat (.int j)) (.dat (.int z)) p0 (by omega) (by simp only [List.length_cons] at hj; omega) fun d h => hd d (by simp [h])
    refine ⟨m', C', E', ?_, r⟩
    rw [← e, List.mapIdx_cons]
    have f : (fun (i : Nat) (d : D) => D.tup [.int ((j + (i + 1) : Nat) : Int), d]) = fun (i : Nat) (d : D) => D.tup [.int ((j + 1 + i : Nat) : Int), d] := by
      funext i d
      rw [show j + (i + 1) = j + 1 + i by omega]
    rw [f, forL_cons]
    simp [potB, o1, o2, o3, hm1]
end
end W

set_option Elab.async false
set_option linter.all false
set_option autoImplicit false
set_option maxRecDepth 100000
set_option maxHeartbeats 2000000
namespace W
open PySem PySem.Spec PyProof.Rows L2 PD
section
variable {S : Store} {k l N n : Nat} {p q : Cq} {x y : Rat}
def gcdWb : Sm := .wh (.cmp .gt (.nm 1) (.lit (.int 0))) (.cons (.par [0, 1] (.cons (.nm 1) (.cons (.bin .mod (.bi .int1 (.cons (.nm 0) .nil)) (.nm 1)) .nil))) .nil)
theorem gcd_loopb (b : Nat) : ∀ (a : Nat), evS G_Lgcd gcdWb [.dat (.int a), .dat (.int b)] S = some ((.nx, [.dat (.int (Nat.gcd a b : Nat)), .dat (.int 0)]), S) := by
  induction b using Nat.strongRecOn with
  | _ b ih =>
    intro a
    by_cases h : b = 0
    · subst h
      unfold gcdWb
      rw [wh_stop (S1 := S) (by simp)]
      simp
    · have hb : (0 : Int) < b := by omega
      have hb1 : 0 < b := by omega
      have e : Int.fmod (a : Int) (b : Int) = ((a % b : Nat) : Int) := by rw [Int.fmod_eq_emod_of_nonneg _ (by omega)]; rfl
      have z := ih (a % b) (Nat.mod_lt _ (by omega)) b
      rw [show Nat.gcd b (a % b) = Nat.gcd a b by rw [Nat.gcd_comm a b, Nat.gcd_rec b a, Nat.gcd_comm]] at z
      rw [← z]
      unfold gcdWb
      refine wh_go (S1 := S) ?_ ?_
      · simp [hb1]
      · simp [h, e]
theorem r_Lgcd {a b : Int} : runF G_Lgcd 2 b_Lgcd [.int a, .int b] S = some (.int ((Nat.gcd a.natAbs b.natAbs : Nat) : Int), S) := by
  have ab : ∀ i : Int, (if i < 0 then -i else i) = (i.natAbs : Int) := fun i => by split <;> omega
  have z := gcd_loopb (S := S) b.natAbs a.natAbs
  rw [runF_eq]
  unfold gcdWb at z
  simp [b_Lgcd, ab, z]
theorem r_Lfraction {n m : Int} (h : m ≠ 0) (hm : sz k m) (hk : k < 9000) : runF G_Lfraction 3 b_Lfraction [.int n, .int m] S = some (F (Rat.divInt n m), S) := by
  obtain ⟨g1, g2⟩ := gcd_sz (n := n) h
  have ok : okDiv (if 0 < m then ((Nat.gcd n.natAbs m.natAbs : Nat) : Int) else -((Nat.gcd n.natAbs m.natAbs : Nat) : Int)) = true := by
    refine okDiv_sz (k := k) ?_ ?_ hk
    · refine hm.le ?_
      split <;> omega
    · split <;> omega
  have e := red_F (n := n) h
  rw [runF_eq]
  by_cases hp : m < 0
  · have hp2 : ¬ 0 < m := by omega
    simp only [hp2, if_false] at e ok
    simp [b_Lfraction, G_Lfraction, e_Lgcd_2, pick, r_Lgcd, hp, ok]
    exact e
  · have hp2 : 0 < m := by omega
    simp only [hp2, if_true] at e ok
    simp [b_Lfraction, G_Lfraction, e_Lgcd_2, pick, r_Lgcd, hp, ok]
    exact e
theorem r_Lcut {a b d : Int} (h : d ≠ 0) (hd : sz k d) (hk : k < 9000) : runF G_Lcut 4 b_Lcut [.int a, .int b, .int d] S = some (T (q3 a b d), S) := by
  have g0 : 0 < Nat.gcd (Nat.gcd a.natAbs b.natAbs) d.natAbs := Nat.gcd_pos_of_pos_right _ (by omega)
  have gl : Nat.gcd (Nat.gcd a.natAbs b.natAbs) d.natAbs ≤ d.natAbs := Nat.le_of_dvd (by omega) (Nat.gcd_dvd_right _ _)
  have f : ∀ z : Int, z.fdiv ((Nat.gcd (Nat.gcd a.natAbs b.natAbs) d.natAbs : Nat) : Int) = z / ((Nat.gcd (Nat.gcd a.natAbs b.natAbs) d.natAbs : Nat) : Int) := fun z => Int.fdiv_eq_ediv_of_nonneg _ (by omega)
  rw [runF_eq]
  by_cases hp : d < 0
  · have ok : okDiv (-((Nat.gcd (Nat.gcd a.natAbs b.natAbs) d.natAbs : Nat) : Int)) = true := okDiv_sz (k := k) (hd.le (by omega)) (by omega) hk
    have e : q3 a b d = q3 (-a) (-b) (-d) := by unfold q3; rw [Rat.neg_divInt_neg, Rat.neg_divInt_neg]
    have f2 : ∀ z : Int, z.fdiv (-((Nat.gcd (Nat.gcd a.natAbs b.natAbs) d.natAbs : Nat) : Int)) = -z / ((Nat.gcd (Nat.gcd a.natAbs b.natAbs) d.natAbs : Nat) : Int) := fun z => by
      rw [← f (-z), ← Int.neg_fdiv_neg, Int.neg_neg]
    rw [e, T_q3 (by omega)]
    simp [b_Lcut, G_Lcut, e_Lgcd_2, pick, r_Lgcd, hp, ok, f2, red3]
  · have ok : okDiv ((Nat.gcd (Nat.gcd a.natAbs b.natAbs) d.natAbs : Nat) : Int) = true := okDiv_sz (k := k) (hd.le (by omega)) (by omega) hk
    rw [T_q3 (by omega)]
    simp [b_Lcut, G_Lcut, e_Lgcd_2, pick, r_Lgcd, hp, ok, f, red3]
theorem r_Ltold (h : hb k p) (hk : k < 9000) : runF G_Ltold 1 b_Ltold [T p] S = some (Nm p, S) := by
  have p0 := t3_pos p
  have e1 := r_Lfraction (n := (t3 p).1) (S := S) (by omega : (t3 p).2.2 ≠ 0) h.2.2 hk
  have e2 := r_Lfraction (n := (t3 p).2.1) (S := S) (by omega : (t3 p).2.2 ≠ 0) h.2.2 hk
  have e := t3_q3 p
  rw [runF_eq]
  simp [b_Ltold, G_Ltold, e_Lfraction_2, pick, T, e1, e2, Nm]
  exact ⟨by rw [show p.1 = _ from (congrArg Prod.fst e).symm]; rfl, by rw [show p.2 = _ from (congrArg Prod.snd e).symm]; rfl⟩
theorem r_Ltimes (hp : hb k p) (hq : hb l q) (h : k + l < 9000) : runF G_Ltimes 2 b_Ltimes [T p, T q] S = some (T (p * q), S) := by
  show _ = some (T (mulN p q), S)
  have p0 := t3_pos p
  have q0 := t3_pos q
  have e := q3_mul (a := (t3 p).1) (b := (t3 p).2.1) (a' := (t3 q).1) (b' := (t3 q).2.1) (by omega : (t3 p).2.2 ≠ 0) (by omega : (t3 q).2.2 ≠ 0)
  rw [t3_q3, t3_q3] at e
  obtain ⟨x1, x2, x3⟩ := hp
  obtain ⟨y1, y2, y3⟩ := hq
  have c := r_Lcut (a := (t3 p).1 * (t3 q).1 - (t3 p).2.1 * (t3 q).2.1) (b := (t3 p).1 * (t3 q).2.1 + (t3 p).2.1 * (t3 q).1) (S := S) (Int.mul_ne_zero (by omega : (t3 p).2.2 ≠ 0) (by omega : (t3 q).2.2 ≠ 0)) (x3.mul y3) h
  rw [e] at c
  rw [runF_eq]
  have o : ∀ {i j : Int}, sz k i → sz l j → okMul i j = true := fun h1 h2 => okMul_sz h1 h2 (by omega)
  simp [b_Ltimes, G_Ltimes, e_Lcut_3, pick, o x1 y1, o x2 y2, o x1 y2, o x2 y1, o x3 y3, T] at c ⊢
  simp [c]
theorem r_Ladd (hp : hb k p) (hq : hb l q) (h : k + l < 9000) : runF G_Ladd 2 b_Ladd [T p, T q] S = some (T (p + q), S) := by
  show _ = some (T (addN p q), S)
  have p0 := t3_pos p
  have q0 := t3_pos q
  have e := q3_add (a := (t3 p).1) (b := (t3 p).2.1) (a' := (t3 q).1) (b' := (t3 q).2.1) (by omega : (t3 p).2.2 ≠ 0) (by omega : (t3 q).2.2 ≠ 0)
  rw [t3_q3, t3_q3] at e
  obtain ⟨x1, x2, x3⟩ := hp
  obtain ⟨y1, y2, y3⟩ := hq
  have c := r_Lcut (a := (t3 p).1 * (t3 q).2.2 + (t3 q).1 * (t3 p).2.2) (b := (t3 p).2.1 * (t3 q).2.2 + (t3 q).2.1 * (t3 p).2.2) (S := S) (Int.mul_ne_zero (by omega : (t3 p).2.2 ≠ 0) (by omega : (t3 q).2.2 ≠ 0)) (x3.mul y3) h
  rw [e] at c
  rw [runF_eq]
  have o : ∀ {i j : Int}, sz k i → sz l j → okMul i j = true := fun h1 h2 => okMul_sz h1 h2 (by omega)
  have o' : ∀ {i j : Int}, sz l i → sz k j → okMul i j = true := fun h1 h2 => okMul_sz h1 h2 (by omega)
  simp [b_Ladd, G_Ladd, e_Lcut_3, pick, o x1 y3, o' y1 x3, o x2 y3, o' y2 x3, o x3 y3, T] at c ⊢
  simp [c]
theorem r_Ldip {m : Int} (h : Pl N S n) (hN : N ≤ 1000000) (hm : 0 < m) (hm2 : m < 1073741824) : ∃ v S', runF G_Ldip 4 b_Ldip [.cell n, .int m] S = some (.int v, S') ∧ 0 ≤ v ∧ v < m ∧ Pl (N + 1) S' n := by
  obtain ⟨a, b, c, h1, h2, h3, h4, h5, h6⟩ := h
  have hn : n < S.length := (List.getElem?_eq_some_iff.mp h1).1
  by_cases ha : 0 < a
  · refine ⟨a % m, S.set n [.int (a / m), .int b, .int c], ?_, Int.emod_nonneg _ (by omega), Int.emod_lt_of_pos _ hm, a / m, b, c, List.getElem?_set_self hn, Int.ediv_nonneg h2 (by omega), h3, h4, h5, by omega⟩
    rw [runF_eq]
    simp [b_Ldip, G_Ldip, h1, ha, hm, hm2]
  · have s0 : sz 31 b := sz_of (by omega) (by omega)
    have s1 : sz 31 (48271 : Int) := sz_of (by decide) (by decide)
    have s2 : sz 31 (c + 1) := sz_of (by omega) (by omega)
    have s3 : sz 31 (69621 : Int) := sz_of (by decide) (by decide)
    have o1 := okMul_sz s0 s1 (by decide)
    have o2 := okMul_sz s2 s3 (by decide)
    obtain ⟨one, h1e⟩ : ∃ one, (b * 48271 + (c + 1) * 69621).fmod 2147483629 = one := ⟨_, rfl⟩
    have q0 : 0 ≤ one := by rw [← h1e]; exact fm_nn _ (by decide)
    have q1 : one < 2147483629 := by rw [← h1e]; exact fm_lt _ (by decide)
    have q2 : 0 ≤ one.fdiv 4099 := by rw [Int.fdiv_eq_ediv_of_nonneg _ (by decide)]; exact Int.ediv_nonneg q0 (by decide)
    have q3 : one.fdiv 4099 ≤ one := by rw [Int.fdiv_eq_ediv_of_nonneg _ (by decide)]; omega
    have s4 : sz 31 one := sz_of (by omega) (by omega)
    have s5 : sz 31 (3 : Int) := sz_of (by decide) (by decide)
    have s6 : sz 33 (one.fdiv 4099 + 3 * (c + 1)) := sz_of (by omega) (by omega)
    have o3 := okMul_sz s5 s2 (by decide)
    have o4 := okMul_sz s4 s6 (by decide)
    have o5 : okDiv 4099 = true := by decide
    have o6 : okDiv 257 = true := by decide
    obtain ⟨b', h2e⟩ : ∃ b', (one * (one.fdiv 4099 + 3 * (c + 1)) + 16807).fmod 2147483629 = b' := ⟨_, rfl⟩
    have k0 : 0 ≤ b' := by rw [← h2e]; exact fm_nn _ (by decide)
    have k1 : b' < 2147483629 := by rw [← h2e]; exact fm_lt _ (by decide)
    refine ⟨(b'.fdiv 257).fmod m, (S.set n [.int a, .int b, .int (c + 1)]).set n [.int a, .int b', .int (c + 1)], ?_, fm_nn _ hm, fm_lt _ hm, a, b', c + 1, List.getElem?_set_self (by simpa using hn), h2, k0, k1, by omega, by omega⟩
    have hm0 : m ≠ 0 := by omega
    rw [runF_eq]
    have g1 : ∀ xs, (S.set n xs)[n]? = some xs := fun xs => List.getElem?_set_self hn
    clear hn
    simp [b_Ldip, G_Ldip, h1, g1, ha, o1, o2, o3, o4, o5, o6, hm0, h1e, h2e]
def mixB : Sms := .cons (.asg (.nm 3) (.bin .mod (.bi .int1 (.cons (.bin .add (.bin .add (.bin .mul (.nm 3) (.lit (.int 69069))) (.bin .mul (.bin .mod (.bi .int1 (.cons (.nm 4) .nil)) (.lit (.int 998244353))) (.lit (.int 31)))) (.lit (.int 7))) .nil)) (.lit (.int 2147483629)))) .nil
theorem mix_step {G : Gam} {A B C E R : Lv} {m z : Int} (h0 : 0 ≤ m) (h1 : m < 2147483648) : ∃ m', (bnd (evG G (.nm 4) (.int z) [A, B, C, .dat (.int m), E, R] S) fun L2 S2 => evSs G mixB L2 S2) = some ((.nx, [A, B, C, .dat (.int m'), .dat (.int z), R]), S) ∧ 0 ≤ m' ∧ m' < 2147483648 := by
  have s1 : sz 32 m := sz_of (by omega) (by omega)
  have q0 := fm_nn z (show (0 : Int) < 998244353 by decide)
  have q1 := fm_lt z (show (0 : Int) < 998244353 by decide)
  have s2 : sz 32 (z.fmod 998244353) := sz_of (by omega) (by omega)
  have s3 : sz 32 (69069 : Int) := sz_of (by decide) (by decide)
  have s4 : sz 32 (31 : Int) := sz_of (by decide) (by decide)
  refine ⟨(m * 69069 + z.fmod 998244353 * 31 + 7).fmod 2147483629, ?_, fm_nn _ (by decide), by have := fm_lt (m * 69069 + z.fmod 998244353 * 31 + 7) (show (0 : Int) < 2147483629 by decide); omega⟩
  simp [mixB, okMul_sz s1 s3 (by decide), okMul_sz s2 s4 (by decide)]
theorem mix_loop {G : Gam} {A B C R : Lv} : ∀ (zs : List Int) (m : Int) (E : Lv), 0 ≤ m → m < 2147483648 → ∃ m' E', forL (fun d L S => bnd (evG G (.nm 4) d L S) fun L2 S2 => evSs G mixB L2 S2) (zs.map D.int) [A, B, C, .dat (.int m), E, R] S = some ((.nx, [A, B, C, .dat (.int m'), E', R]), S) ∧ 0 ≤ m' ∧ m' < 2147483648
  | [], m, E, h0, h1 => ⟨m, E, rfl, h0, h1⟩
  | z :: zs, m, E, h0, h1 => by
    obtain ⟨m1, e1, a0, a1⟩ := mix_step (S := S) (G := G) (A := A) (B := B) (C := C) (E := E) (R := R) (z := z) h0 h1
    obtain ⟨m2, E2, e2, b0, b1⟩ := mix_loop (G := G) (A := A) (B := B) (C := C) (R := R) zs m1 (.dat (.int z)) a0 a1
    refine ⟨m2, E2, ?_, b0, b1⟩
    rw [List.map_cons, forL_cons, e1, bnd_some]
    exact e2
theorem cut_ints (zs : List Int) (lo hi : Option Int) : PD.cutD (zs.map D.int) lo hi = ((zs.drop (HT.sIx zs.length 0 lo)).take (HT.sIx zs.length zs.length hi - HT.sIx zs.length 0 lo)).map D.int := by
  unfold PD.cutD
  rw [List.length_map, List.map_take, List.map_drop]
theorem atI_ints {zs : List Int} {i : Int} (h0 : 0 ≤ i) (h : i < zs.length) : ∃ z, atI (zs.map D.int) i = some (.int z) := by
  obtain ⟨x, hx, e⟩ := atI_mem (xs := zs.map D.int) h0 (by rw [List.length_map]; exact h)
  obtain ⟨z, _, rfl⟩ := List.mem_map.mp hx
  exact ⟨z, e⟩
theorem r_Lpail {zs : List Int} {t : Int} (h0 : 0 ≤ t) (h1 : t < 100) : ∃ S', runF G_Lpail 6 b_Lpail [.lst (zs.map D.int), .int t] S = some (.cell S.length, S') ∧ Pl 0 S' S.length := by
  have st : sz 32 t := sz_of (by omega) (by omega)
  have s1 : sz 32 (977 : Int) := sz_of (by decide) (by decide)
  have s2 : sz 32 (8009 : Int) := sz_of (by decide) (by decide)
  have o1 := okMul_sz s1 st (by decide)
  have o2 := okMul_sz s2 st (by decide)
  have o3 : okPow 10 15 = true := by decide
  -- the cell
  obtain ⟨c, hc⟩ : ∃ c : Int, evX G_Lpail (.ife (.cmp .lt (.nm 1) (.bi .len (.cons (.nm 0) .nil))) (.bi .int1 (.cons (.ix (.nm 0) (.nm 1)) .nil)) (.bin .add (.bin .mul (.lit (.int 977)) (.nm 1)) (.lit (.int 41)))) [.dat (.lst (zs.map D.int)), .dat (.int t), .un, .un, .un, .un] S = some (.d (.int c), S) := by
    by_cases h : t < zs.length
    · obtain ⟨z, e⟩ := atI_ints h0 h
      exact ⟨z, by simp [h, e]⟩
    · exact ⟨977 * t + 41, by simp [h, o1]⟩
  obtain ⟨m', E', e2, b0, b1⟩ := mix_loop (S := S) (G := G_Lpail) (A := .dat (.lst (zs.map D.int))) (B := .dat (.int t)) (C := .dat (.int c)) (R := .un) ((zs.drop (HT.sIx zs.length 0 none)).take (HT.sIx zs.length zs.length (some 9) - HT.sIx zs.length 0 none)) (51043 + 8009 * t) .un (by omega) (by omega)
  rw [← cut_ints] at e2
  have e3 : evS G_Lpail (.for_ (.nm 4) (.seq (.fr (.slc (.nm 0) .none (.some (.lit (.int 9)))))) mixB) [.dat (.lst (zs.map D.int)), .dat (.int t), .dat (.int c), .dat (.int (51043 + 8009 * t)), .un, .un] S = some ((.nx, [.dat (.lst (zs.map D.int)), .dat (.int t), .dat (.int c), .dat (.int m'), E', .un]), S) := by
    refine ev_for (S1 := S) rfl ?_ e2
    simp [slcL, asL, optI, evF_slc]
  unfold mixB at e3
  have q0 := fm_nn c (show (0 : Int) < 998244353 by decide)
  have q1 := fm_lt c (show (0 : Int) < 998244353 by decide)
  have s4 : sz 32 m' := sz_of (by omega) (by omega)
  have s5 : sz 32 (c.fmod 998244353) := sz_of (by omega) (by omega)
  have s6 : sz 32 (89 : Int) := sz_of (by decide) (by decide)
  have s7 : sz 32 (20011 : Int) := sz_of (by decide) (by decide)
  have o4 := okMul_sz s4 s6 (by decide)
  have o5 := okMul_sz s5 s7 (by decide)
  have fin : ∀ a : Int, 0 ≤ a → Pl 0 (S ++ [[D.int a, D.int ((m' * 89 + c.fmod 998244353 * 20011 + 5).fmod 2147483629), D.int 0]]) S.length := fun a ha =>
    ⟨a, (m' * 89 + c.fmod 998244353 * 20011 + 5).fmod 2147483629, 0, by simp, ha, fm_nn _ (by decide), fm_lt _ (by decide), by decide, by decide⟩
  have e4 : evS G_Lpail (.asg (.nm 2) (.ife (.cmp .lt (.nm 1) (.bi .len (.cons (.nm 0) .nil))) (.bi .int1 (.cons (.ix (.nm 0) (.nm 1)) .nil)) (.bin .add (.bin .mul (.lit (.int 977)) (.nm 1)) (.lit (.int 41))))) [.dat (.lst (zs.map D.int)), .dat (.int t), .un, .un, .un, .un] S = some ((.nx, [.dat (.lst (zs.map D.int)), .dat (.int t), .dat (.int c), .un, .un, .un]), S) := by
    rw [evS_asg, hc]
    simp
  rw [runF_eq]
  simp only [b_Lpail, evSs_cons, List.map_cons, List.map_nil, List.length_cons, List.length_nil, List.cons_append, List.nil_append, show (6 : Nat) - (0 + 1 + 1) = 4 from rfl, show List.replicate 4 Lv.un = [Lv.un, .un, .un, .un] from rfl]
  rw [e4]
  by_cases r : c < 0
  · refine ⟨_, ?_, fin (-c) (by omega)⟩
    simp [o2, e3, o3, o4, o5, r]
  · by_cases r2 : 1000000000000000 ≤ c
    · refine ⟨_, ?_, fin c (by omega)⟩
      simp [o2, e3, o3, o4, o5, r, r2]
    · refine ⟨_, ?_, fin 0 (by omega)⟩
      simp [o2, e3, o3, o4, o5, r, r2]

theorem r_Ldrawn {a b : Int} (h : Pl N S n) (hN : N ≤ 900000) (ha : 0 < a) (ha2 : a ≤ 30) (hb' : 0 < b) (hb2 : b ≤ 30) : ∃ p S', runF G_Ldrawn 5 b_Ldrawn [.cell n, .int a, .int b] S = some (T p, S') ∧ hb 5 p ∧ (a < 8 → b < 8 → hb 3 p) ∧ Pl (N + 4) S' n := by
  have om : okMul 2 a = true := oks (by decide) (by omega)
  obtain ⟨v, S1, e1, v0, v1, h1⟩ := r_Ldip (m := 2 * a + 1) h (by omega) (by omega) (by omega)
  obtain ⟨w, S2, e2, w0, w1, h2⟩ := r_Ldip (m := 2 * a + 1) h1 (by omega) (by omega) (by omega)
  obtain ⟨z, S3, e3, z0, z1, h3⟩ := r_Ldip (m := 3) h2 (by omega) (by decide) (by decide)
  obtain ⟨d, S4, e4, d0, d1, h4⟩ := r_Ldip (m := b) h3 (by omega) hb' (by omega)
  by_cases hz : z = 0
  · have ec := r_Lcut (a := v - a) (b := 0) (d := 1 + d) (k := 5) (S := S4) (by omega) (by unfold sz; omega) (by decide)
    refine ⟨q3 (v - a) 0 (1 + d), S4, ?_, hb_q3 (by omega) (by unfold sz; omega) (by unfold sz; decide) (by unfold sz; omega), fun q1 q2 => hb_q3 (by omega) (by unfold sz; omega) (by unfold sz; decide) (by unfold sz; omega), h4⟩
    rw [runF_eq]
    simp [b_Ldrawn, G_Ldrawn, e_Ldip_2, e_Lcut_3, pick, om, e1, e2, e3, hz, e4, ec]
  · have ec := r_Lcut (a := v - a) (b := w - a) (d := 1 + d) (k := 5) (S := S4) (by omega) (by unfold sz; omega) (by decide)
    refine ⟨q3 (v - a) (w - a) (1 + d), S4, ?_, hb_q3 (by omega) (by unfold sz; omega) (by unfold sz; omega) (by unfold sz; omega), fun q1 q2 => hb_q3 (by omega) (by unfold sz; omega) (by unfold sz; omega) (by unfold sz; omega), h4⟩
    rw [runF_eq]
    simp [b_Ldrawn, G_Ldrawn, e_Ldip_2, e_Lcut_3, pick, om, e1, e2, e3, hz, e4, ec]
end
end W

set_option Elab.async false
set_option linter.all false
set_option autoImplicit false
set_option maxRecDepth 100000
set_option maxHeartbeats 2000000
namespace PD
open PySem PySem.Spec PyProof.Rows L2
/-- how many numbers stand before the noughts at the end of the first m -/
def trN (ps : List Cq) : Nat → Nat
  | 0 => 0 | m + 1 => if ps[m]? = some 0 then trN ps m else m + 1
def trimN (ps : List Cq) : List Cq := ps.take (trN ps ps.length)
theorem trN_le (ps : List Cq) : ∀ m, trN ps m ≤ m
  | 0 => Nat.le_refl _
  | m + 1 => by
    unfold trN
    split
    · exact Nat.le_succ_of_le (trN_le ps m)
    · exact Nat.le_refl _
theorem atI_natE {α : Type} (xs : List α) (n : Nat) : atI xs (n : Int) = xs[n]? := by
  unfold atI ixN
  by_cases h : n < xs.length
  · simp [h]
  · simp [h]
theorem atI_ofNat {α : Type} (xs : List α) (n : Nat) : atI xs (OfNat.ofNat n : Int) = xs[(OfNat.ofNat n : Nat)]? := atI_natE xs n
theorem cut_take (xs : List D) (m : Nat) (h : m ≤ xs.length) : PD.cutD xs none (some (m : Int)) = xs.take m := by
  unfold PD.cutD HT.sIx
  have e1 : ¬ ((m : Int) < 0) := by omega
  have e2 : min (m : Int) xs.length = m := by omega
  simp [e1]
theorem compL_map {α : Type} {turn : D → Store → Option (Option D × Store)} {S : Store} {g f : α → D} : ∀ (as : List α), (∀ a ∈ as, turn (g a) S = some (some (f a), S)) → compL turn (as.map g) S = some (as.map f, S)
  | [], _ => rfl
  | a :: as, h => by
    rw [List.map_cons, List.map_cons]
    show bnd (turn (g a) S) _ = _
    rw [h a (by simp), bnd_some, compL_map as fun b hb => h b (by simp [hb])]
    rfl
/-- a list or a tuple of these -/
def SeqOf (X : D) (ds : List D) : Prop := X = .tup ds ∨ X = .lst ds
theorem seq_tup {ds : List D} : SeqOf (.tup ds) ds := .inl rfl
theorem seq_lst {ds : List D} : SeqOf (.lst ds) ds := .inr rfl
theorem trN_sub {ps : List Cq} : ∀ {m : Nat} {q : Cq}, ps[m]? = some q → q ≠ 0 → trN ps (m + 1) = m + 1 := fun {m q} h h0 => by
  unfold trN
  rw [h, if_neg fun e => h0 (by cases e; rfl)]
theorem trim_last {ps : List Cq} {q : Cq} (h0 : q ≠ 0) : trimN (ps ++ [q]) = ps ++ [q] := by
  unfold trimN
  rw [List.length_append, List.length_singleton, trN_sub (q := q) (by simp) h0]
  rw [List.take_of_length_le (by simp)]
end PD
namespace W
open PySem PySem.Spec PyProof.Rows L2 PD
section
variable {S : Store} {k l m N n : Nat} {p q u c v d z : Cq} {x y t : Rat} {X : D} {ps : List Cq}
def trimW : Sm := .wh (.and (.cmp .gt (.nm 1) (.lit (.int 0))) (.cmp .eq (.ix (.nm 0) (.bin .sub (.nm 1) (.lit (.int 1)))) (.gc 0))) (.cons (.aug 1 .sub (.lit (.int 1))) .nil)
theorem trim_loop (hX : SeqOf X (ps.map Nm)) : ∀ m, m ≤ ps.length → evS G_row_trimmed trimW [.dat X, .dat (.int (m : Nat))] S = some ((.nx, [.dat X, .dat (.int (trN ps m : Nat))]), S)
  | 0, _ => by
    unfold trimW
    rw [wh_stop (S1 := S) (by simp)]
    rfl
  | m + 1, h => by
    have e0 : ∃ q, ps[m]? = some q := ⟨ps[m], by simp⟩
    obtain ⟨q, hq⟩ := e0
    have ei : atI (ps.map Nm) ((m + 1 : Nat) - 1 : Int) = some (Nm q) := by
      rw [show ((m + 1 : Nat) - 1 : Int) = (m : Nat) by omega, atI_natE, List.getElem?_map, hq]; rfl
    have ix : ∀ S, ixV (.d X) (.d (.int ((m + 1 : Nat) - 1 : Int))) S = some (Nm q) := fun S => by
      rcases hX with rfl | rfl
      · exact ei
      · exact ei
    have cn : evX G_row_trimmed (.and (.cmp .gt (.nm 1) (.lit (.int 0))) (.cmp .eq (.ix (.nm 0) (.bin .sub (.nm 1) (.lit (.int 1)))) (.gc 0))) [.dat X, .dat (.int ((m + 1 : Nat) : Int))] S = some (.d (.bl (decide (q = 0))), S) := by
      have e1 : binV .sub (.d (.int ((m + 1 : Nat) : Int))) (.d (.int 1)) = some (.int ((m + 1 : Nat) - 1 : Int)) := rfl
      have e2 : decide ((0 : Int) < ((m + 1 : Nat) : Int)) = true := decide_eq_true (by omega)
      simp only [evX_and, evX_cmp, evX_nm, evX_lit, evX_ix, evX_bin, evX_gc, List.getElem?_cons_zero, List.getElem?_cons_succ, bnd_some, lft_some, Option.map_some, e1, ix]
      have e3 : cmpV .gt (.d (.int ((m + 1 : Nat) : Int))) (.d (.int 0)) = some (decide ((0 : Int) < ((m + 1 : Nat) : Int))) := rfl
      rw [e3, e2]
      simp [G_row_trimmed, c_NOUGHT, cmp_Nm0]
    unfold trimW at *
    by_cases h0 : q = 0
    · have e := trim_loop hX m (by omega)
      have en : trN ps (m + 1) = trN ps m := by
        rw [show trN ps (m + 1) = if ps[m]? = some 0 then trN ps m else m + 1 from rfl, hq, h0, if_pos rfl]
      rw [en, ← e]
      refine wh_go (S1 := S) ?_ ?_
      · rw [cn, h0]; rfl
      · have e4 : augV .sub (.int ((m : Int) + 1)) (.d (.int 1)) = some (.int (m : Int)) := by
          show some (D.int ((m : Int) + 1 - 1)) = _
          rw [show (m : Int) + 1 - 1 = m by omega]
        simp [e4]
    · rw [trN_sub hq h0]
      rw [wh_stop (S1 := S) (by rw [cn, decide_eq_false h0])]
theorem r_row_trimmed : runF G_row_trimmed 2 b_row_trimmed [.lst (ps.map Nm)] S = some (.tup ((trimN ps).map Nm), S) := by
  have e := trim_loop (S := S) (seq_lst (ds := ps.map Nm)) ps.length (Nat.le_refl _)
  have c := cut_take (ps.map Nm) (trN ps ps.length) (by rw [List.length_map]; exact trN_le _ _)
  have f : (trimN ps).map Nm = (ps.map Nm).take (trN ps ps.length) := by unfold trimN; rw [List.map_take]
  rw [f, ← c]
  unfold trimW at e
  rw [runF_eq]
  simp [b_row_trimmed, e]
  rfl
theorem r_row_scaled (hX : SeqOf X (ps.map Nm)) (hp : ∀ p ∈ ps, hb k p) (hq : hb l q) (h : k + l < 4500) (hl : ps.length < 16777216) : runF G_row_scaled 3 b_row_scaled [X, Nm q] S = some (.tup ((trimN (ps.map (· * q))).map Nm), S) := by
  have t := r_row_trimmed (S := S) (ps := ps.map (· * q))
  have e : evF G_row_scaled (.comp (.call 1 (.cons (.nm 2) (.cons (.nm 1) .nil)) .nil) (.nm 2) (.seq (.nm 0)) .none [2]) [.dat X, .dat (Nm q), .un] S = some ((ps.map (· * q)).map Nm, S) := by
    rw [evF_comp]
    have w : evW G_row_scaled (.seq (.nm 0)) [.dat X, .dat (Nm q), .un] S = some (ps.map Nm, S) := by
      rcases hX with rfl | rfl
      · rfl
      · rfl
    rw [w, bnd_some, List.length_map, if_pos (by unfold line; exact hl), List.map_map]
    refine compL_map (f := Nm ∘ (· * q)) ps fun p hp' => ?_
    have e1 := r_num_product (S := S) (hp p hp') hq h
    simp [G_row_scaled, e_num_product_2, pick, e1]
  rw [runF_eq]
  have z : (List.map Lv.dat [X, Nm q] ++ List.replicate (3 - [X, Nm q].length) Lv.un) = [.dat X, .dat (Nm q), .un] := rfl
  rw [z]
  have go : evSs G_row_scaled b_row_scaled [.dat X, .dat (Nm q), .un] S = some ((.ret (.tup ((trimN (ps.map (· * q))).map Nm)), [.dat X, .dat (Nm q), .un]), S) := by
    simp only [b_row_scaled, evSs_cons, evSs_nil, evS_ret, evX_call, evXs_cons, evXs_nil, evX_fr, e, bnd_some]
    simp only [G_row_scaled, List.getElem?_cons_zero]
    simp [-List.map_map, e_row_trimmed_1, pick, t]
  rw [go]
  rfl
end
end W

set_option Elab.async false
set_option linter.all false
set_option autoImplicit false
set_option maxRecDepth 100000
set_option maxHeartbeats 2000000
namespace W
open PySem PySem.Spec PyProof.Rows L2 PD
section
variable {S : Store} {k l m N n : Nat} {p q u c v d z : Cq} {x y t : Rat} {X : D} {ps : List Cq}
theorem cf_lt {i : Nat} (h : i < ps.length) : ps[i]? = some (cf ps i) := by
  unfold cf; rw [List.getElem?_eq_getElem h]; rfl
theorem cf_ge {i : Nat} (h : ¬ i < ps.length) : cf ps i = 0 := by
  unfold cf; rw [List.getElem?_eq_none (by omega)]; rfl
theorem lastOk_trim : ∀ (m : Nat) (ps : List Cq), m ≤ ps.length → lastOk (ps.take (trN ps m))
  | 0, ps, _ => .inl rfl
  | m + 1, ps, h => by
    unfold trN
    split
    · exact lastOk_trim m ps (by omega)
    · rename_i h0
      refine .inr ⟨ps.take m, cf ps m, ?_, fun e => h0 (by rw [cf_lt (by omega), e])⟩
      rw [List.take_add_one, cf_lt (by omega)]
      rfl
theorem lastOk_trimN : lastOk (trimN ps) := lastOk_trim _ _ (Nat.le_refl _)
theorem trim_ok (h : lastOk ps) : trimN ps = ps := by
  rcases h with rfl | ⟨qs, q, rfl, h0⟩
  · rfl
  · exact trim_last h0
theorem eqD_TN {a : D} {as : List D} : eqD (.tup (a :: as)) (.tup []) = false := by
  simp [eqD, D.py, D.pys, PyData.eqv, PyData.eqvAll]
theorem row_comp (X : D) : ∀ qs : List Cq, compL (fun d S => bnd (evG G_is_a_row (.nm 1) d (wipeL [.dat X, .un] [1]) S) fun L2 S => bnd (evC G_is_a_row (.some (.not (.call 0 (.cons (.nm 1) .nil) .nil))) L2 S) fun k S => if k = true then bnd (evX G_is_a_row (.nm 1) L2 S) fun x S => bnd (lft (unV x) S) fun y S => some (some y, S) else some (none, S)) (qs.map Nm) S = some ([], S)
  | [] => rfl
  | p :: ps => by
    rw [List.map_cons, compL_cons]
    have st : (bnd (evG G_is_a_row (.nm 1) (Nm p) (wipeL [.dat X, .un] [1]) S) fun L2 S => bnd (evC G_is_a_row (.some (.not (.call 0 (.cons (.nm 1) .nil) .nil))) L2 S) fun k S => if k = true then bnd (evX G_is_a_row (.nm 1) L2 S) fun x S => bnd (lft (unV x) S) fun y S => some (some y, S) else some (none, S)) = some (none, S) := by
      simp [G_is_a_row, e_is_num_1, pick, r_is_num_N]
    rw [st, bnd_some, row_comp X ps, bnd_some]
theorem eqOk_row : ∀ ps : List Cq, eqOk (.tup (ps.map Nm)) = true := fun ps => by
  have a : ∀ ps : List Cq, D.pures (ps.map Nm) = true ∧ PyData.canLayAll0 (D.pys (ps.map Nm)) = true ∧ PyData.depthAll (D.pys (ps.map Nm)) ≤ 2 := fun ps => by
    induction ps with
    | nil => exact ⟨rfl, rfl, Nat.zero_le _⟩
    | cons p ps ih =>
      refine ⟨?_, ?_, ?_⟩
      · show (D.pure (Nm p) && D.pures (ps.map Nm)) = true
        rw [ih.1]; rfl
      · show (PyData.canLay0 (D.py (Nm p)) && PyData.canLayAll0 (D.pys (ps.map Nm))) = true
        rw [ih.2.1]; rfl
      · show max (PyData.depth (D.py (Nm p))) (PyData.depthAll (D.pys (ps.map Nm))) ≤ 2
        exact Nat.max_le.mpr ⟨Nat.le_refl _, ih.2.2⟩
  obtain ⟨a1, a2, a3⟩ := a ps
  show (D.pures (ps.map Nm) && (PyData.canLayAll0 (D.pys (ps.map Nm)) && decide (PyData.depthAll (D.pys (ps.map Nm)) + 1 ≤ 64))) = true
  rw [a1, a2, decide_eq_true (by omega)]; rfl
theorem r_is_a_row (h : lastOk ps) (hl : ps.length < 16777216) : runF G_is_a_row 2 b_is_a_row [.tup (ps.map Nm)] S = some (.bl true, S) := by
  have e : evF G_is_a_row (.comp (.nm 1) (.nm 1) (.seq (.nm 0)) (.some (.not (.call 0 (.cons (.nm 1) .nil) .nil))) [1]) [.dat (.tup (ps.map Nm)), .un] S = some ([], S) := by
    rw [evF_comp]
    have w : evW G_is_a_row (.seq (.nm 0)) [.dat (.tup (ps.map Nm)), .un] S = some (ps.map Nm, S) := rfl
    rw [w, bnd_some, List.length_map, if_pos (by unfold line; exact hl)]
    exact row_comp _ ps
  rw [runF_eq]
  have e2 : cmpV .ne (.d (.lst [])) (.d (.lst [])) = some false := by decide +kernel
  rcases h with rfl | ⟨qs, q, rfl, h0⟩
  · have e3 : cmpV .eq (.d (.tup [])) (.d (.tup [])) = some true := by decide +kernel
    simp only [List.map_nil] at e ⊢
    simp [b_is_a_row, -evF_comp, e, e2, e3]
  · have e4 : (1 : Int) ≤ qs.length + 1 := by omega
    have e6 : (-1 + ((qs.length : Int) + 1)).toNat = qs.length := by omega
    have e5 := cmpn_Nm (x := q) (y := c0)
    rw [Nm_c0] at e5
    have e7 : (q = c0) = False := eq_false h0
    have e8 : ∃ b, cmpV .eq (.d (.tup (qs.map Nm ++ [Nm q]))) (.d (.tup [])) = some b := by
      refine ⟨eqD (.tup (qs.map Nm ++ [Nm q])) (.tup []), ?_⟩
      have a := eqOk_row (qs ++ [q])
      rw [List.map_append] at a
      show (if (eqOk (.tup (qs.map Nm ++ [Nm q])) && eqOk (.tup [])) = true then some _ else none) = _
      have a2 : eqOk (.tup (qs.map Nm ++ [Nm q])) = true := a
      rw [a2]; rfl
    obtain ⟨b, e8⟩ := e8
    simp only [List.map_append, List.map_cons, List.map_nil] at e ⊢
    simp [b_is_a_row, G_is_a_row, c_NOUGHT, -evF_comp] at e ⊢
    have e9 : atI (qs.map Nm ++ [Nm q]) (-1) = some (Nm q) := by
      unfold atI ixN
      simp [e4, e6]
    simp [e, e2, e5, e7, e8, e9]
end
end W

set_option Elab.async false
set_option linter.all false
set_option autoImplicit false
set_option maxRecDepth 100000
set_option maxHeartbeats 2000000
namespace W
open PySem PySem.Spec PyProof.Rows L2 PD
section
variable {S : Store} {k l m N n : Nat} {p q u c v d z : Cq} {x y t : Rat} {X : D} {ps : List Cq}
theorem range_run {m : Nat} {S1 : Store} (h : ((m : Nat) : Int) < 2 ^ 62 ∧ -(2 ^ 62) ≤ ((m : Nat) : Int)) : lft (if ((m : Nat) : Int) < 2 ^ 62 ∧ -(2 ^ 62) ≤ ((m : Nat) : Int) then some ((List.range ((m : Nat) : Int).toNat).map fun i => D.int (i : Nat)) else none) S1 = some ((List.range m).map fun i => D.int (i : Nat), S1) := by
  rw [if_pos h, Int.toNat_natCast]
  rfl
theorem range1_nat {G : Gam} {L : PD.Loc} {e : Xp} {m : Nat} {S S1 : Store} (he : evX G e L S = some (.d (.int (m : Nat)), S1)) (hm : (m : Int) < 2 ^ 62) : evW G (.range1 e) L S = some ((List.range m).map fun i => D.int (i : Nat), S1) := by
  rw [evW_range1, he, bnd_some]
  exact range_run ⟨hm, Int.le_trans (by decide) (Int.natCast_nonneg m)⟩
theorem lt_line {m : Nat} (h : m ≤ 1000) : m < 16777216 := Nat.lt_of_le_of_lt h (by decide)
theorem big_ok {m : Nat} (h : m ≤ 1000) : (m : Int) < 2 ^ 62 := Int.lt_of_le_of_lt (Int.ofNat_le.mpr h) (by decide)
theorem r_check_row (h : lastOk ps) (hl : ps.length < 16777216) : runF G_check_row 1 b_check_row [.tup (ps.map Nm)] S = some (.non, S) := by
  rw [runF_eq]; simp [b_check_row, G_check_row, e_is_a_row_1, pick, r_is_a_row h hl]
theorem ev_fold : ∀ ps : List Cq, evN ps q = ps.reverse.foldl (fun a r => a * q + r) 0 := fun ps => by
  rw [List.foldl_reverse]
  induction ps with
  | nil => rfl
  | cons p ps ih => show evN ps q * q + p = _; rw [ih]; rfl
theorem hb_z : hb 1 (0 : Cq) := hb_c0
end
end W

set_option Elab.async false
set_option linter.all false
set_option autoImplicit false
set_option maxRecDepth 100000
set_option maxHeartbeats 2000000
namespace W
open PySem PySem.Spec PyProof.Rows L2 PD
section
variable {S : Store} {k l m N n K : Nat} {p q u c v d z : Cq} {x y t : Rat} {X : D} {ps : List Cq} {A : Lv}
def dnL (s : Nat) : Nat → List D
  | 0 => [] | m + 1 => .int ((s + m : Nat) : Int) :: dnL s m
theorem dnL_eq (s : Nat) (a : Int) : ∀ m : Nat, a + 1 = s + m → dnL s m = (List.range m).map fun i => D.int (a + (i : Nat) * (-1))
  | 0, _ => rfl
  | m + 1, h => by
    rw [List.range_succ_eq_map, List.map_cons, List.map_map]
    show D.int _ :: dnL s m = _
    rw [dnL_eq s (a - 1) m (by omega)]
    have e : ((s + m : Nat) : Int) = a + ((0 : Nat) : Int) * (-1) := by omega
    rw [e]
    refine congrArg _ (List.map_congr_left fun i _ => ?_)
    show D.int _ = D.int _
    refine congrArg D.int ?_
    show a - 1 + (i : Nat) * (-1) = a + ((i + 1 : Nat) : Int) * (-1)
    omega
theorem ixN_nat {len j : Nat} (h : j < len) : ixN len (j : Int) = some j := by unfold ixN; simp [h]
end
end W

set_option Elab.async false
set_option linter.all false
set_option autoImplicit false
set_option maxRecDepth 100000
set_option maxHeartbeats 2000000
namespace W
open PySem PySem.Spec PyProof.Rows L2 PD
section
variable {S : Store} {k l m N n K : Nat} {p q u c v d z : Cq} {x y t : Rat} {X : D} {ps : List Cq} {A : Lv}
theorem cmp_T00 {a b : Int} : cmpV .eq (.d (.tup [.int a, .int b])) (.d (.tup [.int 0, .int 0])) = some (decide (a = 0 ∧ b = 0)) := by
  have o : ∀ a b : Int, eqOk (.tup [.int a, .int b]) = true := fun _ _ => rfl
  show (if (eqOk (.tup [.int a, .int b]) && eqOk (.tup [.int 0, .int 0])) = true then some (eqD (.tup [.int a, .int b]) (.tup [.int 0, .int 0])) else none) = _
  rw [o, o]
  have e : eqD (.tup [.int a, .int b]) (.tup [.int 0, .int 0]) = (a == 0 && (b == 0 && true)) := by simp [eqD, D.py, D.pys, PySem.PyData.eqv, PySem.PyData.eqvAll]
  rw [e]
  by_cases ha : a = 0
  · by_cases hb : b = 0
    · simp [ha, hb]
    · simp [ha, hb]
  · simp [ha]
theorem cmp_T00p {p : Cq} : cmpV .eq (.d (.tup [.int (t3 p).1, .int (t3 p).2.1])) (.d (.tup [.int 0, .int 0])) = some (decide (p = 0)) := by
  rw [cmp_T00]
  have := t3_zero p
  by_cases h : p = c0
  · rw [decide_eq_true (this.mpr h), decide_eq_true (show p = 0 from h)]
  · rw [decide_eq_false fun e => h (this.mp e), decide_eq_false (show ¬ p = 0 from h)]
theorem slc_T {p : Cq} : slcT (.d (T p)) none (some 2) = some (.tup [.int (t3 p).1, .int (t3 p).2.1]) := rfl
theorem slcS_T {p : Cq} {S : Store} : slcS (.d (T p)) none (some 2) S = some (.tup [.int (t3 p).1, .int (t3 p).2.1]) := rfl
theorem optI_i {i : Int} : optI (some (.d (.int i))) = some (some i) := rfl
def ltrB : Sms := (b_Ltrim.nth 1).body
theorem ltrim_step {i j L : Int} {R : D} {p : Cq} {E : Lv} {ds : List D} (hX : R = .lst ds) (hL : (ds.length : Int) = L) : (i = L - j → atI ds (i - 1) = some (T p)) → (bnd (evG G_Ltrim (.nm 2) (.int j) [.dat R, .dat (.int i), E] S) fun L2 S2 => evSs G_Ltrim ltrB L2 S2) = some ((.nx, [.dat R, .dat (.int (if i = L - j ∧ p = 0 then i - 1 else i)), .dat (.int j)]), S) := fun h => by
  subst hX
  by_cases h1 : i = L - j
  · have h2 := h h1
    by_cases hp : p = 0
    · rw [if_pos ⟨h1, hp⟩]
      have e := cmp_T00p (p := p)
      rw [decide_eq_true hp] at e
      simp [ltrB, Sms.nth, Sm.body, b_Ltrim, hL, ← h1, h2, optI_i, slc_T, slcS_T, e]
    · rw [if_neg fun e => hp e.2]
      have e := cmp_T00p (p := p)
      rw [decide_eq_false hp] at e
      simp [ltrB, Sms.nth, Sm.body, b_Ltrim, hL, ← h1, h2, optI_i, slc_T, slcS_T, e]
  · rw [if_neg fun e => h1 e.1]
    simp [ltrB, Sms.nth, Sm.body, b_Ltrim, hL, h1]
theorem ltrim_loop : ∀ (r j m : Nat) (E : Lv), j + r = ps.length → (m = r ∨ (r < m ∧ trN ps m = m)) → m ≤ ps.length → ∃ E', forL (fun d L S => bnd (evG G_Ltrim (.nm 2) d L S) fun L2 S2 => evSs G_Ltrim ltrB L2 S2) ((List.range' j r).map fun i => D.int (i : Nat)) [.dat (.lst (ps.map T)), .dat (.int (m : Nat)), E] S = some ((.nx, [.dat (.lst (ps.map T)), .dat (.int ((trN ps m : Nat) : Int)), E']), S)
  | 0, j, m, E, hj, hm, hl => ⟨E, by
      have : trN ps m = m := by
        rcases hm with rfl | ⟨_, h⟩
        · rfl
        · exact h
      rw [this]; rfl⟩
  | r + 1, j, m, E, hj, hm, hl => by
    have hL : ((ps.map T).length : Int) = ((ps.length : Nat) : Int) := by rw [List.length_map]
    rw [List.range'_succ, List.map_cons]
    by_cases h1 : m = r + 1
    · subst h1
      have st := ltrim_step (S := S) (R := .lst (ps.map T)) (E := E) (i := ((r + 1 : Nat) : Int)) (j := ((j : Nat) : Int)) (p := cf ps r) rfl hL fun _ => by
        rw [show ((r + 1 : Nat) : Int) - 1 = (r : Nat) by omega, atI_natE, List.getElem?_map, cf_lt (by omega)]; rfl
      by_cases hz : cf ps r = 0
      · rw [if_pos ⟨by omega, hz⟩, show ((r + 1 : Nat) : Int) - 1 = ((r : Nat) : Int) by omega] at st
        have en : trN ps (r + 1) = trN ps r := by
          show (if ps[r]? = some 0 then trN ps r else r + 1) = _
          rw [cf_lt (by omega), hz, if_pos rfl]
        obtain ⟨E', e⟩ := ltrim_loop r (j + 1) r (.dat (.int ((j : Nat) : Int))) (by omega) (.inl rfl) (by omega)
        exact ⟨E', by rw [forL_cons, st, bnd_some, en]; exact e⟩
      · rw [if_neg fun e => hz e.2] at st
        obtain ⟨E', e⟩ := ltrim_loop r (j + 1) (r + 1) (.dat (.int ((j : Nat) : Int))) (by omega) (.inr ⟨by omega, trN_sub (cf_lt (by omega)) hz⟩) hl
        exact ⟨E', by rw [forL_cons, st, bnd_some]; exact e⟩
    · have h2 : r + 1 < m ∧ trN ps m = m := by
        rcases hm with h | h
        · exact absurd h h1
        · exact h
      have st := ltrim_step (S := S) (R := .lst (ps.map T)) (E := E) (i := ((m : Nat) : Int)) (j := ((j : Nat) : Int)) (p := 0) rfl hL fun h => absurd h (by omega)
      rw [if_neg fun e => absurd e.1 (by omega)] at st
      obtain ⟨E', e⟩ := ltrim_loop r (j + 1) m (.dat (.int ((j : Nat) : Int))) (by omega) (.inr ⟨by omega, h2.2⟩) hl
      exact ⟨E', by rw [forL_cons, st, bnd_some]; exact e⟩
theorem r_Ltrim (hl : ps.length ≤ 1000) : runF G_Ltrim 3 b_Ltrim [.lst (ps.map T)] S = some (.lst ((trimN ps).map T), S) := by
  obtain ⟨E', e⟩ := ltrim_loop (S := S) (ps := ps) ps.length 0 ps.length .un (by omega) (.inl rfl) (Nat.le_refl _)
  have cw : evW G_Ltrim (.range1 (.bi .len (.cons (.nm 0) .nil))) [.dat (.lst (ps.map T)), .dat (.int (ps.length : Nat)), .un] S = some ((List.range' 0 ps.length).map fun i => D.int (i : Nat), S) := by
    rw [← List.range_eq_range']
    refine range1_nat (m := ps.length) ?_ (big_ok hl)
    simp
  have c5 := ev_for (G := G_Ltrim) (t := .nm 2) (b := ltrB) (S1 := S) rfl cw e
  have c := cut_take (ps.map T) (trN ps ps.length) (by rw [List.length_map]; exact trN_le _ _)
  have go : evSs G_Ltrim b_Ltrim [.dat (.lst (ps.map T)), .un, .un] S = some ((.ret (.lst ((trimN ps).map T)), [.dat (.lst (ps.map T)), .dat (.int ((trN ps ps.length : Nat) : Int)), E']), S) := by
    have h0 : b_Ltrim = .cons (.asg (.nm 1) (.bi .len (.cons (.nm 0) .nil))) (.cons (.for_ (.nm 2) (.range1 (.bi .len (.cons (.nm 0) .nil))) ltrB) (.cons (.ret (.fr (.list (.fr (.slc (.nm 0) .none (.some (.nm 1))))))) .nil)) := rfl
    rw [h0]
    refine st_nx (L2 := [.dat (.lst (ps.map T)), .dat (.int (ps.length : Nat)), .un]) (S2 := S) (by simp) ?_
    refine st_nx c5 ?_
    have tm : (trimN ps).map T = PD.cutD (ps.map T) none (some ((trN ps ps.length : Nat) : Int)) := by rw [c]; unfold trimN; rw [List.map_take]
    rw [tm]
    generalize ((trN ps ps.length : Nat) : Int) = i
    rfl
  rw [runF_eq]
  show bnd (evSs G_Ltrim b_Ltrim [.dat (.lst (ps.map T)), .un, .un] S) _ = _
  rw [go]
  rfl
theorem trim_sub : ∀ p ∈ trimN ps, p ∈ ps := fun p h => List.mem_of_mem_take h
theorem trim_le : (trimN ps).length ≤ ps.length := by unfold trimN; rw [List.length_take]; omega
theorem told_w {A B : D} {E : List Lv} (t : runF G_Ltrim 3 b_Ltrim [A] S = some (B, S)) : evX G_Ltold_row (.call 0 (.cons (.nm 0) .nil) .nil) (.dat A :: E) S = some (.d B, S) := by
  show bnd (runF G_Ltrim 3 b_Ltrim [A] S) _ = _
  rw [t]
  rfl
theorem row_end0 {X B : D} {L : PD.Loc} {f : Fx} {S1 S2 : Store} (h : evXs G_Lrow (.cons (.fr f) .nil) L S1 = some ([.d X], S2)) (t : runF G_Ltrim 3 b_Ltrim [X] S2 = some (B, S2)) : evX G_Lrow (.call 2 (.cons (.fr f) .nil) .nil) L S1 = some (.d B, S2) := by
  rw [evX_call, h]
  show bnd (runF G_Ltrim 3 b_Ltrim [X] S2) _ = _
  rw [t]
  rfl
theorem row_end {A : List D} {B : D} {L : PD.Loc} {f : Fx} {S1 S2 : Store} (h : evF G_Lrow f L S1 = some (A, S2)) (t : runF G_Ltrim 3 b_Ltrim [.lst A] S2 = some (B, S2)) : evX G_Lrow (.call 2 (.cons (.fr f) .nil) .nil) L S1 = some (.d B, S2) :=
  row_end0 (by rw [evXs_cons, evX_fr, h]; rfl) t
theorem r_Ltold_row (h : ∀ p ∈ ps, hb k p) (hk : k < 9000) (hl : ps.length ≤ 1000) : runF G_Ltold_row 2 b_Ltold_row [.lst (ps.map T)] S = some (.tup ((trimN ps).map Nm), S) := by
  have t := r_Ltrim (S := S) hl
  have sub : ∀ p ∈ trimN ps, p ∈ ps := trim_sub
  have lq : (trimN ps).length ≤ 1000 := Nat.le_trans trim_le hl
  generalize trimN ps = qs at *
  have e : evF G_Ltold_row (.comp (.call 1 (.cons (.nm 1) .nil) .nil) (.nm 1) (.seq (.call 0 (.cons (.nm 0) .nil) .nil)) .none [1]) [.dat (.lst (ps.map T)), .un] S = some (qs.map Nm, S) := by
    rw [evF_comp]
    have w : evW G_Ltold_row (.seq (.call 0 (.cons (.nm 0) .nil) .nil)) [.dat (.lst (ps.map T)), .un] S = some (qs.map T, S) := by
      rw [evW_seq, told_w t]
      rfl
    rw [w, bnd_some, List.length_map, if_pos (lt_line lq)]
    refine compL_map (f := Nm) qs fun p hp => ?_
    have e1 := r_Ltold (S := S) (h p (sub p hp)) hk
    simp [G_Ltold_row, e_Ltold_1, pick, e1]
  rw [runF_eq]
  show bnd (evSs G_Ltold_row b_Ltold_row [.dat (.lst (ps.map T)), .un] S) _ = _
  have go : evSs G_Ltold_row b_Ltold_row [.dat (.lst (ps.map T)), .un] S = some ((.ret (.tup (qs.map Nm)), [.dat (.lst (ps.map T)), .un]), S) := by
    simp only [b_Ltold_row, evSs_cons, evSs_nil, evS_ret, evX_bi, evXs_cons, evXs_nil, evX_fr, e, bnd_some]
    rfl
  rw [go]
  rfl
theorem comp_run {turn : D → Store → Option (Option D × Store)} {P : Cq → Prop} {Q : D → Prop} {w B : Nat} (step : ∀ d, Q d → ∀ S N, Pl N S n → N ≤ B → ∃ (p : Cq) (S' : Store), turn d S = some (some (T p), S') ∧ P p ∧ Pl (N + w) S' n) : ∀ (ds : List D) (S : Store) (N : Nat), (∀ d ∈ ds, Q d) → Pl N S n → N + w * ds.length ≤ B → ∃ (ps : List Cq) (S' : Store), compL turn ds S = some (ps.map T, S') ∧ (∀ p ∈ ps, P p) ∧ ps.length = ds.length ∧ Pl (N + w * ds.length) S' n
  | [], S, N, _, h, _ => ⟨[], S, rfl, fun p hp => (by cases hp), rfl, h⟩
  | d :: ds, S, N, hq, h, hN => by
    have e0 : w * (d :: ds).length = w + w * ds.length := by show w * (ds.length + 1) = _; rw [Nat.mul_add]; omega
    rw [e0] at hN
    obtain ⟨p, S1, e1, p1, h1⟩ := step d (hq d (List.mem_cons_self ..)) S N h (by omega)
    obtain ⟨ps, S2, e2, p2, l2, h2⟩ := comp_run step ds S1 (N + w) (fun z hz => hq z (List.mem_cons_of_mem _ hz)) h1 (by omega)
    refine ⟨p :: ps, S2, ?_, ?_, by simp [l2], by rw [e0]; exact h2.mono (by omega)⟩
    · rw [compL_cons, e1, bnd_some, e2, bnd_some]; rfl
    · intro z hz
      rcases List.mem_cons.mp hz with rfl | hz
      · exact p1
      · exact p2 z hz
theorem T_0 : T (0 : Cq) = .tup [.int 0, .int 0, .int 1] := T_c0
/-- a number of the row, drawn -/
theorem r_drawn6 {a b : Int} (h : Pl N S n) (hN : N ≤ 900000) (ha : 0 < a) (ha2 : a < 8) (hb' : 0 < b) (hb2 : b < 4) : ∃ (p : Cq) (S' : Store), runF G_Ldrawn 5 b_Ldrawn [.cell n, .int a, .int b] S = some (T p, S') ∧ (hb 3 p ∧ gb 1 6 p) ∧ Pl (N + 4) S' n := by
  have om : okMul 2 a = true := oks (by decide) (by omega)
  obtain ⟨v, S1, e1, v0, v1, h1⟩ := r_Ldip (m := 2 * a + 1) h (by omega) (by omega) (by omega)
  obtain ⟨w, S2, e2, w0, w1, h2⟩ := r_Ldip (m := 2 * a + 1) h1 (by omega) (by omega) (by omega)
  obtain ⟨z, S3, e3, z0, z1, h3⟩ := r_Ldip (m := 3) h2 (by omega) (by decide) (by decide)
  obtain ⟨d, S4, e4, d0, d1, h4⟩ := r_Ldip (m := b) h3 (by omega) hb' (by omega)
  have six : ∀ f : Int, -8 < f → f < 8 → ∀ f2 : Int, -8 < f2 → f2 < 8 → gb 1 6 (q3 f f2 (1 + d)) := fun f f0 f1 f2 g0 g1 => by
    have hd : d = 0 ∨ d = 1 ∨ d = 2 := by omega
    rcases hd with rfl | rfl | rfl
    · exact ⟨f * 6, f2 * 6, (q3_up (a := f) (b := f2) (d := 1) (c := 6) (by decide) (by decide)).symm, by unfold sz; omega, by unfold sz; omega⟩
    · exact ⟨f * 3, f2 * 3, (q3_up (a := f) (b := f2) (d := 2) (c := 3) (by decide) (by decide)).symm, by unfold sz; omega, by unfold sz; omega⟩
    · exact ⟨f * 2, f2 * 2, (q3_up (a := f) (b := f2) (d := 3) (c := 2) (by decide) (by decide)).symm, by unfold sz; omega, by unfold sz; omega⟩
  by_cases hz : z = 0
  · have ec := r_Lcut (a := v - a) (b := 0) (d := 1 + d) (k := 5) (S := S4) (by omega) (by unfold sz; omega) (by decide)
    refine ⟨q3 (v - a) 0 (1 + d), S4, ?_, ⟨hb_q3 (by omega) (by unfold sz; omega) (by unfold sz; decide) (by unfold sz; omega), six _ (by omega) (by omega) _ (by decide) (by decide)⟩, h4⟩
    rw [runF_eq]
    simp [b_Ldrawn, G_Ldrawn, e_Ldip_2, e_Lcut_3, pick, om, e1, e2, e3, hz, e4, ec]
  · have ec := r_Lcut (a := v - a) (b := w - a) (d := 1 + d) (k := 5) (S := S4) (by omega) (by unfold sz; omega) (by decide)
    refine ⟨q3 (v - a) (w - a) (1 + d), S4, ?_, ⟨hb_q3 (by omega) (by unfold sz; omega) (by unfold sz; omega) (by unfold sz; omega), six _ (by omega) (by omega) _ (by omega) (by omega)⟩, h4⟩
    rw [runF_eq]
    simp [b_Ldrawn, G_Ldrawn, e_Ldip_2, e_Lcut_3, pick, om, e1, e2, e3, hz, e4, ec]
theorem r_Lrow {m : Int} (h : Pl N S n) (hN : N ≤ 800000) (h0 : 0 ≤ m) (h1 : m ≤ 10) : ∃ (ps : List Cq) (S' : Store), runF G_Lrow 5 b_Lrow [.cell n, .int m] S = some (.lst (ps.map T), S') ∧ (∀ p ∈ ps, hb 3 p ∧ gb 1 6 p) ∧ ps.length ≤ m.toNat ∧ lastOk ps ∧ Pl (N + 60) S' n := by
  obtain ⟨v, S1, e1, v0, v1, p1⟩ := r_Ldip (m := m + 1) h (by omega) (by omega) (by omega)
  obtain ⟨j, rfl⟩ : ∃ j : Nat, v = (j : Nat) := ⟨v.toNat, by omega⟩
  have jm : j ≤ 10 := by omega
  obtain ⟨ps, S2, e2, hp, lp, p2⟩ := comp_run (n := n) (P := fun p => hb 3 p ∧ gb 1 6 p) (Q := fun _ => True) (w := 4) (B := 900000)
    (turn := fun d S => bnd (evG G_Lrow (.nm 3) d (wipeL [.dat (.cell n), .dat (.int m), .un, .un, .un] [3]) S) fun L2 S => bnd (evC G_Lrow .none L2 S) fun k S => if k = true then bnd (evX G_Lrow (.call 1 (.cons (.nm 0) (.cons (.lit (.int 4)) (.cons (.lit (.int 3)) .nil))) .nil) L2 S) fun x S => bnd (lft (unV x) S) fun y S => some (some y, S) else some (none, S))
    (fun d _ S N hP hB => by
      obtain ⟨p, S', e, hp, h'⟩ := r_drawn6 (a := 4) (b := 3) hP hB (by decide) (by decide) (by decide) (by decide)
      refine ⟨p, S', ?_, hp, h'⟩
      simp [G_Lrow, e_Ldrawn_3, pick, e]) ((List.range j).map fun i => D.int (i : Nat)) S1 (N + 1) (fun _ _ => trivial) p1 (by rw [List.length_map, List.length_range]; omega)
  rw [List.length_map, List.length_range] at lp p2
  obtain ⟨qs, S3, e3, hq, lq, p3⟩ := comp_run (n := n) (P := fun p => hb 3 p ∧ gb 1 6 p) (Q := fun d => ∃ p, d = T p ∧ hb 3 p ∧ gb 1 6 p) (w := 1) (B := 900000)
    (turn := fun d S => bnd (evG G_Lrow (.nm 4) d (wipeL [.dat (.cell n), .dat (.int m), .dat (.lst (ps.map T)), .un, .un] [4]) S) fun L2 S => bnd (evC G_Lrow .none L2 S) fun k S => if k = true then bnd (evX G_Lrow (.ife (.cmp .eq (.call 0 (.cons (.nm 0) (.cons (.lit (.int 5)) .nil)) .nil) (.lit (.int 0))) (.tup (.cons (.lit (.int 0)) (.cons (.lit (.int 0)) (.cons (.lit (.int 1)) .nil)))) (.nm 4)) L2 S) fun x S => bnd (lft (unV x) S) fun y S => some (some y, S) else some (none, S))
    (fun d hd S N hP hB => by
      obtain ⟨p, rfl, hp⟩ := hd
      obtain ⟨v, S', e, w0, w1, h'⟩ := r_Ldip (m := 5) hP (by omega) (by decide) (by decide)
      by_cases hv : v = 0
      · refine ⟨0, S', ?_, ⟨hb_c0.mono (by decide), (gb_zero 1).mono (by decide)⟩, h'⟩
        rw [T_0]
        simp [G_Lrow, e_Ldip_2, pick, e, hv]
      · refine ⟨p, S', ?_, hp, h'⟩
        simp [G_Lrow, e_Ldip_2, pick, e, hv]) (ps.map T) S2 (N + 1 + 4 * j) (fun d hd => by
          obtain ⟨p, hp', rfl⟩ := List.mem_map.mp hd
          exact ⟨p, rfl, hp p hp'⟩) p2 (by rw [List.length_map, lp]; omega)
  rw [List.length_map, lp] at lq p3
  have t := r_Ltrim (S := S3) (ps := qs) (by omega)
  have q1 : ∀ p ∈ trimN qs, hb 3 p ∧ gb 1 6 p := fun p hp' => hq p (trim_sub p hp')
  have q2 : (trimN qs).length ≤ m.toNat := Nat.le_trans trim_le (by omega)
  have q3' : lastOk (trimN qs) := lastOk_trimN
  generalize trimN qs = rs at *
  refine ⟨rs, S3, ?_, q1, q2, q3', p3.mono (by omega)⟩
  have f1 : evF G_Lrow (.comp (.call 1 (.cons (.nm 0) (.cons (.lit (.int 4)) (.cons (.lit (.int 3)) .nil))) .nil) (.nm 3) (.range1 (.call 0 (.cons (.nm 0) (.cons (.bin .add (.nm 1) (.lit (.int 1))) .nil)) .nil)) .none [3]) [.dat (.cell n), .dat (.int m), .un, .un, .un] S = some (ps.map T, S2) := by
    rw [evF_comp]
    have w := range1_nat (G := G_Lrow) (L := [.dat (.cell n), .dat (.int m), .un, .un, .un]) (e := .call 0 (.cons (.nm 0) (.cons (.bin .add (.nm 1) (.lit (.int 1))) .nil)) .nil) (m := j) (S := S) (S1 := S1) (by simp [G_Lrow, e_Ldip_2, pick, e1]) (big_ok (by omega))
    rw [w, bnd_some, List.length_map, List.length_range, if_pos (lt_line (by omega))]
    exact e2
  have f2 : evF G_Lrow (.comp (.ife (.cmp .eq (.call 0 (.cons (.nm 0) (.cons (.lit (.int 5)) .nil)) .nil) (.lit (.int 0))) (.tup (.cons (.lit (.int 0)) (.cons (.lit (.int 0)) (.cons (.lit (.int 1)) .nil)))) (.nm 4)) (.nm 4) (.seq (.nm 2)) .none [4]) [.dat (.cell n), .dat (.int m), .dat (.lst (ps.map T)), .un, .un] S2 = some (qs.map T, S3) := by
    rw [evF_comp]
    have w : evW G_Lrow (.seq (.nm 2)) [.dat (.cell n), .dat (.int m), .dat (.lst (ps.map T)), .un, .un] S2 = some (ps.map T, S2) := rfl
    rw [w, bnd_some, List.length_map, if_pos (lt_line (by omega))]
    exact e3
  rw [runF_eq]
  show bnd (evSs G_Lrow b_Lrow [.dat (.cell n), .dat (.int m), .un, .un, .un] S) _ = _
  have go : evSs G_Lrow b_Lrow [.dat (.cell n), .dat (.int m), .un, .un, .un] S = some ((.ret (.lst (rs.map T)), [.dat (.cell n), .dat (.int m), .dat (.lst (ps.map T)), .un, .un]), S3) := by
    simp only [b_Lrow]
    refine st_nx (L2 := [.dat (.cell n), .dat (.int m), .dat (.lst (ps.map T)), .un, .un]) (S2 := S2) ?_ ?_
    · rw [evS_asg, evX_fr, f1]; rfl
    · rw [evSs_cons, evS_ret, row_end f2 t]
      rfl
  rw [go]
  rfl
end
end W

set_option Elab.async false
set_option linter.all false
set_option autoImplicit false
set_option maxRecDepth 100000
set_option maxHeartbeats 2000000
namespace W
open PySem PySem.Spec PyProof.Rows L2 PD
section
variable {S : Store} {k l m N n K : Nat} {p q u c v d z x y : Cq} {t : Rat} {X : D} {ps : List Cq} {A : Lv}
theorem zip_range {f : Cq → Cq → Cq} : ∀ {a b : List Cq}, a.length = b.length → (List.range a.length).map (fun i => f (cf a i) (cf b i)) = List.zipWith f a b
  | [], [], _ => rfl
  | p :: a, q :: b, h => by
    have h2 : a.length = b.length := by simpa using h
    rw [List.length_cons, List.range_succ_eq_map, List.map_cons, List.map_map, List.zipWith_cons_cons, ← zip_range h2]
    rfl
end
end W

set_option Elab.async false
set_option linter.all false
set_option autoImplicit false
set_option maxRecDepth 100000
set_option maxHeartbeats 2000000
namespace W
open PySem PySem.Spec PyProof.Rows L2 PD
section
variable {S : Store} {k l m N n K : Nat} {p q u c v d z x y : Cq} {t : Rat} {X : D} {ps : List Cq} {A : Lv}
theorem stp_head {l : List Cq} (hx : hb k x) (hl : ∀ p ∈ l, hb K p) : ∃ h t, stp x l = h :: t ∧ hb (K + k + 1) h := by
  cases l with
  | nil => exact ⟨0, [], by show [(0 : Cq) + 0] = [0]; rw [show (0 : Cq) + 0 = 0 by grind], hb_z.mono (by omega)⟩
  | cons q qs => exact ⟨q * x, _, stp_cons x q qs, (hl q (List.mem_cons_self ..)).mul' hx⟩
theorem sub_store {G : Gam} {e1 e2 : Lv} {ds : List D} {h h' : D} {L : List Lv} {e : Xp} (he : evX G e (e1 :: e2 :: .own (h :: ds) :: L) S = some (.d h', S)) : evS G (.asg (.sub 2 (.lit (.int 0))) e) (e1 :: e2 :: .own (h :: ds) :: L) S = some ((.nx, e1 :: e2 :: .own (h' :: ds) :: L), S) := by
  rw [evS_asg, he]
  have a3 : ixN (h :: ds).length 0 = some 0 := ixN_nat (j := 0) (by simp)
  show bnd (match ixN (h :: ds).length 0 with | some j => some ((e1 :: e2 :: .own (h :: ds) :: L).set 2 (.own ((h :: ds).set j h')), S) | none => none) _ = _
  rw [a3]
  rfl
end
end W

set_option Elab.async false
set_option linter.all false
set_option autoImplicit false
set_option maxRecDepth 100000
set_option maxHeartbeats 2000000
namespace W
open PySem PySem.Spec PyProof.Rows L2 PD
section
variable {S : Store} {k l m N n K : Nat} {p q u c v d z x y : Cq} {t : Rat} {X : D} {ps : List Cq} {A : Lv}
theorem trN_zero : ∀ m : Nat, m ≤ ps.length → ∀ i, trN ps m ≤ i → i < m → cf ps i = 0
  | 0, _, i, _, h => absurd h (by omega)
  | m + 1, hm, i, h1, h2 => by
    unfold trN at h1
    split at h1
    · rename_i h0
      by_cases hi : i = m
      · subst hi
        unfold cf; rw [h0]; rfl
      · exact trN_zero m (by omega) i h1 (by omega)
    · omega
theorem cf_trim (i : Nat) : cf (trimN ps) i = cf ps i := by
  by_cases h : i < trN ps ps.length
  · unfold trimN cf
    rw [List.getElem?_take_of_lt h]
  · have e1 : cf (trimN ps) i = 0 := cf_out (by unfold trimN; rw [List.length_take]; omega)
    rw [e1]
    by_cases h2 : i < ps.length
    · exact (trN_zero ps.length (Nat.le_refl _) i (by omega) h2).symm
    · exact (cf_out (by omega)).symm
theorem trim_trim : trimN (trimN ps) = trimN ps := trim_ok lastOk_trimN
theorem tu_tu {n : Nat} (h : lastOk ps) (hl : ps.length ≤ n + 1) : trimN (tuN (trimN (tuN ps n)) n) = ps := by
  refine lastOk_ext lastOk_trimN h fun i => ?_
  rw [cf_trim]
  by_cases hi : i ≤ n
  · rw [tuN_cf hi, cf_trim, tuN_cf (by omega), con_con, show n - (n - i) = i by omega]
  · rw [cf_out (l := tuN _ n) (by rw [tuN_len]; omega), cf_out (l := ps) (by omega)]
theorem ev_turned {n : Nat} (hu : sizN u = 1) (hl : ps.length ≤ n + 1) : evN (trimN (tuN ps n)) u = conN (evN ps u) * u ^ n := by
  rw [ev_cf (m := tuN ps n) fun i => cf_trim i]
  have h : u * conN u = 1 := by rw [← siz_eq, hu]; rfl
  rw [ev_turn h ps n, sm_ev u ps n hl]
theorem back_list {n : Nat} (hl : ps.length ≤ n + 1) : List.replicate (n + 1 - ps.length) (0 : Cq) ++ ps.reverse.map conN = tuN ps n := by
  refine cf_ext (by rw [tuN_len, List.length_append, List.length_replicate, List.length_map, List.length_reverse]; omega) fun i => ?_
  rw [cf_app, List.length_replicate]
  by_cases h : i < n + 1 - ps.length
  · rw [if_pos h, tuN_cf (by omega), cf_out (l := ps) (by omega), con_zero]
    unfold cf
    rw [List.getElem?_replicate, if_pos h]; rfl
  · rw [if_neg h]
    by_cases hi : i ≤ n
    · rw [tuN_cf hi]
      unfold cf
      rw [List.getElem?_map, List.getElem?_reverse (by omega), show ps.length - 1 - (i - (n + 1 - ps.length)) = n - i by omega]
      cases e : ps[n - i]? with
      | none => have := List.getElem?_eq_none_iff.mp e; omega
      | some z => rfl
    · rw [cf_out (l := tuN ps n) (by rw [tuN_len]; omega), cf_out (by rw [List.length_map, List.length_reverse]; omega)]
/-- the rows' sizes, shown -/
theorem okSh_row (h : ∀ p ∈ ps, hb 900 p) : (D.tup (ps.map Nm)).okSh := okShs_map (k := 900) (by decide) h
theorem depth_row : ∀ ps : List Cq, (D.tup (ps.map Nm)).py.depth ≤ 3 := fun ps => by
  have a : ∀ ps : List Cq, PyData.depthAll (D.pys (ps.map Nm)) ≤ 2 := fun ps => by
    induction ps with
    | nil => exact Nat.zero_le _
    | cons p ps ih =>
      show max (PyData.depth (D.py (Nm p))) (PyData.depthAll (D.pys (ps.map Nm))) ≤ 2
      exact Nat.max_le.mpr ⟨Nat.le_refl _, ih⟩
  show PyData.depthAll (D.pys (ps.map Nm)) + 1 ≤ 3
  have := a ps
  omega
theorem cnt_row : ∀ ps : List Cq, ps.length ≤ 20 → (D.tup (ps.map Nm)).cnt ≤ 500 := fun ps h => by
  have a : ∀ ps : List Cq, D.cnts (ps.map Nm) ≤ 20 * ps.length := fun ps => by
    induction ps with
    | nil => exact Nat.le_refl _
    | cons p ps ih =>
      have e : (Nm p).cnt ≤ 19 := Nat.le_of_ble_eq_true rfl
      simp only [List.map_cons, D.cnts, List.length_cons]
      omega
  have := a ps
  simp only [D.cnt]
  omega
def rowOk (d : D) : Prop := d.okSh ∧ d.py.depth ≤ 3 ∧ d.cnt ≤ 500
theorem rowOk_row (h : ∀ p ∈ ps, hb 900 p) (hl : ps.length ≤ 20) : rowOk (.tup (ps.map Nm)) := ⟨okSh_row h, depth_row ps, cnt_row ps hl⟩
theorem sh_1 {a : D} (ha : rowOk a) : shOk a = true := shOk_sz ha.1 (Nat.le_trans ha.2.1 (by decide)) (Nat.le_trans ha.2.2 (by decide))
theorem sh_2 {a b : D} (ha : rowOk a) (hb' : rowOk b) : shOk (.lst [a, b]) = true := by
  have h1 := ha.2.1
  have h2 := hb'.2.1
  have h3 := ha.2.2
  have h4 := hb'.2.2
  refine shOk_sz ⟨ha.1, hb'.1, trivial⟩ ?_ ?_
  · simp only [D.py, D.pys, PySem.PyData.depth, PySem.PyData.depthAll]; omega
  · simp only [D.cnt, D.cnts]; omega
theorem sh_3 {a b e : D} (ha : rowOk a) (hb' : rowOk b) (he : rowOk e) : shOk (.lst [a, b, e]) = true := by
  have h1 := ha.2.1
  have h2 := hb'.2.1
  have h3 := ha.2.2
  have h4 := hb'.2.2
  have h5 := he.2.1
  have h6 := he.2.2
  refine shOk_sz ⟨ha.1, hb'.1, he.1, trivial⟩ ?_ ?_
  · simp only [D.py, D.pys, PySem.PyData.depth, PySem.PyData.depthAll]; omega
  · simp only [D.cnt, D.cnts]; omega
end
end W

set_option Elab.async false
set_option linter.all false
set_option autoImplicit false
set_option maxRecDepth 100000
set_option maxHeartbeats 2000000
namespace PD
open PySem PySem.Spec PyProof.Rows L2
/-- the first j numbers of other taken off -/
def sbR (r o : List Cq) (s : Nat) (n : Cq) (j : Nat) : List Cq := (List.range r.length).map fun i => if s ≤ i ∧ i < s + j then cf r i - n * cf o (i - s) else cf r i
theorem sbR_len (r o : List Cq) (s : Nat) (n : Cq) (j : Nat) : (sbR r o s n j).length = r.length := by unfold sbR; rw [List.length_map, List.length_range]
theorem sbR_at {r o : List Cq} {s : Nat} {n : Cq} {j i : Nat} (h : i < r.length) : (sbR r o s n j)[i]? = some (if s ≤ i ∧ i < s + j then cf r i - n * cf o (i - s) else cf r i) := by
  unfold sbR
  rw [List.getElem?_map, List.getElem?_range h]; rfl
theorem sbR_0 (r o : List Cq) (s : Nat) (n : Cq) : sbR r o s n 0 = r := by
  refine List.ext_getElem? fun i => ?_
  by_cases h : i < r.length
  · rw [sbR_at h, if_neg (by omega)]
    unfold cf
    rw [List.getElem?_eq_getElem h]; rfl
  · rw [List.getElem?_eq_none (by rw [sbR_len]; omega), List.getElem?_eq_none (by omega)]
theorem sbR_S {r o : List Cq} {s : Nat} {n : Cq} {j : Nat} (h : s + j < r.length) : (sbR r o s n j).set (s + j) (cf r (s + j) - n * cf o j) = sbR r o s n (j + 1) := by
  refine List.ext_getElem? fun i => ?_
  by_cases hi : i < r.length
  · rw [sbR_at hi]
    by_cases e : s + j = i
    · subst e
      rw [List.getElem?_set_self (by rw [sbR_len]; exact hi), if_pos (by omega), Nat.add_sub_cancel_left]
    · rw [List.getElem?_set_ne e, sbR_at hi]
      by_cases q : s ≤ i ∧ i < s + j
      · rw [if_pos q, if_pos (by omega)]
      · rw [if_neg q, if_neg (by omega)]
  · rw [List.getElem?_eq_none (by rw [List.length_set, sbR_len]; omega), List.getElem?_eq_none (by rw [sbR_len]; omega)]
theorem sbR_end {r o : List Cq} {s d : Nat} {n : Cq} (hr : r.length = s + 1 + d) (ho : o.length = d + 1) : (sbR r o s n o.length).dropLast = elR r o s n := by
  refine List.ext_getElem? fun i => ?_
  rw [List.getElem?_dropLast, sbR_len]
  unfold elR
  by_cases hi : i < r.length - 1
  · rw [if_pos hi, sbR_at (by omega), List.getElem?_map, List.getElem?_range hi]
    show _ = some (cf r i - if i < s then 0 else n * cf o (i - s))
    by_cases h : i < s
    · rw [if_neg (by omega), if_pos h]; refine congrArg some ?_; grind
    · rw [if_pos (by omega), if_neg h]
  · rw [if_neg hi, List.getElem?_eq_none (by rw [List.length_map, List.length_range]; omega)]
end PD
namespace W
open PySem PySem.Spec PyProof.Rows L2 PD
section
variable {S : Store} {K l k m : Nat} {r o ps : List Cq} {n : Cq} {V0 V3 V4 v7 v8 : Lv}
def rsO : Sms := (b_row_rest.nth 3).body
def rsI : Sms := (rsO.nth 2).body
def enN (i : Nat) : List D → List D
  | [] => [] | d :: ds => .tup [.int (i : Nat), d] :: enN (i + 1) ds
theorem rs_in {s : Nat} (hr : ∀ c ∈ r, hb K c) (hp : ∀ c ∈ o, hb l (n * c)) (hn : hb m n) (ho : ∀ c ∈ o, hb k c) (h1 : m + k < 4500) (h2 : K + l < 9000) (hl : s + o.length ≤ r.length) : ∀ (rest : List Cq) (j : Nat) (v7 v8 : Lv), o.drop j = rest → ∃ w7 w8, forL (fun d L S => bnd (evG G_row_rest (.tup (.cons (.nm 7) (.cons (.nm 8) .nil))) d L S) fun L2 S2 => evSs G_row_rest rsI L2 S2) (enN j (rest.map Nm)) [V0, .dat (.tup (o.map Nm)), .own ((sbR r o s n j).map Nm), V3, V4, .dat (.int (s : Nat)), .dat (Nm n), v7, v8] S =
    some ((.nx, [V0, .dat (.tup (o.map Nm)), .own ((sbR r o s n o.length).map Nm), V3, V4, .dat (.int (s : Nat)), .dat (Nm n), w7, w8]), S)
  | [], j, v7, v8, hd => by
    have hj : o.length ≤ j := by
      by_cases z : o.length ≤ j
      · exact z
      · rw [List.drop_eq_getElem_cons (by omega)] at hd; cases hd
    have e : sbR r o s n j = sbR r o s n o.length := by
      refine List.ext_getElem? fun i => ?_
      by_cases hi : i < r.length
      · rw [sbR_at hi, sbR_at hi]
        by_cases q : s ≤ i ∧ i < s + o.length
        · rw [if_pos q, if_pos (by omega)]
        · rw [if_neg q]
          by_cases q2 : s ≤ i ∧ i < s + j
          · rw [if_pos q2, cf_out (l := o) (by omega)]; refine congrArg some ?_; grind
          · rw [if_neg q2]
      · rw [List.getElem?_eq_none (by rw [sbR_len]; omega), List.getElem?_eq_none (by rw [sbR_len]; omega)]
    rw [e]
    exact ⟨v7, v8, rfl⟩
  | c :: rest, j, v7, v8, hd => by
    have hj : j < o.length := by
      by_cases z : j < o.length
      · exact z
      · rw [List.drop_eq_nil_of_le (by omega)] at hd; cases hd
    rw [List.drop_eq_getElem_cons hj] at hd
    injection hd with hd1 hd2
    have hc : c ∈ o := by rw [← hd1]; exact List.getElem_mem _
    have ec : cf o j = c := by unfold cf; rw [List.getElem?_eq_getElem hj, hd1]; rfl
    obtain ⟨w7, w8, e⟩ := rs_in (s := s) hr hp hn ho h1 h2 hl rest (j + 1) (.dat (.int (j : Nat))) (.dat (Nm c)) hd2
    refine ⟨w7, w8, ?_⟩
    have hat : (sbR r o s n j)[s + j]? = some (cf r (s + j)) := by rw [sbR_at (by omega), if_neg (by omega)]
    have hm : cf r (s + j) ∈ r := by
      unfold cf
      rw [List.getElem?_eq_getElem (show s + j < r.length by omega)]
      exact List.getElem_mem _
    have f1 := r_num_product (S := S) hn (ho c hc) h1
    have f2 := r_num_less (S := S) (hr _ hm) (hp c hc) h2
    have st : (bnd (evG G_row_rest (.tup (.cons (.nm 7) (.cons (.nm 8) .nil))) (.tup [.int (j : Nat), Nm c]) [V0, .dat (.tup (o.map Nm)), .own ((sbR r o s n j).map Nm), V3, V4, .dat (.int (s : Nat)), .dat (Nm n), v7, v8] S) fun L2 S2 => evSs G_row_rest rsI L2 S2) =
        some ((.nx, [V0, .dat (.tup (o.map Nm)), .own ((sbR r o s n (j + 1)).map Nm), V3, V4, .dat (.int (s : Nat)), .dat (Nm n), .dat (.int (j : Nat)), .dat (Nm c)]), S) := by
      have a1 : atI ((sbR r o s n j).map Nm) (((s : Nat) : Int) + ((j : Nat) : Int)) = some (Nm (cf r (s + j))) := by
        rw [show ((s : Nat) : Int) + ((j : Nat) : Int) = ((s + j : Nat) : Int) by omega, atI_natE, List.getElem?_map, hat]; rfl
      have a2 : ixN ((sbR r o s n j).map Nm).length (((s : Nat) : Int) + ((j : Nat) : Int)) = some (s + j) := by
        rw [List.length_map, sbR_len, show ((s : Nat) : Int) + ((j : Nat) : Int) = ((s + j : Nat) : Int) by omega]
        unfold ixN
        have : s + j < r.length := by omega
        rw [if_pos (by omega)]
        simp
        omega
      have a3 : ((sbR r o s n j).map Nm).set (s + j) (Nm (cf r (s + j) - n * c)) = (sbR r o s n (j + 1)).map Nm := by
        rw [← List.map_set, ← ec, sbR_S (by omega)]
      have ixb : ∀ (xs : List D) (i : Int), ixV (.b xs) (.d (.int i)) S = atI xs i := fun _ _ => rfl
      generalize (sbR r o s n j).map Nm = XS at *
      generalize (sbR r o s n (j + 1)).map Nm = YS at *
      generalize ((s : Nat) : Int) = si at *
      generalize ((j : Nat) : Int) = ji at *
      simp [rsI, rsO, b_row_rest, Sms.nth, Sm.body, G_row_rest, e_num_less_2, e_num_product_2, pick, a1, a2, ixb, f1, f2, a3]
    show forL _ (D.tup [.int ((j : Nat) : Int), Nm c] :: enN (j + 1) (rest.map Nm)) _ _ = _
    rw [forL_cons, st, bnd_some]
    exact e
end
end W

set_option Elab.async false
set_option linter.all false
set_option autoImplicit false
set_option maxRecDepth 100000
set_option maxHeartbeats 2000000
namespace PD
open PySem PySem.Spec PyProof.Rows L2
theorem last_neg {xs : List Cq} (h : xs ≠ []) : atI (xs.map Nm) (-1) = some (Nm (xs.getLastD 0)) := by
  have hl : 0 < xs.length := List.length_pos_iff.mpr h
  unfold atI ixN
  rw [List.length_map, if_neg (by decide), if_pos (by omega)]
  show (xs.map Nm)[((-1 : Int) + (xs.length : Nat)).toNat]? = _
  rw [show ((-1 : Int) + (xs.length : Nat)).toNat = xs.length - 1 by omega, List.getElem?_map, last_cf h]
  unfold cf
  rw [List.getElem?_eq_getElem (by omega)]; rfl
/-- s - 1 down to 0 -/
def dsc : Nat → List D
  | 0 => [] | s + 1 => .int (s : Nat) :: dsc s
theorem dsc_eq : ∀ s : Nat, ((List.range s).map fun i => D.int (((s : Nat) : Int) - 1 + (i : Nat) * (-1))) = dsc s
  | 0 => rfl
  | s + 1 => by
    rw [List.range_succ_eq_map, List.map_cons, List.map_map]
    show D.int _ :: _ = D.int (s : Nat) :: dsc s
    rw [← dsc_eq s]
    refine congr (congrArg List.cons (congrArg D.int (by omega))) (List.map_congr_left fun i _ => ?_)
    show D.int _ = D.int _
    refine congrArg D.int ?_
    show ((s + 1 : Nat) : Int) - 1 + ((i + 1 : Nat) : Int) * (-1) = ((s : Nat) : Int) - 1 + (i : Nat) * (-1)
    omega
end PD
namespace W
open PySem PySem.Spec PyProof.Rows L2 PD
section
variable {S : Store} {l : Nat} {o : List Cq} {V0 : Lv}
theorem enN_eq (ds : List D) : enumD ds = enN 0 ds := by
  have : ∀ (ds : List D) (i : Nat), ds.mapIdx (fun j d => D.tup [.int ((i + j : Nat) : Int), d]) = enN i ds := by
    intro ds
    induction ds with
    | nil => intro i; rfl
    | cons d ds ih =>
      intro i
      rw [List.mapIdx_cons]
      show D.tup [.int ((i + 0 : Nat) : Int), d] :: _ = D.tup [.int (i : Nat), d] :: enN (i + 1) ds
      rw [Nat.add_zero, ← ih (i + 1)]
      refine congrArg _ (congrArg (fun f => List.mapIdx f ds) (funext fun j => funext fun d => ?_))
      rw [show i + (j + 1) = i + 1 + j by omega]
  unfold enumD
  rw [← this ds 0]
  refine congrArg (fun f => List.mapIdx f ds) (funext fun j => funext fun d => ?_)
  rw [Nat.zero_add]
theorem rs_out {d : Nat} (ho : o.length = d + 1) (h0 : o.getLastD 0 ≠ 0) (hl : RtR l o) : ∀ (s k : Nat) (r f : List Cq) (v5 v6 v7 v8 : Lv), r.length = s + d → RtR k r → k + s * (l + 2) ≤ 749 → l ≤ 749 → f.length + s ≤ 100 → ∃ w5 w6 w7 w8, forL (fun d L S => bnd (evG G_row_rest (.nm 5) d L S) fun L2 S2 => evSs G_row_rest rsO L2 S2) (dsc s) [V0, .dat (.tup (o.map Nm)), .own (r.map Nm), .dat (.lst (f.map Nm)), .dat (Nm (1 / o.getLastD 0)), v5, v6, v7, v8] S =
    some ((.nx, [V0, .dat (.tup (o.map Nm)), .own ((rrF o s (r, f)).1.map Nm), .dat (.lst ((rrF o s (r, f)).2.map Nm)), .dat (Nm (1 / o.getLastD 0)), w5, w6, w7, w8]), S)
  | 0, k, r, f, v5, v6, v7, v8, _, _, _, _, _ => ⟨v5, v6, v7, v8, rfl⟩
  | s + 1, k, r, f, v5, v6, v7, v8, hr, hk, hs, hl2, hf => by
    have hs' : k + l + 2 + s * (l + 2) ≤ 749 := by rw [Nat.succ_mul] at hs; omega
    have hkl : k + l + 2 ≤ 749 := by omega
    have rne : r ≠ [] := fun e => by rw [e] at hr; simp at hr; omega
    have hlast : r.getLastD 0 ∈ r := by
      rw [last_cf rne]
      unfold cf
      rw [List.getElem?_eq_getElem (show r.length - 1 < r.length by have := List.length_pos_iff.mpr rne; omega)]
      exact List.getElem_mem _
    have f1 := r_num_product (S := S) (hk.hb hlast) (rt_hb (inv_rt hl h0)) (by omega)
    obtain ⟨u7, u8, e1⟩ := rs_in (S := S) (V0 := V0) (V3 := .dat (.lst ((nmR r o :: f).map Nm))) (V4 := .dat (Nm (1 / o.getLastD 0))) (n := nmR r o) (s := s) (fun c hc => hk.hb hc) (fun c hc => rt_hb (nm_prod hk hl h0 hc)) (rt_hb (nm_rt hk hl h0)) (fun c hc => hl.hb hc) (by omega) (by omega) (by omega) o 0 v7 v8 rfl
    rw [sbR_0, ← enN_eq] at e1
    obtain ⟨w5, w6, w7, w8, e2⟩ := rs_out ho h0 hl s (k + l + 2) (elR r o s (nmR r o)) (nmR r o :: f) (.dat (.int (s : Nat))) (.dat (Nm (nmR r o))) u7 u8 (by rw [elR_len]; omega) (el_rt hk hl h0 s) hs' hl2 (by rw [List.length_cons]; omega)
    refine ⟨w5, w6, w7, w8, ?_⟩
    have hbd : rsO = .cons (.asg (.nm 6) (.call 1 (.cons (.ix (.nm 2) (.neg (.lit (.int 1)))) (.cons (.nm 4) .nil)) .nil)) (.cons (.asg (.nm 3) (.fr (.disp (.cons (.nm 6) (.star (.nm 3) .nil))))) (.cons (.for_ (.tup (.cons (.nm 7) (.cons (.nm 8) .nil))) (.enum (.nm 1)) rsI) (.cons (.pop 2) .nil))) := rfl
    have s1 : evS G_row_rest (.asg (.nm 6) (.call 1 (.cons (.ix (.nm 2) (.neg (.lit (.int 1)))) (.cons (.nm 4) .nil)) .nil)) [V0, .dat (.tup (o.map Nm)), .own (r.map Nm), .dat (.lst (f.map Nm)), .dat (Nm (1 / o.getLastD 0)), .dat (.int (s : Nat)), v6, v7, v8] S = some ((.nx, [V0, .dat (.tup (o.map Nm)), .own (r.map Nm), .dat (.lst (f.map Nm)), .dat (Nm (1 / o.getLastD 0)), .dat (.int (s : Nat)), .dat (Nm (nmR r o)), v7, v8]), S) := by
      have a := last_neg rne
      have ixb : ∀ (xs : List D) (i : Int), ixV (.b xs) (.d (.int i)) S = atI xs i := fun _ _ => rfl
      have f1 : runF G_num_product 11 b_num_product [Nm (r.getLastD 0), Nm (1 / o.getLastD 0)] S = some (Nm (nmR r o), S) := f1
      generalize Nm (r.getLastD 0) = A at *
      generalize Nm (1 / o.getLastD 0) = B at *
      generalize r.map Nm = XS at *
      simp [G_row_rest, e_num_product_2, pick, ixb, a, f1]
    have s2 : evS G_row_rest (.asg (.nm 3) (.fr (.disp (.cons (.nm 6) (.star (.nm 3) .nil))))) [V0, .dat (.tup (o.map Nm)), .own (r.map Nm), .dat (.lst (f.map Nm)), .dat (Nm (1 / o.getLastD 0)), .dat (.int (s : Nat)), .dat (Nm (nmR r o)), v7, v8] S = some ((.nx, [V0, .dat (.tup (o.map Nm)), .own (r.map Nm), .dat (.lst ((nmR r o :: f).map Nm)), .dat (Nm (1 / o.getLastD 0)), .dat (.int (s : Nat)), .dat (Nm (nmR r o)), v7, v8]), S) := by
      have hl : (f.map Nm).length ≤ 100000 := by rw [List.length_map]; omega
      have um : ∀ ds : List D, unVs (ds.map Va.d) = some ds := by
        intro ds
        induction ds with
        | nil => rfl
        | cons d ds ih => rw [List.map_cons, unVs_cons, ih]
      rw [List.map_cons]
      generalize f.map Nm = FS at *
      simp [hl, um]
    have cw : evW G_row_rest (.enum (.nm 1)) [V0, .dat (.tup (o.map Nm)), .own (r.map Nm), .dat (.lst ((nmR r o :: f).map Nm)), .dat (Nm (1 / o.getLastD 0)), .dat (.int (s : Nat)), .dat (Nm (nmR r o)), v7, v8] S = some (enumD (o.map Nm), S) := rfl
    have s4 : evS G_row_rest (.pop 2) [V0, .dat (.tup (o.map Nm)), .own ((sbR r o s (nmR r o) o.length).map Nm), .dat (.lst ((nmR r o :: f).map Nm)), .dat (Nm (1 / o.getLastD 0)), .dat (.int (s : Nat)), .dat (Nm (nmR r o)), u7, u8] S = some ((.nx, [V0, .dat (.tup (o.map Nm)), .own ((elR r o s (nmR r o)).map Nm), .dat (.lst ((nmR r o :: f).map Nm)), .dat (Nm (1 / o.getLastD 0)), .dat (.int (s : Nat)), .dat (Nm (nmR r o)), u7, u8]), S) := by
      rw [← sbR_end (d := d) (by omega) ho, List.map_dropLast]
      have ne : (sbR r o s (nmR r o) o.length).map Nm ≠ [] := fun e => by
        have := congrArg List.length e
        rw [List.length_map, sbR_len] at this
        exact rne (List.length_eq_zero_iff.mp this)
      generalize (sbR r o s (nmR r o) o.length).map Nm = XS at *
      cases XS with
      | nil => exact absurd rfl ne
      | cons x xs => rfl
    have st : (bnd (evG G_row_rest (.nm 5) (.int (s : Nat)) [V0, .dat (.tup (o.map Nm)), .own (r.map Nm), .dat (.lst (f.map Nm)), .dat (Nm (1 / o.getLastD 0)), v5, v6, v7, v8] S) fun L2 S2 => evSs G_row_rest rsO L2 S2) = some ((.nx, [V0, .dat (.tup (o.map Nm)), .own ((elR r o s (nmR r o)).map Nm), .dat (.lst ((nmR r o :: f).map Nm)), .dat (Nm (1 / o.getLastD 0)), .dat (.int (s : Nat)), .dat (Nm (nmR r o)), u7, u8]), S) := by
      rw [evG_nm, bnd_some, hbd]
      exact st_nx s1 (st_nx s2 (st_nx (ev_for rfl cw e1) (st_nx s4 rfl)))
    show forL _ (D.int (s : Nat) :: dsc s) _ _ = _
    rw [forL_cons, st, bnd_some]
    exact e2
end
end W

set_option Elab.async false
set_option linter.all false
set_option autoImplicit false
set_option maxRecDepth 100000
set_option maxHeartbeats 2000000
namespace W
open PySem PySem.Spec PyProof.Rows L2 PD
section
variable {S : Store} {k l : Nat} {one two : List Cq}
theorem rs_walk {m : Nat} (hm : m ≤ 1000) {n : Nat} (hn : n ≤ 1000) (h1 : 1 ≤ n) {L : PD.Loc} {e1 e2 : Xp} (a : evX G_row_rest e1 L S = some (.d (.int (m : Nat)), S)) (b : evX G_row_rest e2 L S = some (.d (.int (n : Nat)), S)) :
    evW G_row_rest (.range3 (.bin .sub e1 e2) (.neg (.lit (.int 1))) (.neg (.lit (.int 1)))) L S = some (dsc (m - (n - 1)), S) := by
  have c1 : evX G_row_rest (.bin .sub e1 e2) L S = some (.d (.int ((m : Nat) - (n : Nat))), S) := by rw [evX_bin, a, bnd_some, b, bnd_some]; rfl
  have c2 : evX G_row_rest (.neg (.lit (.int 1))) L S = some (.d (.int (-1)), S) := rfl
  have p62 : (1001 : Int) < 2 ^ 62 := by decide
  rw [evW_range3, c1, bnd_some, c2, bnd_some, c2, bnd_some]
  show lft (if (-1 : Int) = -1 ∧ (-1 : Int) < 2 ^ 62 ∧ -(2 ^ 62) ≤ (-1 : Int) ∧ ((m : Nat) : Int) - (n : Nat) < 2 ^ 62 ∧ -(2 ^ 62) ≤ ((m : Nat) : Int) - (n : Nat) then some ((List.range (((m : Nat) : Int) - (n : Nat) - (-1)).toNat).map fun i => D.int (((m : Nat) : Int) - (n : Nat) + (i : Nat) * (-1))) else none) S = _
  rw [if_pos ⟨rfl, by decide, by decide, by omega, by omega⟩, ← dsc_eq]
  have e : (((m : Nat) : Int) - (n : Nat) - (-1)).toNat = m - (n - 1) := by omega
  rw [e]
  refine congrArg (fun x => some (x, S)) (List.map_congr_left fun i hi => ?_)
  have := List.mem_range.mp hi
  refine congrArg D.int ?_
  omega
theorem r_row_rest (t0 : two ≠ []) (h0 : two.getLastD 0 ≠ 0) (hk : RtR k one) (hl : RtR l two) (hs : k + (one.length - (two.length - 1)) * (l + 2) ≤ 749) (hl2 : l ≤ 749) (l1 : one.length ≤ 50) (l2 : two.length ≤ 50) :
    runF G_row_rest 9 b_row_rest [.tup (one.map Nm), .tup (two.map Nm)] S = some (.tup [.tup ((trimN (rrF two (one.length - (two.length - 1)) (one, [])).2).map Nm), .tup ((trimN (rrF two (one.length - (two.length - 1)) (one, [])).1).map Nm)], S) := by
  have tl : 1 ≤ two.length := List.length_pos_iff.mpr t0
  have hlast : two.getLastD 0 ∈ two := by
    rw [last_cf t0]
    unfold cf
    rw [List.getElem?_eq_getElem (show two.length - 1 < two.length by omega)]
    exact List.getElem_mem _
  have f1 := r_num_over (S := S) hb_1 (hl.hb hlast) h0 (by omega)
  rw [show Nm (1 : Cq) = _ from Nm_c1] at f1
  have a := last_neg t0
  have ex : ∃ w5 w6 w7 w8, forL (fun d L S => bnd (evG G_row_rest (.nm 5) d L S) fun L2 S2 => evSs G_row_rest rsO L2 S2) (dsc (one.length - (two.length - 1))) [.dat (.tup (one.map Nm)), .dat (.tup (two.map Nm)), .own (one.map Nm), .dat (.lst (([] : List Cq).map Nm)), .dat (Nm (1 / two.getLastD 0)), .un, .un, .un, .un] S =
      some ((.nx, [.dat (.tup (one.map Nm)), .dat (.tup (two.map Nm)), .own ((rrF two (one.length - (two.length - 1)) (one, [])).1.map Nm), .dat (.lst ((rrF two (one.length - (two.length - 1)) (one, [])).2.map Nm)), .dat (Nm (1 / two.getLastD 0)), w5, w6, w7, w8]), S) := by
    by_cases h : two.length - 1 ≤ one.length
    · exact rs_out (d := two.length - 1) (by omega) h0 hl (one.length - (two.length - 1)) k one [] .un .un .un .un (by omega) hk hs hl2 (by rw [List.length_nil]; omega)
    · rw [show one.length - (two.length - 1) = 0 by omega]
      exact ⟨.un, .un, .un, .un, rfl⟩
  obtain ⟨w5, w6, w7, w8, e⟩ := ex
  have cw := rs_walk (S := S) (m := one.length) (by omega) (n := two.length) (by omega) tl (L := [.dat (.tup (one.map Nm)), .dat (.tup (two.map Nm)), .own (one.map Nm), .dat (.lst (([] : List Cq).map Nm)), .dat (Nm (1 / two.getLastD 0)), .un, .un, .un, .un]) (e1 := .bi .len (.cons (.nm 0) .nil)) (e2 := .bi .len (.cons (.nm 1) .nil)) (by simp) (by simp)
  have t1 := r_row_trimmed (S := S) (ps := (rrF two (one.length - (two.length - 1)) (one, [])).2)
  have t2 := r_row_trimmed (S := S) (ps := (rrF two (one.length - (two.length - 1)) (one, [])).1)
  have go : evSs G_row_rest b_row_rest [.dat (.tup (one.map Nm)), .dat (.tup (two.map Nm)), .un, .un, .un, .un, .un, .un, .un] S = some ((.ret (.tup [.tup ((trimN (rrF two (one.length - (two.length - 1)) (one, [])).2).map Nm), .tup ((trimN (rrF two (one.length - (two.length - 1)) (one, [])).1).map Nm)]), [.dat (.tup (one.map Nm)), .dat (.tup (two.map Nm)), .dat (.lst ((rrF two (one.length - (two.length - 1)) (one, [])).1.map Nm)), .dat (.lst ((rrF two (one.length - (two.length - 1)) (one, [])).2.map Nm)), .dat (Nm (1 / two.getLastD 0)), w5, w6, w7, w8]), S) := by
    have hbd : b_row_rest = .cons (.own 2 (.list (.nm 0))) (.cons (.asg (.nm 3) (.fr (.disp .nil))) (.cons (.asg (.nm 4) (.call 0 (.cons (.gc 0) (.cons (.ix (.nm 1) (.neg (.lit (.int 1)))) .nil)) .nil)) (.cons (.for_ (.nm 5) (.range3 (.bin .sub (.bi .len (.cons (.nm 0) .nil)) (.bi .len (.cons (.nm 1) .nil))) (.neg (.lit (.int 1))) (.neg (.lit (.int 1)))) rsO) (.cons (.fz 2) (.cons (.ret (.tup (.cons (.call 3 (.cons (.nm 3) .nil) .nil) (.cons (.call 3 (.cons (.nm 2) .nil) .nil) .nil)))) .nil))))) := rfl
    rw [hbd]
    refine st_nx (L2 := [.dat (.tup (one.map Nm)), .dat (.tup (two.map Nm)), .own (one.map Nm), .un, .un, .un, .un, .un, .un]) (S2 := S) rfl ?_
    refine st_nx (L2 := [.dat (.tup (one.map Nm)), .dat (.tup (two.map Nm)), .own (one.map Nm), .dat (.lst (([] : List Cq).map Nm)), .un, .un, .un, .un, .un]) (S2 := S) rfl ?_
    refine st_nx (L2 := [.dat (.tup (one.map Nm)), .dat (.tup (two.map Nm)), .own (one.map Nm), .dat (.lst (([] : List Cq).map Nm)), .dat (Nm (1 / two.getLastD 0)), .un, .un, .un, .un]) (S2 := S) ?_ ?_
    · clear e cw hlast h0
      generalize two.getLastD 0 = W at *
      generalize two.map Nm = TS at *
      generalize one.map Nm = OS at *
      simp [G_row_rest, e_num_over_2, c_ONE, pick, a, f1]
    refine st_nx (ev_for rfl cw e) ?_
    refine st_nx (L2 := [.dat (.tup (one.map Nm)), .dat (.tup (two.map Nm)), .dat (.lst ((rrF two (one.length - (two.length - 1)) (one, [])).1.map Nm)), .dat (.lst ((rrF two (one.length - (two.length - 1)) (one, [])).2.map Nm)), .dat (Nm (1 / two.getLastD 0)), w5, w6, w7, w8]) (S2 := S) rfl ?_
    generalize (rrF two (one.length - (two.length - 1)) (one, [])).1.map Nm = AS at *
    generalize (rrF two (one.length - (two.length - 1)) (one, [])).2.map Nm = BS at *
    simp [G_row_rest, e_row_trimmed_1, pick, t1, t2]
  rw [runF_eq]
  show bnd (evSs G_row_rest b_row_rest [.dat (.tup (one.map Nm)), .dat (.tup (two.map Nm)), .un, .un, .un, .un, .un, .un, .un] S) _ = _
  rw [go]
  rfl
end
end W

set_option Elab.async false
set_option linter.all false
set_option autoImplicit false
set_option maxRecDepth 100000
set_option maxHeartbeats 2000000
namespace W
open PySem PySem.Spec PyProof.Rows L2 PD
section
variable {S : Store} {k l : Nat} {one two r res : List Cq}
theorem cmp_nilr : cmpV .eq (.d (.tup (r.map Nm))) (.d (.tup [])) = some (decide (r = [])) := by
  have e1 := eqOk_row r
  have e2 := eqOk_row []
  show (if eqOk (.tup (r.map Nm)) && eqOk (.tup []) then some (eqD (.tup (r.map Nm)) (.tup [])) else none) = _
  rw [e1]
  have e2 : eqOk (.tup []) = true := e2
  rw [e2]
  show some (eqD (.tup (r.map Nm)) (.tup [])) = _
  cases r with
  | nil => rfl
  | cons c cs =>
    rw [List.map_cons, eqD_TN]
    rfl
theorem cmpn_nilr : cmpV .ne (.d (.tup (r.map Nm))) (.d (.tup [])) = some (!decide (r = [])) := by
  have e1 := eqOk_row r
  have e2 : eqOk (.tup []) = true := eqOk_row []
  show (if eqOk (.tup (r.map Nm)) && eqOk (.tup []) then some (!eqD (.tup (r.map Nm)) (.tup [])) else none) = _
  rw [e1, e2]
  show some (!eqD (.tup (r.map Nm)) (.tup [])) = _
  cases r with
  | nil => rfl
  | cons c cs =>
    rw [List.map_cons, eqD_TN]
    rfl
theorem r_row_last_one (hok : lastOk r) (hk : RtR k r) (hk2 : k ≤ 749) (hl : r.length ≤ 50) : runF G_row_last_one 1 b_row_last_one [.tup (r.map Nm)] S = some (.tup ((monL r).map Nm), S) := by
  by_cases h : r = []
  · subst h
    have c : cmpV .eq (.d (.tup [])) (.d (.tup [])) = some true := cmp_nilr (r := [])
    rw [runF_eq]
    simp [b_row_last_one, c, monL]
  · have h0 := getLastD_ne hok h
    have hlast : r.getLastD 0 ∈ r := by
      rw [last_cf h]
      unfold cf
      rw [List.getElem?_eq_getElem (show r.length - 1 < r.length by have := List.length_pos_iff.mpr h; omega)]
      exact List.getElem_mem _
    have f1 := r_num_over (S := S) hb_1 (hk.hb hlast) h0 (by omega)
    rw [show Nm (1 : Cq) = _ from Nm_c1] at f1
    have f2 := r_row_scaled (S := S) (X := .tup (r.map Nm)) (ps := r) (.inl rfl) (fun c hc => hk.hb hc) (rt_hb (inv_rt hk h0)) (by omega) (Nat.lt_of_le_of_lt hl (by decide))
    have tm : trimN (r.map (· * (1 / r.getLastD 0))) = monL r := trim_ok (monL_last hok h).2.1
    rw [tm] at f2
    have a := last_neg h
    have c := cmp_nilr (r := r)
    rw [decide_eq_false h] at c
    clear tm hlast h0
    generalize r.getLastD 0 = W at *
    generalize r.map Nm = RS at *
    generalize (monL r).map Nm = MS at *
    rw [runF_eq]
    simp [b_row_last_one, G_row_last_one, e_row_scaled_2, e_num_over_2, c_ONE, pick, a, c, f1, f2]
end
end W

set_option Elab.async false
set_option linter.all false
set_option autoImplicit false
set_option maxRecDepth 100000
set_option maxHeartbeats 2000000
namespace W
open PySem PySem.Spec PyProof.Rows L2 PD
section
variable {S : Store} {k l : Nat} {one two r res : List Cq} {v0 v1 : Lv}
theorem rr_len (o : List Cq) : ∀ (s : Nat) (r f : List Cq), (rrF o s (r, f)).1.length ≤ r.length
  | 0, r, f => Nat.le_refl _
  | s + 1, r, f => by
    have := rr_len o s (elR r o s (nmR r o)) (nmR r o :: f)
    rw [elR_len] at this
    show (rrF o s (elR r o s (nmR r o), nmR r o :: f)).1.length ≤ _
    omega
theorem dv_loop (h : EuRun one two res) : one.length ≤ 50 → two.length ≤ 50 → evS G_row_divisor (b_row_divisor.nth 1) [v0, v1, .dat (.tup (one.map Nm)), .dat (.tup (two.map Nm))] S = some ((.nx, [v0, v1, .dat (.tup (res.map Nm)), .dat (.tup [])]), S) := by
  have hbd : b_row_divisor.nth 1 = .wh (.cmp .ne (.nm 3) (.tup .nil)) (.cons (.par [2, 3] (.cons (.nm 3) (.cons (.call 0 (.cons (.ix (.call 1 (.cons (.nm 2) (.cons (.nm 3) .nil)) .nil) (.lit (.int 1))) .nil) .nil) .nil))) .nil) := rfl
  rw [hbd]
  induction h with
  | done one =>
    intro _ _
    refine wh_stop (S1 := S) ?_
    have c := cmpn_nilr (r := [])
    have c : cmpV .ne (.d (.tup [])) (.d (.tup [])) = some false := c
    simp [c]
  | go one two rest res k l t0 m1 hk hl hs hl2 hr hn ih =>
    intro l1 l2
    have h0 : two.getLastD 0 ≠ 0 := by rw [m1]; decide +kernel
    have tl : 1 ≤ two.length := List.length_pos_iff.mpr t0
    obtain ⟨z1, _⟩ := rr_rt hl h0 (one.length - (two.length - 1)) k one [] hk
    have e : trimN (rrF two (one.length - (two.length - 1)) (one, [])).1 = rest := lastOk_ext lastOk_trimN hr.1 fun i => (cf_trim i).trans (hr.2 i).symm
    have zr : RtR (k + (one.length - (two.length - 1)) * (l + 2)) rest := by
      rw [← e]
      exact z1.sub fun c hc => List.mem_of_mem_take hc
    have rl : rest.length ≤ 50 := by
      refine Nat.le_trans (lastOk_len hr.1 (n := (rrF two (one.length - (two.length - 1)) (one, [])).1.length) ?_) (Nat.le_trans (rr_len _ _ _ _) l1)
      rw [funext hr.2]
      exact dg_cf _
    have f1 := r_row_rest (S := S) t0 h0 hk hl hs hl2 l1 l2
    rw [e] at f1
    have f2 := r_row_last_one (S := S) hr.1 zr hs rl
    have c := cmpn_nilr (r := two)
    rw [decide_eq_false t0] at c
    have ml : (monL rest).length = rest.length := List.length_map _
    refine (wh_go (S1 := S) (L2 := [v0, v1, .dat (.tup (two.map Nm)), .dat (.tup ((monL rest).map Nm))]) (S2 := S) ?_ ?_).trans (ih l2 (by omega))
    · generalize two.map Nm = TS at *
      simp [c]
    · generalize two.map Nm = TS at *
      generalize one.map Nm = OS at *
      generalize rest.map Nm = RS at *
      generalize (monL rest).map Nm = MS at *
      simp [G_row_divisor, e_row_last_one_1, e_row_rest_2, pick, f1, f2]
end
end W

set_option Elab.async false
set_option linter.all false
set_option autoImplicit false
set_option maxRecDepth 100000
set_option maxHeartbeats 2000000
namespace W
open PySem PySem.Spec PyProof.Rows L2 PD
section
variable {S : Store} {k l : Nat} {one two r res : List Cq}
theorem r_row_divisor (o1 : lastOk one) (o2 : lastOk two) (h1 : RtR k one) (h2 : RtR l two) (hk : k ≤ 749) (hl : l ≤ 749) (l1 : one.length ≤ 50) (l2 : two.length ≤ 50) (h : EuRun (monL one) (monL two) res) : runF G_row_divisor 4 b_row_divisor [.tup (one.map Nm), .tup (two.map Nm)] S = some (.tup (res.map Nm), S) := by
  have f1 := r_row_last_one (S := S) o1 h1 hk l1
  have f2 := r_row_last_one (S := S) o2 h2 hl l2
  have lm : ∀ r : List Cq, (monL r).length = r.length := fun r => List.length_map _
  have e := dv_loop (S := S) (v0 := .dat (.tup (one.map Nm))) (v1 := .dat (.tup (two.map Nm))) h (by rw [lm]; exact l1) (by rw [lm]; exact l2)
  have hbd : b_row_divisor = .cons (.par [2, 3] (.cons (.call 0 (.cons (.nm 0) .nil) .nil) (.cons (.call 0 (.cons (.nm 1) .nil) .nil) .nil))) (.cons (b_row_divisor.nth 1) (.cons (.ret (.nm 2)) .nil)) := rfl
  have go : evSs G_row_divisor b_row_divisor [.dat (.tup (one.map Nm)), .dat (.tup (two.map Nm)), .un, .un] S = some ((.ret (.tup (res.map Nm)), [.dat (.tup (one.map Nm)), .dat (.tup (two.map Nm)), .dat (.tup (res.map Nm)), .dat (.tup [])]), S) := by
    rw [hbd]
    refine st_nx (L2 := [.dat (.tup (one.map Nm)), .dat (.tup (two.map Nm)), .dat (.tup ((monL one).map Nm)), .dat (.tup ((monL two).map Nm))]) (S2 := S) ?_ (st_nx e rfl)
    generalize one.map Nm = OS at *
    generalize two.map Nm = TS at *
    generalize (monL one).map Nm = MO at *
    generalize (monL two).map Nm = MT' at *
    simp [G_row_divisor, e_row_last_one_1, pick, f1, f2]
  rw [runF_eq]
  show bnd (evSs G_row_divisor b_row_divisor [.dat (.tup (one.map Nm)), .dat (.tup (two.map Nm)), .un, .un] S) _ = _
  rw [go]
  rfl
theorem r_row_common (o1 : lastOk one) (o2 : lastOk two) (h1 : RtR k one) (h2 : RtR l two) (hk : k ≤ 749) (hl : l ≤ 749) (l1 : one.length ≤ 50) (l2 : two.length ≤ 50) (h : EuRun (monL one) (monL two) res) : runF G_row_common 2 b_row_common [.tup (one.map Nm), .tup (two.map Nm)] S = some (.tup (res.map Nm), S) := by
  have c1 := r_check_row (S := S) o1 (Nat.lt_of_le_of_lt l1 (by decide))
  have c2 := r_check_row (S := S) o2 (Nat.lt_of_le_of_lt l2 (by decide))
  have d := r_row_divisor (S := S) o1 o2 h1 h2 hk hl l1 l2 h
  generalize one.map Nm = OS at *
  generalize two.map Nm = TS at *
  generalize res.map Nm = RS at *
  rw [runF_eq]
  simp [b_row_common, G_row_common, e_check_row_1, e_row_divisor_2, pick, c1, c2, d]
theorem r_row_divided (o1 : lastOk one) (o2 : lastOk two) (t0 : two ≠ []) (hk : RtR k one) (hl : RtR l two) (hs : k + (one.length - (two.length - 1)) * (l + 2) ≤ 749) (hl2 : l ≤ 749) (l1 : one.length ≤ 50) (l2 : two.length ≤ 50) :
    runF G_row_divided 2 b_row_divided [.tup (one.map Nm), .tup (two.map Nm)] S = some (.tup [.tup ((trimN (rrF two (one.length - (two.length - 1)) (one, [])).2).map Nm), .tup ((trimN (rrF two (one.length - (two.length - 1)) (one, [])).1).map Nm)], S) := by
  have c1 := r_check_row (S := S) o1 (Nat.lt_of_le_of_lt l1 (by decide))
  have c2 := r_check_row (S := S) o2 (Nat.lt_of_le_of_lt l2 (by decide))
  have d := r_row_rest (S := S) t0 (getLastD_ne o2 t0) hk hl hs hl2 l1 l2
  have c := cmp_nilr (r := two)
  rw [decide_eq_false t0] at c
  generalize one.map Nm = OS at *
  generalize two.map Nm = TS at *
  rw [runF_eq]
  simp [b_row_divided, G_row_divided, e_check_row_1, e_row_rest_2, pick, c, c1, c2, d]
end
end W

set_option Elab.async false
set_option linter.all false
set_option autoImplicit false
set_option maxRecDepth 100000
set_option maxHeartbeats 2000000
namespace W
open PySem PySem.Spec PyProof.Rows L2 PD
section
variable {S : Store} {i j k l m n c : Nat} {p q u : Cq} {ps qs cs ds : List Cq} {M : List (List Cq)} {X Y : D} {A : Lv}
theorem comp_nm {α : Type} {G : Gam} {elt : Xp} {t : Nat} {w : Wk} {own : List Nat} {L : PD.Loc} {S S1 : Store} {as : List α} {g f : α → D} (hw : evW G w L S = some (as.map g, S1)) (hl : as.length ≤ 1000) (h : ∀ a ∈ as, evX G elt ((wipeL L own).set t (.dat (g a))) S1 = some (.d (f a), S1)) :
    evF G (.comp elt (.nm t) w .none own) L S = some (as.map f, S1) := by
  rw [evF_comp, hw, bnd_some, List.length_map, if_pos (lt_line hl)]
  refine compL_map as fun a ha => ?_
  rw [evG_nm, bnd_some, evC_none, bnd_some, if_pos rfl, h a ha]
  rfl
theorem en_nx {G : Gam} {s : Sm} {ss : Sms} {L L2 : PD.Loc} {S S2 S' : Store} {d : D} (h : evS G s L S = some ((.nx, L2), S2)) (t : ∃ L', evSs G ss L2 S2 = some ((.ret d, L'), S')) : ∃ L', evSs G (.cons s ss) L S = some ((.ret d, L'), S') := by
  obtain ⟨L', t⟩ := t
  exact ⟨L', st_nx h t⟩
theorem en_ret {G : Gam} {s : Sm} {ss : Sms} {L L2 : PD.Loc} {S S2 : Store} {d : D} (h : evS G s L S = some ((.ret d, L2), S2)) : ∃ L', evSs G (.cons s ss) L S = some ((.ret d, L'), S2) := ⟨L2, st_ret h⟩
theorem run_en {G : Gam} {n : Nat} {b : Sms} {args : List D} {S S' : Store} {d : D} (h : ∃ L', evSs G b (args.map .dat ++ List.replicate (n - args.length) .un) S = some ((.ret d, L'), S')) : runF G n b args S = some (d, S') := by
  obtain ⟨L', h⟩ := h
  rw [runF_eq, h]
  rfl
theorem call1 {G G' : Gam} {j m : Nat} {nm : Str} {b : Sms} {e1 : Xp} {L : PD.Loc} {S S1 S2 : Store} {x d : D} (hE : G.ents[j]? = some (mkEnt nm 1 [] [] [0] G' m b)) (_ : 0 = 0) (_ : 0 = 0) (h1 : evX G e1 L S = some (.d x, S1)) (hs : runF G' m b [x] S1 = some (d, S2)) : evX G (.call j (.cons e1 .nil) .nil) L S = some (.d d, S2) := by
  have hs : (mkEnt nm 1 [] [] [0] G' m b).sem [x] S1 = some (d, S2) := hs
  rw [evX_call, hE]
  simp [-mk_sem, h1, hs]
theorem call2 {G G' : Gam} {j m : Nat} {nm : Str} {b : Sms} {e1 e2 : Xp} {L : PD.Loc} {S S1 S2 S3 : Store} {x y d : D} (hE : G.ents[j]? = some (mkEnt nm 2 [] [] [0, 1] G' m b)) (_ : 0 = 0) (_ : 0 = 0) (h1 : evX G e1 L S = some (.d x, S1)) (h2 : evX G e2 L S1 = some (.d y, S2)) (hs : runF G' m b [x, y] S2 = some (d, S3)) : evX G (.call j (.cons e1 (.cons e2 .nil)) .nil) L S = some (.d d, S3) := by
  have hs : (mkEnt nm 2 [] [] [0, 1] G' m b).sem [x, y] S2 = some (d, S3) := hs
  rw [evX_call, hE]
  simp [-mk_sem, h1, h2, hs]
theorem call3 {G G' : Gam} {j m : Nat} {nm : Str} {b : Sms} {e1 e2 e3 : Xp} {L : PD.Loc} {S S1 S2 S3 S4 : Store} {x y z d : D} (hE : G.ents[j]? = some (mkEnt nm 3 [] [] [0, 1, 2] G' m b)) (_ : 0 = 0) (_ : 0 = 0) (h1 : evX G e1 L S = some (.d x, S1)) (h2 : evX G e2 L S1 = some (.d y, S2)) (h3 : evX G e3 L S2 = some (.d z, S3)) (hs : runF G' m b [x, y, z] S3 = some (d, S4)) : evX G (.call j (.cons e1 (.cons e2 (.cons e3 .nil))) .nil) L S = some (.d d, S4) := by
  have hs : (mkEnt nm 3 [] [] [0, 1, 2] G' m b).sem [x, y, z] S3 = some (d, S4) := hs
  rw [evX_call, hE]
  simp [-mk_sem, h1, h2, h3, hs]
theorem frx {G : Gam} {f : Fx} {L : PD.Loc} {S S1 : Store} {xs : List D} (h : evF G f L S = some (xs, S1)) : evX G (.fr f) L S = some (.d (.lst xs), S1) := by rw [evX_fr, h]; rfl
theorem tupx {G : Gam} {f : Fx} {L : PD.Loc} {S S1 : Store} {xs : List D} (h : evF G f L S = some (xs, S1)) : evX G (.bi .tuple (.cons (.fr f) .nil)) L S = some (.d (.tup xs), S1) := by
  rw [evX_bi, evXs_cons, frx h]; rfl
theorem run_ret {G : Gam} {n : Nat} {e : Xp} {ss : Sms} {args : List D} {S S' : Store} {d : D} (h : evX G e (args.map .dat ++ List.replicate (n - args.length) .un) S = some (.d d, S')) : runF G n (.cons (.ret e) ss) args S = some (d, S') := by
  rw [runF_eq, evSs_cons, evS_ret, h]; rfl
end
section
variable {G : Gam} {L : PD.Loc} {S S1 S2 : Store} {i j k l m n c : Nat} {p q u : Cq} {ps qs cs ds : List Cq} {M : List (List Cq)} {X Y d : D} {A : Lv} {a b : Xp}
theorem nmx {i : Nat} {d : D} (h : L[i]? = some (.dat d)) : evX G (.nm i) L S = some (.d d, S) := by rw [evX_nm, h]
theorem ixT {ds : List D} {i : Nat} (ha : evX G a L S = some (.d (.tup ds), S1)) (hb : evX G b L S1 = some (.d (.int (i : Nat)), S2)) (h : ds[i]? = some d) : evX G (.ix a b) L S = some (.d d, S2) := by
  rw [evX_ix, ha, bnd_some, hb, bnd_some, ixV_tup, atI_natE, h]; rfl
theorem ixL {ds : List D} {i : Nat} (ha : evX G a L S = some (.d (.lst ds), S1)) (hb : evX G b L S1 = some (.d (.int (i : Nat)), S2)) (h : ds[i]? = some d) : evX G (.ix a b) L S = some (.d d, S2) := by
  rw [evX_ix, ha, bnd_some, hb, bnd_some, ixV_lst, atI_natE, h]; rfl
theorem ixC {ds : List D} {i n : Nat} (ha : evX G a L S = some (.d (.cell n), S1)) (hb : evX G b L S1 = some (.d (.int (i : Nat)), S2)) (hS : S2[n]? = some ds) (h : ds[i]? = some d) : evX G (.ix a b) L S = some (.d d, S2) := by
  rw [evX_ix, ha, bnd_some, hb, bnd_some, ixV_cell, hS]
  show lft ((atI ds ((i : Nat) : Int)).map Va.d) S2 = _
  rw [atI_natE, h]; rfl
theorem lenT {ds : List D} (ha : evX G a L S = some (.d (.tup ds), S1)) : evX G (.bi .len (.cons a .nil)) L S = some (.d (.int (ds.length : Nat)), S1) := by
  rw [evX_bi, evXs_cons, ha]; rfl
theorem lenL {ds : List D} (ha : evX G a L S = some (.d (.lst ds), S1)) : evX G (.bi .len (.cons a .nil)) L S = some (.d (.int (ds.length : Nat)), S1) := by
  rw [evX_bi, evXs_cons, ha]; rfl
theorem bools_true {α : Type} (as : List α) : boolsOf (as.map fun _ => D.bl true) = some (as.map fun _ => true) := by
  induction as with
  | nil => rfl
  | cons a as ih =>
    show (match boolsOf (as.map fun _ => D.bl true) with | some l => some (true :: l) | none => none) = _
    rw [ih]; rfl
theorem allx {α : Type} {f : Fx} {as : List α} (h : evF G f L S = some (as.map fun _ => D.bl true, S1)) : evX G (.bi .all (.cons (.fr f) .nil)) L S = some (.d (.bl true), S1) := by
  rw [evX_bi, evXs_cons, frx h]
  show lft (((boolsOf (as.map fun _ => D.bl true)).map fun l => D.bl (l.all id)).map Va.d) S1 = _
  rw [bools_true]
  have : (as.map fun _ => true).all id = true := by simp
  show some (Va.d (D.bl ((as.map fun _ => true).all id)), S1) = _
  rw [this]
def enG (i : Nat) : List D → List D
  | [] => [] | d :: ds => .tup [.int (i : Nat), d] :: enG (i + 1) ds
theorem enG_at : ∀ (ds : List D) (i : Nat), ds.mapIdx (fun j d => D.tup [.int ((i + j : Nat) : Int), d]) = enG i ds
  | [], i => rfl
  | d :: ds, i => by
    rw [List.mapIdx_cons]
    show D.tup [.int ((i : Nat) : Int), d] :: _ = D.tup [.int ((i : Nat) : Int), d] :: enG (i + 1) ds
    refine congrArg _ ?_
    rw [← enG_at ds (i + 1)]
    refine congrArg (fun g => ds.mapIdx g) (funext fun j => funext fun d => ?_)
    rw [show i + (j + 1) = i + 1 + j by omega]
theorem enumD_eq (ds : List D) : enumD ds = enG 0 ds := by
  rw [← enG_at ds 0]
  unfold enumD
  refine congrArg (fun g => ds.mapIdx g) (funext fun j => funext fun d => ?_)
  rw [Nat.zero_add]
end
section
variable {G : Gam} {L : PD.Loc} {S S1 S2 : Store} {i j k l m n c : Nat} {p q u : Cq} {x : Rat} {ps qs cs ds : List Cq} {M N CS : List (List Cq)} {X Y d : D} {A : Lv} {a b : Xp}
theorem comp_zip {α β : Type} {elt : Xp} {ta tb : Nat} {w : Wk} {own : List Nat} {as : List α} {bs : List β} {g : α → D} {h : β → D} {f : α → β → D} (hw : evW G w L S = some (zipD (as.map g) (bs.map h), S1)) (hl : as.length ≤ 1000) (hh : ∀ a ∈ as, ∀ b ∈ bs, evX G elt (((wipeL L own).set ta (.dat (g a))).set tb (.dat (h b))) S1 = some (.d (f a b), S1)) :
    evF G (.comp elt (.tup (.cons (.nm ta) (.cons (.nm tb) .nil))) w .none own) L S = some (List.zipWith f as bs, S1) := by
  have hl2 : (zipD (as.map g) (bs.map h)).length ≤ 1000 := by unfold zipD; rw [List.length_zipWith, List.length_map]; omega
  rw [evF_comp, hw, bnd_some, if_pos (lt_line hl2)]
  clear hw hl hl2
  induction as generalizing bs with
  | nil => rfl
  | cons a as ih => cases bs with
    | nil => rfl
    | cons b bs =>
      show compL _ (D.tup [g a, h b] :: zipD (as.map g) (bs.map h)) S1 = some (f a b :: List.zipWith f as bs, S1)
      have st := hh a (List.mem_cons_self ..) b (List.mem_cons_self ..)
      rw [compL_cons, evG_tup, evGs_cons, evG_nm, bnd_some, evGs_cons, evG_nm, bnd_some, evGs_nil, bnd_some, evC_none, bnd_some, if_pos rfl, st, bnd_some]
      show bnd (some (some (f a b), S1)) _ = _
      rw [bnd_some, ih fun a' ha b' hb => hh a' (List.mem_cons_of_mem _ ha) b' (List.mem_cons_of_mem _ hb)]
      rfl
theorem comp_drop {elt : Xp} {t : Tg} {w : Wk} {cc : Xp} {own : List Nat} {ds : List D} (hw : evW G w L S = some (ds, S1)) (hl : ds.length ≤ 1000) (hh : ∀ d ∈ ds, ∃ L2, evG G t d (wipeL L own) S1 = some (L2, S1) ∧ evX G cc L2 S1 = some (.d (.bl false), S1)) :
    evF G (.comp elt t w (.some cc) own) L S = some ([], S1) := by
  rw [evF_comp, hw, bnd_some, if_pos (lt_line hl)]
  clear hw hl
  induction ds with
  | nil => rfl
  | cons d ds ih =>
    obtain ⟨L2, h1, h2⟩ := hh d (List.mem_cons_self ..)
    rw [compL_cons, h1, bnd_some, evC_some, h2, bnd_some]
    show bnd (bnd (some (false, S1)) _) _ = _
    rw [bnd_some, if_neg Bool.false_ne_true, bnd_some, ih fun d hd => hh d (List.mem_cons_of_mem _ hd)]
    rfl
theorem mem_enG {d : D} : ∀ {ds : List D} {i : Nat}, d ∈ enG i ds → ∃ (j : Nat) (x : D), x ∈ ds ∧ d = .tup [.int (j : Nat), x]
  | [], _, h => by cases h
  | x :: ds, i, h => by
    rcases List.mem_cons.mp h with rfl | h
    · exact ⟨i, x, List.mem_cons_self .., rfl⟩
    · obtain ⟨j, y, h1, h2⟩ := mem_enG h
      exact ⟨j, y, List.mem_cons_of_mem _ h1, h2⟩
theorem enG_len : ∀ (ds : List D) (i : Nat), (enG i ds).length = ds.length
  | [], _ => rfl
  | _ :: ds, i => by show (enG (i + 1) ds).length + 1 = _; rw [enG_len ds]; rfl
theorem cut0 {lo hi : Option Int} : PD.cutD [] lo hi = [] := by unfold PD.cutD; simp
theorem cmp_ne_nil : cmpV .ne (.d (.lst [])) (.d (.lst [])) = some false := by decide +kernel
theorem exx {e : Xp} {x : Va} (h : evX G e L S = some (x, S1)) : evS G (.ex e) L S = some ((.nx, L), S1) := by rw [evS_ex, h]; rfl
theorem retx {e : Xp} {d : D} (h : evX G e L S = some (.d d, S1)) : evS G (.ret e) L S = some ((.ret d, L), S1) := by rw [evS_ret, h]; rfl
end
section
variable {G : Gam} {L : PD.Loc} {S S1 S2 : Store} {i j k l m n c : Nat} {p q u : Cq} {x : Rat} {ps qs cs ds : List Cq} {M N CS : List (List Cq)} {X Y d : D} {A : Lv} {a b : Xp}
theorem appx {e : Xp} {d : D} {i : Nat} {xs : List D} (h : evX G e L S = some (.d d, S1)) (hL : L[i]? = some (.own xs)) (hl : xs.length ≤ 1000) : evS G (.app i e) L S = some ((.nx, L.set i (.own (xs ++ [d]))), S1) := by
  rw [evS_app, h, bnd_some, unV_d, lft_some, bnd_some, hL]
  show (if xs.length < line then some ((Fl.nx, L.set i (.own (xs ++ [d]))), S1) else none) = _
  rw [if_pos (lt_line hl)]
theorem asgx {e : Xp} {d : D} {i : Nat} (h : evX G e L S = some (.d d, S1)) : evS G (.asg (.nm i) e) L S = some ((.nx, L.set i (.dat d)), S1) := by
  rw [evS_asg, h]; rfl
end
section
variable {G : Gam} {L : PD.Loc} {S S0 S1 S2 S3 : Store} {i j k l m n N c K nn : Nat} {p q u w z : Cq} {x : Rat} {ps qs cs ms : List Cq} {M CS : List (List Cq)} {X Y d : D} {A v0 v1 v2 v3 v4 v5 v6 v7 : Lv} {a b : Xp}
theorem comp_pl {α : Type} {enc : α → D} {P : α → Prop} {turn : D → Store → Option (Option D × Store)} {w B : Nat} : ∀ (ds : List D) (S : Store) (N : Nat), (∀ d ∈ ds, ∀ S N, Pl N S nn → N ≤ B → ∃ (a : α) (S' : Store), turn d S = some (some (enc a), S') ∧ P a ∧ Pl (N + w) S' nn) → Pl N S nn → N + w * ds.length ≤ B →
    ∃ (as : List α) (S' : Store), compL turn ds S = some (as.map enc, S') ∧ (∀ a ∈ as, P a) ∧ as.length = ds.length ∧ Pl (N + w * ds.length) S' nn
  | [], S, N, _, h, _ => ⟨[], S, rfl, fun p hp => (by cases hp), rfl, h⟩
  | d :: ds, S, N, step, h, hN => by
    have e0 : w * (d :: ds).length = w + w * ds.length := by show w * (ds.length + 1) = _; rw [Nat.mul_add]; omega
    rw [e0] at hN
    obtain ⟨p, S1, e1, p1, h1⟩ := step d (List.mem_cons_self ..) S N h (by omega)
    obtain ⟨ps, S2, e2, p2, l2, h2⟩ := comp_pl ds S1 (N + w) (fun z hz => step z (List.mem_cons_of_mem _ hz)) h1 (by omega)
    refine ⟨p :: ps, S2, ?_, ?_, by simp [l2], by rw [e0]; exact h2.mono (by omega)⟩
    · rw [compL_cons, e1, bnd_some, e2, bnd_some]; rfl
    · intro z hz
      rcases List.mem_cons.mp hz with rfl | hz
      · exact p1
      · exact p2 z hz
theorem comp_dr {α : Type} {enc : α → D} {P : α → Prop} {w B t : Nat} {wk : Wk} {own : List Nat} {elt : Xp} {ds : List D} (hw : evW G wk L S = some (ds, S1)) (hl : ds.length ≤ 1000) (step : ∀ d ∈ ds, ∀ S N, Pl N S nn → N ≤ B → ∃ (a : α) (S' : Store), evX G elt ((wipeL L own).set t (.dat d)) S = some (.d (enc a), S') ∧ P a ∧ Pl (N + w) S' nn) (h : Pl N S1 nn) (hN : N + w * ds.length ≤ B) :
    ∃ (as : List α) (S' : Store), evF G (.comp elt (.nm t) wk .none own) L S = some (as.map enc, S') ∧ (∀ a ∈ as, P a) ∧ as.length = ds.length ∧ Pl (N + w * ds.length) S' nn := by
  rw [evF_comp, hw, bnd_some, if_pos (lt_line hl)]
  refine comp_pl ds S1 N (fun d hd S N h hN => ?_) h hN
  obtain ⟨a, S', e, hp, h'⟩ := step d hd S N h hN
  refine ⟨a, S', ?_, hp, h'⟩
  rw [evG_nm, bnd_some, evC_none, bnd_some, if_pos rfl, e]; rfl
end
section
variable {G : Gam} {L : PD.Loc} {S S0 S1 S2 S3 : Store} {i j k l m n N c K t : Nat} {p q u z : Cq} {w x : Rat} {ps qs cs ds ms : List Cq} {M M2 CS left fin : List (List Cq)} {X Y d : D} {a b : Xp} {sqs : List (Rat × List Cq)} {stop : Option Nat}
theorem cell_at {S0 : Store} {xs : List D} {R : List (List D)} : (S0 ++ xs :: R)[S0.length]? = some xs := by simp
theorem cell_set {S0 : Store} {xs ys : List D} {R : List (List D)} : (S0 ++ xs :: R).set S0.length ys = S0 ++ ys :: R := by simp
theorem appcx {e : Xp} {d : D} {i : Nat} {xs : List D} {R : List (List D)} (h : evX G e L (S0 ++ xs :: R) = some (.d d, S0 ++ xs :: R)) (hL : L[i]? = some (.dat (.cell S0.length))) (hl : xs.length ≤ 1000) : evS G (.app i e) L (S0 ++ xs :: R) = some ((.nx, L), S0 ++ (xs ++ [d]) :: R) := by
  rw [evS_app, h, bnd_some]
  show (match L[i]? with
    | some (.own xs) => _
    | some (.dat (.cell n)) => _
    | _ => none) = _
  rw [hL]
  show (match (S0 ++ xs :: R)[S0.length]? with
    | some ys => if ys.length < line then some ((Fl.nx, L), (S0 ++ xs :: R).set S0.length (ys ++ [d])) else none
    | none => none) = _
  rw [cell_at]
  show (if xs.length < line then some ((Fl.nx, L), (S0 ++ xs :: R).set S0.length (xs ++ [d])) else none) = _
  rw [if_pos (lt_line hl), cell_set]
end
section
variable {G : Gam} {L : PD.Loc} {S S0 S1 S2 S3 : Store} {i j k l m n N c nn : Nat} {p q : Cq} {M M2 CS LS : List (List Cq)} {a b : Xp}
theorem parx3 {e1 e2 e3 : Xp} {x y z : D} (h1 : evX G e1 L S = some (.d x, S1)) (h2 : evX G e2 L S1 = some (.d y, S2)) (h3 : evX G e3 L S2 = some (.d z, S3)) : evS G (.par [i, j, k] (.cons e1 (.cons e2 (.cons e3 .nil)))) L S = some ((.nx, ((L.set k (.dat z)).set j (.dat y)).set i (.dat x)), S3) := by
  rw [evS_par, evXs_cons, h1, bnd_some, evXs_cons, h2, bnd_some, evXs_cons, h3]
  rfl
end
section
variable {G : Gam} {L : PD.Loc} {S S0 S1 S2 S3 : Store} {i j k l m n N c K t : Nat} {p q u z : Cq} {w x : Rat} {ps qs cs ds ms : List Cq} {M M2 CS left fin : List (List Cq)} {X Y d : D} {a b : Xp} {fs : List (List Cq)}
theorem parx2 {e1 e2 : Xp} {x y : D} (h1 : evX G e1 L S = some (.d x, S1)) (h2 : evX G e2 L S1 = some (.d y, S2)) : evS G (.par [i, j] (.cons e1 (.cons e2 .nil))) L S = some ((.nx, (L.set j (.dat y)).set i (.dat x)), S2) := by
  rw [evS_par, evXs_cons, h1, bnd_some, evXs_cons, h2]
  rfl
end
section
variable {G : Gam} {L : PD.Loc} {S S0 S1 S2 S3 : Store} {i j k l m n N c K nn : Nat} {p q u w z : Cq} {x : Rat} {ps qs cs ds ms : List Cq} {M CS : List (List Cq)} {X Y d : D} {A v0 v1 v2 v3 v4 v5 v6 v7 : Lv} {a b : Xp}
end
section
variable {G : Gam} {L : PD.Loc} {S S0 S1 S2 S3 : Store} {i j k l m n N c K nn : Nat} {p q u w z : Cq} {x : Rat} {ps qs cs ds ms : List Cq} {M M2 CS : List (List Cq)} {X Y d : D} {A v0 v1 v2 v3 v4 v5 v6 v7 : Lv} {a b : Xp}
theorem callS2 {G G' : Gam} {j m : Nat} {nm : Str} {b : Sms} {e1 e2 : Xp} {L : PD.Loc} {S S1 S2 S3 : Store} {x y d : D} (hE : G.ents[j]? = some (sealE (mkEnt nm 2 [] [] [0, 1] G' m b))) (h1 : evX G e1 L S = some (.d x, S1)) (h2 : evX G e2 L S1 = some (.d y, S2)) (hs : sealR S2 (runF G' m b [x, y] S2) = some (d, S3)) : evX G (.call j (.cons e1 (.cons e2 .nil)) .nil) L S = some (.d d, S3) := by
  have hs : (sealE (mkEnt nm 2 [] [] [0, 1] G' m b)).sem [x, y] S2 = some (d, S3) := hs
  rw [evX_call, hE]
  simp [-mk_sem, -se_sem, h1, h2, hs]
end
section
variable {G : Gam} {L : PD.Loc} {S S0 S1 S2 S3 : Store} {i j k l m n N c K t : Nat} {p q u z : Cq} {w x : Rat} {ps qs cs ds ms : List Cq} {M M2 CS left fin : List (List Cq)} {X Y d : D} {a b : Xp} {fs : List (List Cq)} {sqs : List (Rat × List Cq)} {stop : Option Nat}
def CmpOk {α : Type} (dep : Nat) (enc : α → D) : Prop := (∀ a, D.pure (enc a) = true ∧ PyData.canLay0 (enc a).py = true ∧ PyData.depth (enc a).py ≤ dep) ∧ ∀ a b, eqD (enc a) (enc b) = true ↔ a = b
theorem CmpOk.all {α : Type} {dep : Nat} {enc : α → D} (h : CmpOk dep enc) : (∀ xs : List α, D.pures (xs.map enc) = true ∧ PyData.canLayAll0 (D.pys (xs.map enc)) = true ∧ PyData.depthAll (D.pys (xs.map enc)) ≤ dep) ∧ ∀ xs ys : List α, PyData.eqvAll (D.pys (xs.map enc)) (D.pys (ys.map enc)) = true ↔ xs = ys := by
  constructor
  · intro xs
    induction xs with
    | nil => exact ⟨rfl, rfl, Nat.zero_le _⟩
    | cons x xs ih =>
      obtain ⟨h1, h2, h3⟩ := h.1 x
      refine ⟨?_, ?_, ?_⟩
      · show (D.pure (enc x) && D.pures (xs.map enc)) = true
        rw [ih.1, h1]; rfl
      · show (PyData.canLay0 (D.py (enc x)) && PyData.canLayAll0 (D.pys (xs.map enc))) = true
        rw [ih.2.1, h2]; rfl
      · show max (PyData.depth (D.py (enc x))) (PyData.depthAll (D.pys (xs.map enc))) ≤ dep
        exact Nat.max_le.mpr ⟨h3, ih.2.2⟩
  · intro xs
    induction xs with
    | nil =>
      intro ys
      cases ys with
      | nil => exact ⟨fun _ => rfl, fun _ => rfl⟩
      | cons y ys => exact ⟨fun z => by simp [D.pys, PyData.eqvAll] at z, fun z => by cases z⟩
    | cons x xs ih =>
      intro ys
      cases ys with
      | nil => exact ⟨fun z => by simp [D.pys, PyData.eqvAll] at z, fun z => by cases z⟩
      | cons y ys =>
        have e : PyData.eqvAll (D.pys ((x :: xs).map enc)) (D.pys ((y :: ys).map enc)) = (eqD (enc x) (enc y) && PyData.eqvAll (D.pys (xs.map enc)) (D.pys (ys.map enc))) := by
          simp [D.pys, PyData.eqvAll, eqD]
        rw [e, Bool.and_eq_true, h.2 x y, ih ys]
        constructor
        · rintro ⟨rfl, rfl⟩; rfl
        · intro z; injection z with z1 z2; exact ⟨z1, z2⟩
theorem CmpOk.lst {α : Type} {dep : Nat} {enc : α → D} (h : CmpOk dep enc) : CmpOk (dep + 1) (fun xs : List α => .lst (xs.map enc)) := by
  obtain ⟨h1, h2⟩ := h.all
  refine ⟨fun xs => ⟨(h1 xs).1, (h1 xs).2.1, by show PyData.depthAll (D.pys (xs.map enc)) + 1 ≤ dep + 1; have := (h1 xs).2.2; omega⟩, fun xs ys => ?_⟩
  rw [← h2 xs ys]
  simp [eqD, D.py, PyData.eqv]
theorem CmpOk.tup {α : Type} {dep : Nat} {enc : α → D} (h : CmpOk dep enc) : CmpOk (dep + 1) (fun xs : List α => .tup (xs.map enc)) := by
  obtain ⟨h1, h2⟩ := h.all
  refine ⟨fun xs => ⟨(h1 xs).1, (h1 xs).2.1, by show PyData.depthAll (D.pys (xs.map enc)) + 1 ≤ dep + 1; have := (h1 xs).2.2; omega⟩, fun xs ys => ?_⟩
  rw [← h2 xs ys]
  simp [eqD, D.py, PyData.eqv]
theorem CmpOk.ok {α : Type} {dep : Nat} {enc : α → D} (h : CmpOk dep enc) (hd : dep ≤ 64) (a : α) : eqOk (enc a) = true := by
  obtain ⟨h1, h2, h3⟩ := h.1 a
  show (D.pure (enc a) && (PyData.canLay0 (enc a).py && decide (PyData.depth (enc a).py ≤ 64))) = true
  rw [h1, h2, decide_eq_true (by omega)]; rfl
theorem cmp_eq_of {u v : D} (hu : eqOk u = true) (hv : eqOk v = true) (hn : ∀ s, u ≠ .str s) : cmpV .eq (.d u) (.d v) = some (eqD u v) := by
  cases u with
  | str s => exact absurd rfl (hn s)
  | ty _ => cases hu
  | cell _ => cases hu
  | non => exact if_pos (show (eqOk D.non && eqOk v) = true by rw [hu, hv]; rfl)
  | bl b => exact if_pos (show (eqOk (D.bl b) && eqOk v) = true by rw [hu, hv]; rfl)
  | int i => exact if_pos (show (eqOk (D.int i) && eqOk v) = true by rw [hu, hv]; rfl)
  | tup xs => exact if_pos (show (eqOk (D.tup xs) && eqOk v) = true by rw [hu, hv]; rfl)
  | lst xs => exact if_pos (show (eqOk (D.lst xs) && eqOk v) = true by rw [hu, hv]; rfl)
theorem CmpOk.eq {α : Type} [DecidableEq α] {dep : Nat} {enc : α → D} (h : CmpOk dep enc) (hd : dep ≤ 64) (a b : α) (hn : ∀ s, enc a ≠ .str s) : cmpV .eq (.d (enc a)) (.d (enc b)) = some (decide (a = b)) := by
  rw [cmp_eq_of (h.ok hd a) (h.ok hd b) hn]
  by_cases z : a = b
  · rw [decide_eq_true z, (h.2 a b).mpr z]
  · rw [decide_eq_false z]
    cases y : eqD (enc a) (enc b) with
    | false => rfl
    | true => exact absurd ((h.2 a b).mp y) z
theorem cmpok_Nm : CmpOk 2 Nm := ⟨fun p => ⟨rfl, rfl, Nat.le_refl _⟩, fun p q => by rw [eqD_Nm]; exact decide_eq_true_iff⟩
theorem cmpok_T : CmpOk 1 T := ⟨fun p => ⟨rfl, rfl, Nat.le_refl _⟩, fun p q => by rw [eqD_T]; exact decide_eq_true_iff⟩
theorem callS1 {G G' : Gam} {j m : Nat} {nm : Str} {b : Sms} {e1 : Xp} {L : PD.Loc} {S S1 S3 : Store} {x d : D} (hE : G.ents[j]? = some (sealE (mkEnt nm 1 [] [] [0] G' m b))) (h1 : evX G e1 L S = some (.d x, S1)) (hs : sealR S1 (runF G' m b [x] S1) = some (d, S3)) : evX G (.call j (.cons e1 .nil) .nil) L S = some (.d d, S3) := by
  have hs : (sealE (mkEnt nm 1 [] [] [0] G' m b)).sem [x] S1 = some (d, S3) := hs
  rw [evX_call, hE]
  simp [-mk_sem, -se_sem, h1, hs]
end
section
variable {G : Gam} {L : PD.Loc} {S S0 S1 S2 S3 : Store} {i j k l m n N c : Nat} {p q u w : Cq} {x : Rat} {ps qs cs ds : List Cq} {M CS : List (List Cq)} {X Y d : D} {A : Lv} {a b : Xp}
end
section
variable {G : Gam} {L : PD.Loc} {S S0 S1 S2 S3 : Store} {i j k l m n nn N c K t : Nat} {p q u z : Cq} {w x : Rat} {ps qs cs ds ms : List Cq} {M M2 CS left fin : List (List Cq)} {X Y d : D} {a b : Xp}
theorem slc_take {e f : Xp} {xs : List D} (h : evX G e L S = some (.d (.tup xs), S1)) (h2 : evX G f L S1 = some (.d (.int (t : Nat)), S2)) (hl : t ≤ xs.length) : evX G (.slc e .none (.some f)) L S = some (.d (.tup (xs.take t)), S2) := by
  rw [evX_slc, h, bnd_some, evO_none, bnd_some, evO_some, h2, bnd_some]
  show lft (some (Va.d (.tup (PD.cutD xs none (some (t : Int)))))) S2 = _
  rw [cut_take _ _ hl]; rfl
theorem succx {e : Xp} (h : evX G e L S = some (.d (.int (t : Nat)), S1)) : evX G (.bin .add e (.lit (.int 1))) L S = some (.d (.int ((t + 1 : Nat) : Int)), S1) := by
  rw [evX_bin, h, bnd_some]
  rfl
end
end W

namespace W
open PySem PySem.Spec PyProof.Rows L2 PD
section

theorem any_mem {α : Type} [DecidableEq α] {dep : Nat} {enc : α → D} (h : CmpOk dep enc) (a : α) : ∀ as : List α, ((as.map enc).any fun z => eqD z (enc a)) = decide (a ∈ as)
  | [] => rfl
  | b :: as => by
    rw [List.map_cons, List.any_cons, any_mem h a as]
    by_cases e : b = a
    · subst e
      rw [(h.2 b b).mpr rfl]
      simp
    · have : eqD (enc b) (enc a) = false := by
        cases y : eqD (enc b) (enc a) with
        | false => rfl
        | true => exact absurd ((h.2 b a).mp y) e
      rw [this, Bool.false_or]
      refine decide_eq_decide.mpr ?_
      rw [List.mem_cons]
      exact ⟨.inr, fun z => z.elim (fun z => absurd z.symm e) id⟩
theorem isin_ok {α : Type} [DecidableEq α] {dep : Nat} {enc : α → D} (h : CmpOk dep enc) (hd : dep + 1 ≤ 64) (a : α) (as : List α) : cmpV .isin (.d (enc a)) (.d (.lst (as.map enc))) = some (decide (a ∈ as)) := by
  have e1 := h.ok (by omega) a
  have e2 := h.lst.ok hd as
  show (if eqOk (enc a) && eqOk (.lst (as.map enc)) then some ((as.map enc).any fun z => eqD z (enc a)) else none) = _
  rw [e1, e2, any_mem h]; rfl
theorem notin_ok {α : Type} [DecidableEq α] {dep : Nat} {enc : α → D} (h : CmpOk dep enc) (hd : dep + 1 ≤ 64) (a : α) (as : List α) : cmpV .notin (.d (enc a)) (.d (.lst (as.map enc))) = some (!decide (a ∈ as)) := by
  have e1 := h.ok (by omega) a
  have e2 := h.lst.ok hd as
  show (if eqOk (enc a) && eqOk (.lst (as.map enc)) then some (!(as.map enc).any fun z => eqD z (enc a)) else none) = _
  rw [e1, e2, any_mem h]; rfl
theorem notin_f {α : Type} {dep : Nat} {enc : α → D} (h : CmpOk dep enc) (hd : dep + 1 ≤ 64) {a : α} {as : List α} (hn : a ∈ as) : cmpV .notin (.d (enc a)) (.d (.lst (as.map enc))) = some false := by
  haveI : DecidableEq α := fun _ _ => Classical.propDecidable _
  rw [notin_ok h hd, decide_eq_true hn]; rfl
theorem notin_t {α : Type} {dep : Nat} {enc : α → D} (h : CmpOk dep enc) (hd : dep + 1 ≤ 64) {a : α} {as : List α} (hn : a ∉ as) : cmpV .notin (.d (enc a)) (.d (.lst (as.map enc))) = some true := by
  haveI : DecidableEq α := fun _ _ => Classical.propDecidable _
  rw [notin_ok h hd, decide_eq_false hn]; rfl
end
end W

set_option Elab.async false
set_option linter.all false
set_option autoImplicit false
set_option maxRecDepth 100000
set_option maxHeartbeats 2000000
namespace W
open PySem PySem.Spec PyProof.Rows L2 PD
@[simp] theorem slcLS_tupS {xs : List D} {l h : Option Int} {S : Store} : slcLS (.d (.tup xs)) l h S = slcL (.d (.tup xs)) l h := rfl
section
variable {S : Store} {k l m N n K : Nat} {p q u c v d z x y : Cq} {t : Rat} {X : D} {ps qs : List Cq} {A : Lv}
/-- the numbers of two rows, place by place -/
def bothN (f : Cq → Cq → Cq) (ps qs : List Cq) : List Cq := (List.range (max ps.length qs.length)).map fun i => f (cf ps i) (cf qs i)
theorem both_cf {f : Cq → Cq → Cq} (h : f 0 0 = 0) (i : Nat) : cf (bothN f ps qs) i = f (cf ps i) (cf qs i) := by
  by_cases hi : i < max ps.length qs.length
  · unfold bothN
    rw [show cf ((List.range (max ps.length qs.length)).map fun i => f (cf ps i) (cf qs i)) i = (((List.range (max ps.length qs.length)).map fun i => f (cf ps i) (cf qs i))[i]?).getD 0 from rfl, List.getElem?_map, List.getElem?_range hi]
    rfl
  · rw [cf_ge (ps := bothN f ps qs) (by unfold bothN; rw [List.length_map, List.length_range]; exact hi), cf_ge (ps := ps) (by omega), cf_ge (ps := qs) (by omega), h]
theorem max_int : (if ((ps.map Nm).length : Int) < ((qs.map Nm).length : Int) then ((qs.map Nm).length : Int) else ((ps.map Nm).length : Int)) = ((max ps.length qs.length : Nat) : Int) := by
  rw [List.length_map, List.length_map]
  split <;> omega
theorem plus_max {G : Gam} {e3 e4 : Lv} : evS G (.asg (.nm 2) (.bi .max2 (.cons (.bi .len (.cons (.nm 0) .nil)) (.cons (.bi .len (.cons (.nm 1) .nil)) .nil)))) [.dat (.tup (ps.map Nm)), .dat (.tup (qs.map Nm)), e3, e4] S = some ((.nx, [.dat (.tup (ps.map Nm)), .dat (.tup (qs.map Nm)), .dat (.int ((max ps.length qs.length : Nat) : Int)), e4]), S) := by
  rw [← max_int (ps := ps) (qs := qs)]
  rfl
theorem hb_cf0 (h : ∀ p ∈ ps, hb m p) (h1 : 1 ≤ m) (i : Nat) : hb m (cf ps i) := by
  by_cases hi : i < ps.length
  · exact h _ (List.mem_of_getElem? (cf_lt hi))
  · rw [cf_ge hi]; exact hb_z.mono h1
end
end W

set_option Elab.async false
set_option linter.all false
set_option autoImplicit false
set_option maxRecDepth 100000
set_option maxHeartbeats 2000000
namespace W
open PySem PySem.Spec PyProof.Rows L2 PD
section
variable {S : Store} {k l m N n K M : Nat} {p q u c v d z x y : Cq} {t : Rat} {X : D} {ps qs : List Cq} {A : Lv}
/-- noughts at its end, up to M -/
def padN (ps : List Cq) (M : Nat) : List Cq := ps ++ List.replicate (M - ps.length) 0
theorem pad_cf (i : Nat) : cf (padN ps M) i = cf ps i := by
  unfold padN
  rw [cf_app]
  by_cases h : i < ps.length
  · rw [if_pos h]
  · rw [if_neg h, cf_ge (ps := ps) h]
    unfold cf
    rw [List.getElem?_replicate]
    split <;> rfl
theorem pad_len (h : ps.length ≤ M) : (padN ps M).length = M := by unfold padN; rw [List.length_append, List.length_replicate]; omega
theorem pad_step {L : PD.Loc} {ds : List D} {a b j : Int} {f : Nat} (h2 : L[2]? = some (.dat (.int a))) (h4 : L[4]? = some (.dat (.lst ds))) (hb' : (ds.length : Int) = b) (hj : a - b = j) (hf : j.toNat = f) (ok : 0 ≤ j ∧ j < 2 ^ 63 ∧ 1 * j.toNat ≤ line) (ok2 : ds.length + f ≤ line) :
    evX G_Lrow_sum (.fr (.cat (.fr (.list (.nm 4))) (.fr (.rep (.disp (.cons (.tup (.cons (.lit (.int 0)) (.cons (.lit (.int 0)) (.cons (.lit (.int 1)) .nil)))) .nil)) (.bin .sub (.nm 2) (.bi .len (.cons (.nm 4) .nil))))))) L S = some (.d (.lst (ds ++ List.replicate f (T 0))), S) := by
  have e0 : evF G_Lrow_sum (.rep (.disp (.cons (.tup (.cons (.lit (.int 0)) (.cons (.lit (.int 0)) (.cons (.lit (.int 1)) .nil)))) .nil)) (.bin .sub (.nm 2) (.bi .len (.cons (.nm 4) .nil)))) L S = some (List.replicate f (T 0), S) := by
    rw [evF_rep]
    have e1 : evF G_Lrow_sum (.disp (.cons (.tup (.cons (.lit (.int 0)) (.cons (.lit (.int 0)) (.cons (.lit (.int 1)) .nil)))) .nil)) L S = some ([T 0], S) := by rw [T_0]; rfl
    have e2 : evX G_Lrow_sum (.bin .sub (.nm 2) (.bi .len (.cons (.nm 4) .nil))) L S = some (.d (.int j), S) := by
      simp [h2, h4, hb', hj]
    rw [e1, bnd_some, e2, bnd_some]
    show lft (if 0 ≤ j ∧ j < 2 ^ 63 ∧ 1 * j.toNat ≤ line then some (List.replicate j.toNat [T 0]).flatten else none) S = _
    rw [if_pos ok, hf, List.flatten_replicate_singleton]
    rfl
  have e3 : evF G_Lrow_sum (.list (.nm 4)) L S = some (ds, S) := by
    simp [h4, asL]
  have ln : ds.length + (List.replicate f (T 0)).length ≤ line := by rw [List.length_replicate]; exact ok2
  rw [evX_fr, evF_cat, evX_fr, e3, bnd_some, bnd_some, evX_fr, e0, bnd_some, bnd_some]
  show bnd (lft (if ds.length + (List.replicate f (T 0)).length ≤ line then some (ds ++ List.replicate f (T 0)) else none) S) _ = _
  rw [if_pos ln]
  rfl
theorem pad_stepN {e3 e5 : Lv} {A0 B0 : D} (h : ps.length ≤ M) (hM : M ≤ 1000) : evX G_Lrow_sum (.fr (.cat (.fr (.list (.nm 4))) (.fr (.rep (.disp (.cons (.tup (.cons (.lit (.int 0)) (.cons (.lit (.int 0)) (.cons (.lit (.int 1)) .nil)))) .nil)) (.bin .sub (.nm 2) (.bi .len (.cons (.nm 4) .nil))))))) [.dat A0, .dat B0, .dat (.int ((M : Nat) : Int)), e3, .dat (.lst (ps.map T)), e5] S = some (.d (.lst ((padN ps M).map T)), S) := by
  obtain ⟨j, hj⟩ : ∃ j : Int, ((M : Nat) : Int) - (ps.length : Int) = j := ⟨_, rfl⟩
  have := pad_step (S := S) (L := [.dat A0, .dat B0, .dat (.int ((M : Nat) : Int)), e3, .dat (.lst (ps.map T)), e5]) (ds := ps.map T) (a := ((M : Nat) : Int)) (b := (ps.length : Int)) (j := j) (f := M - ps.length) rfl rfl (by rw [List.length_map]) hj (by omega) ⟨by omega, Int.lt_of_le_of_lt (by omega : j ≤ 1000) (by decide), by rw [Nat.one_mul]; exact Nat.le_of_lt (lt_line (by omega))⟩ (by rw [List.length_map]; exact Nat.le_of_lt (lt_line (by omega)))
  rw [this]
  unfold padN
  rw [List.map_append, List.map_replicate]
theorem maxT_int : (if ((ps.map T).length : Int) < ((qs.map T).length : Int) then ((qs.map T).length : Int) else ((ps.map T).length : Int)) = ((max ps.length qs.length : Nat) : Int) := by
  rw [List.length_map, List.length_map]
  split <;> omega
theorem compL_two {turn : D → Store → Option (Option D × Store)} {a b x y : D} (h1 : turn a S = some (some x, S)) (h2 : turn b S = some (some y, S)) : compL turn [a, b] S = some ([x, y], S) := by
  rw [compL_cons, h1, bnd_some, compL_cons, h2, bnd_some]
  rfl
theorem sum_comp1 {e3 e5 : Lv} (l1 : ps.length ≤ 100) (l2 : qs.length ≤ 100) : evF G_Lrow_sum (.comp (.fr (.cat (.fr (.list (.nm 4))) (.fr (.rep (.disp (.cons (.tup (.cons (.lit (.int 0)) (.cons (.lit (.int 0)) (.cons (.lit (.int 1)) .nil)))) .nil)) (.bin .sub (.nm 2) (.bi .len (.cons (.nm 4) .nil))))))) (.nm 4) (.seq (.fr (.disp (.cons (.nm 0) (.cons (.nm 1) .nil))))) .none [4]) [.dat (.lst (ps.map T)), .dat (.lst (qs.map T)), .dat (.int ((max ps.length qs.length : Nat) : Int)), e3, .un, e5] S = some ([.lst ((padN ps (max ps.length qs.length)).map T), .lst ((padN qs (max ps.length qs.length)).map T)], S) := by
  rw [evF_comp]
  have w : evW G_Lrow_sum (.seq (.fr (.disp (.cons (.nm 0) (.cons (.nm 1) .nil))))) [.dat (.lst (ps.map T)), .dat (.lst (qs.map T)), .dat (.int ((max ps.length qs.length : Nat) : Int)), e3, .un, e5] S = some ([.lst (ps.map T), .lst (qs.map T)], S) := rfl
  have l2' : ([D.lst (ps.map T), D.lst (qs.map T)] : List D).length < line := by show 2 < 16777216; decide
  rw [w, bnd_some, if_pos l2']
  have a1 := pad_stepN (S := S) (ps := ps) (M := max ps.length qs.length) (e3 := e3) (e5 := e5) (A0 := .lst (ps.map T)) (B0 := .lst (qs.map T)) (by omega) (by omega)
  have a2 := pad_stepN (S := S) (ps := qs) (M := max ps.length qs.length) (e3 := e3) (e5 := e5) (A0 := .lst (ps.map T)) (B0 := .lst (qs.map T)) (by omega) (by omega)
  refine compL_two ?_ ?_
  · rw [evG_nm, bnd_some, evC_none, bnd_some, if_pos rfl]
    show bnd (evX G_Lrow_sum _ [.dat (.lst (ps.map T)), .dat (.lst (qs.map T)), .dat (.int ((max ps.length qs.length : Nat) : Int)), e3, .dat (.lst (ps.map T)), e5] S) _ = _
    rw [a1]
    rfl
  · rw [evG_nm, bnd_some, evC_none, bnd_some, if_pos rfl]
    show bnd (evX G_Lrow_sum _ [.dat (.lst (ps.map T)), .dat (.lst (qs.map T)), .dat (.int ((max ps.length qs.length : Nat) : Int)), e3, .dat (.lst (qs.map T)), e5] S) _ = _
    rw [a2]
    rfl
theorem cf_add_pad {M : Nat} {i : Nat} (h1 : ps.length ≤ M) (hi : i < M) : ((padN ps M).map T)[i]? = some (T (cf ps i)) := by
  rw [List.getElem?_map, cf_lt (by rw [pad_len h1]; exact hi), pad_cf]; rfl
theorem sum_comp2 {A0 B0 : D} {e4 : Lv} {M : Nat} (hp : ∀ p ∈ ps, hb k p) (hq : ∀ p ∈ qs, hb l p) (hk : 1 ≤ k) (hl : 1 ≤ l) (h : k + l < 9000) (l1 : ps.length ≤ M) (l2 : qs.length ≤ M) (hM : M ≤ 1000) : evF G_Lrow_sum (.comp (.call 1 (.cons (.ix (.ix (.nm 3) (.lit (.int 0))) (.nm 5)) (.cons (.ix (.ix (.nm 3) (.lit (.int 1))) (.nm 5)) .nil)) .nil) (.nm 5) (.range1 (.nm 2)) .none [5]) [.dat A0, .dat B0, .dat (.int ((M : Nat) : Int)), .dat (.lst [.lst ((padN ps M).map T), .lst ((padN qs M).map T)]), e4, .un] S = some (((List.range M).map fun i => cf ps i + cf qs i).map T, S) := by
  rw [evF_comp]
  have w := range1_nat (G := G_Lrow_sum) (L := [.dat A0, .dat B0, .dat (.int ((M : Nat) : Int)), .dat (.lst [.lst ((padN ps M).map T), .lst ((padN qs M).map T)]), e4, .un]) (e := .nm 2) (m := M) (S := S) (S1 := S) rfl (big_ok hM)
  rw [w, bnd_some, List.length_map, List.length_range, if_pos (lt_line hM), List.map_map]
  refine compL_map (f := fun i : Nat => T (cf ps i + cf qs i)) _ fun i hi => ?_
  have hi := List.mem_range.mp hi
  have a1 : atI ((padN ps M).map T) ((i : Nat) : Int) = some (T (cf ps i)) := by rw [atI_natE, cf_add_pad l1 hi]
  have a2 : atI ((padN qs M).map T) ((i : Nat) : Int) = some (T (cf qs i)) := by rw [atI_natE, cf_add_pad l2 hi]
  have e3 := r_Ladd (S := S) (hb_cf0 hp hk i) (hb_cf0 hq hl i) h
  generalize ((i : Nat) : Int) = j at a1 a2 ⊢
  generalize ((M : Nat) : Int) = MM
  generalize (padN ps M).map T = AA at a1 ⊢
  generalize (padN qs M).map T = BB at a2 ⊢
  simp [G_Lrow_sum, e_Ladd_2, pick, a1, a2, e3]
theorem rsum_end {X B : D} {L : PD.Loc} {f : Fx} (h : evXs G_Lrow_sum (.cons (.fr f) .nil) L S = some ([.d X], S)) (t : runF G_Ltrim 3 b_Ltrim [X] S = some (B, S)) : evX G_Lrow_sum (.call 0 (.cons (.fr f) .nil) .nil) L S = some (.d B, S) := by
  rw [evX_call, h]
  show bnd (runF G_Ltrim 3 b_Ltrim [X] S) _ = _
  rw [t]
  rfl
theorem r_Lrow_sum (hp : ∀ p ∈ ps, hb k p) (hq : ∀ p ∈ qs, hb l p) (hk : 1 ≤ k) (hl : 1 ≤ l) (h : k + l < 9000) (l1 : ps.length ≤ 100) (l2 : qs.length ≤ 100) : runF G_Lrow_sum 6 b_Lrow_sum [.lst (ps.map T), .lst (qs.map T)] S = some (.lst ((trimN (bothN (· + ·) ps qs)).map T), S) := by
  have c1 := sum_comp1 (S := S) (e3 := .un) (e5 := .un) l1 l2
  have c2 := sum_comp2 (S := S) (A0 := .lst (ps.map T)) (B0 := .lst (qs.map T)) (e4 := .un) (M := max ps.length qs.length) hp hq hk hl h (by omega) (by omega) (by omega)
  have t := r_Ltrim (S := S) (ps := bothN (· + ·) ps qs) (by unfold bothN; rw [List.length_map, List.length_range]; omega)
  have e := rsum_end (by rw [evXs_cons, evX_fr, c2]; rfl) t
  have go : evSs G_Lrow_sum b_Lrow_sum [.dat (.lst (ps.map T)), .dat (.lst (qs.map T)), .un, .un, .un, .un] S = some ((.ret (.lst ((trimN (bothN (· + ·) ps qs)).map T)), [.dat (.lst (ps.map T)), .dat (.lst (qs.map T)), .dat (.int ((max ps.length qs.length : Nat) : Int)), .dat (.lst [.lst ((padN ps (max ps.length qs.length)).map T), .lst ((padN qs (max ps.length qs.length)).map T)]), .un, .un]), S) := by
    rw [b_Lrow_sum]
    refine st_nx (L2 := [.dat (.lst (ps.map T)), .dat (.lst (qs.map T)), .dat (.int ((max ps.length qs.length : Nat) : Int)), .un, .un, .un]) (S2 := S) ?_ ?_
    · rw [← maxT_int (ps := ps) (qs := qs)]
      rfl
    refine st_nx (L2 := [.dat (.lst (ps.map T)), .dat (.lst (qs.map T)), .dat (.int ((max ps.length qs.length : Nat) : Int)), .dat (.lst [.lst ((padN ps (max ps.length qs.length)).map T), .lst ((padN qs (max ps.length qs.length)).map T)]), .un, .un]) (S2 := S) ?_ ?_
    · rw [evS_asg, evX_fr, c1]
      rfl
    rw [evSs_cons, evS_ret, e]
    rfl
  rw [runF_eq]
  show bnd (evSs G_Lrow_sum b_Lrow_sum [.dat (.lst (ps.map T)), .dat (.lst (qs.map T)), .un, .un, .un, .un] S) _ = _
  rw [go]
  rfl
end
end W

set_option Elab.async false
set_option linter.all false
set_option autoImplicit false
set_option maxRecDepth 100000
set_option maxHeartbeats 2000000
namespace W
open PySem PySem.Spec PyProof.Rows L2 PD
section
variable {S : Store} {k l m N n K M : Nat} {p q : Cq} {ps qs : List Cq} {v0 v1 v2 v3 v4 v5 v6 v7 v8 v10 v11 v12 v13 v14 v15 : Lv}
def ltO : Sms := (b_Lrow_times.nth 1).body
def ltL : Sms := (ltO.nth 1).body
theorem low_loop : ∀ (ps : List Cq) (low : Int) (k : Nat) (v10 : Lv), 0 < low → sz k low → k + 30 * ps.length < 1000 → (∀ p ∈ ps, hb 30 p) → ∃ a, forL (fun d L S => bnd (evG G_Lrow_times (.nm 10) d L S) fun L2 S2 => evSs G_Lrow_times ltL L2 S2) (ps.map T) [v0, v1, v2, v3, v4, v5, v6, v7, v8, .dat (.int low), v10, v11, v12, v13, v14, v15] S = some ((.nx, [v0, v1, v2, v3, v4, v5, v6, v7, v8, .dat (.int (lowF low ps)), a, v11, v12, v13, v14, v15]), S) ∧ sz (k + 30 * ps.length) (lowF low ps)
  | [], low, k, v10, _, hs, _, _ => ⟨v10, rfl, hs⟩
  | p :: ps, low, k, v10, h0, hs, hk, hp => by
    have l0 : (p :: ps).length = ps.length + 1 := rfl
    rw [l0] at hk
    have d0 : 0 < dnm p := t3_pos p
    have ds : sz 30 (dnm p) := (hp p (List.mem_cons_self ..)).2.2
    obtain ⟨f1, f2, f3, f4⟩ := lowS_facts h0 d0
    have s2 : sz (k + 30) (lowS low (dnm p)) := (hs.mul ds).le (by
      have := Int.mul_pos h0 d0
      omega)
    obtain ⟨a, e, se⟩ := low_loop ps (lowS low (dnm p)) (k + 30) (.dat (T p)) f1 s2 (by omega) (fun z hz => hp z (List.mem_cons_of_mem _ hz))
    refine ⟨a, ?_, by rw [l0, show k + 30 * (ps.length + 1) = k + 30 + 30 * ps.length by omega]; exact se⟩
    have g0 : 0 < ((Int.gcd low (dnm p) : Nat) : Int) := by
      have := Int.gcd_pos_of_ne_zero_left (dnm p) (show low ≠ 0 by omega)
      omega
    have gl : ((Int.gcd low (dnm p) : Nat) : Int) ≤ low := Int.le_of_dvd h0 (Int.gcd_dvd_left ..)
    have eg := r_Lgcd (a := low) (b := dnm p) (S := S)
    have eg2 : runF G_Lgcd 2 b_Lgcd [.int low, .int (dnm p)] S = some (.int ((Int.gcd low (dnm p) : Nat) : Int), S) := eg
    have od : okDiv ((Int.gcd low (dnm p) : Nat) : Int) = true := okDiv_sz (k := k) (hs.le (by omega)) (by omega) (by omega)
    have fd : low.fdiv ((Int.gcd low (dnm p) : Nat) : Int) = low / ((Int.gcd low (dnm p) : Nat) : Int) := Int.fdiv_eq_ediv_of_nonneg _ (by omega)
    have sm : sz k (low / ((Int.gcd low (dnm p) : Nat) : Int)) := hs.le (by
      have h1 := Int.ediv_le_self ((Int.gcd low (dnm p) : Nat) : Int) (show 0 ≤ low by omega)
      have h2 := Int.ediv_nonneg (show 0 ≤ low by omega) (show 0 ≤ ((Int.gcd low (dnm p) : Nat) : Int) by omega)
      omega)
    have om : okMul (low / ((Int.gcd low (dnm p) : Nat) : Int)) (dnm p) = true := okMul_sz sm ds (by omega)
    have step : (bnd (evG G_Lrow_times (.nm 10) (T p) [v0, v1, v2, v3, v4, v5, v6, v7, v8, .dat (.int low), v10, v11, v12, v13, v14, v15] S) fun L2 S2 => evSs G_Lrow_times ltL L2 S2) = some ((.nx, [v0, v1, v2, v3, v4, v5, v6, v7, v8, .dat (.int (lowS low (dnm p))), .dat (T p), v11, v12, v13, v14, v15]), S) := by
      have hT : T p = .tup [.int (t3 p).1, .int (t3 p).2.1, .int (dnm p)] := rfl
      unfold lowS
      rw [hT]
      generalize ((Int.gcd low (dnm p) : Nat) : Int) = g at *
      have g1 : g ≠ 0 := by omega
      simp [ltL, ltO, Sms.nth, Sm.body, b_Lrow_times, G_Lrow_times, e_Lgcd_2, pick, eg2, od, fd, om, g1]
    rw [List.map_cons, forL_cons, step, bnd_some]
    exact e
end
end W

set_option Elab.async false
set_option linter.all false
set_option autoImplicit false
set_option maxRecDepth 100000
set_option maxHeartbeats 2000000
namespace W
open PySem PySem.Spec PyProof.Rows L2 PD
section
variable {S : Store} {k l m N n K M : Nat} {p q : Cq} {ps qs : List Cq} {v0 v1 v2 v3 v4 v5 v6 v7 v8 v10 v11 v12 v13 v14 v15 : Lv} {low : Int}
/-- a number's whole parts over the common number -/
def wA (low : Int) (p : Cq) : Int := (t3 p).1 * (low / dnm p)
def wB (low : Int) (p : Cq) : Int := (t3 p).2.1 * (low / dnm p)
def wP (low : Int) (p : Cq) : D := .tup [.int (wA low p), .int (wB low p)]
theorem whole_comp (h0 : 0 < low) (hs : sz k low) (hk : k < 1000) (hp : ∀ p ∈ ps, hb 30 p) (hl : ps.length ≤ 100) : evF G_Lrow_times (.comp (.tup (.cons (.bin .mul (.ix (.nm 10) (.lit (.int 0))) (.bin .fdiv (.nm 9) (.ix (.nm 10) (.lit (.int 2))))) (.cons (.bin .mul (.ix (.nm 10) (.lit (.int 1))) (.bin .fdiv (.nm 9) (.ix (.nm 10) (.lit (.int 2))))) .nil))) (.nm 10) (.seq (.nm 4)) .none [10]) [v0, v1, v2, v3, .dat (.lst (ps.map T)), v5, v6, v7, v8, .dat (.int low), v10, v11, v12, v13, v14, v15] S = some (ps.map (wP low), S) := by
  rw [evF_comp]
  have w : evW G_Lrow_times (.seq (.nm 4)) [v0, v1, v2, v3, .dat (.lst (ps.map T)), v5, v6, v7, v8, .dat (.int low), v10, v11, v12, v13, v14, v15] S = some (ps.map T, S) := rfl
  rw [w, bnd_some, List.length_map, if_pos (lt_line (by omega))]
  refine compL_map (f := wP low) ps fun p hpm => ?_
  have d0 : 0 < dnm p := t3_pos p
  have hp' := hp p hpm
  have od : okDiv (dnm p) = true := okDiv_sz (k := 30) hp'.2.2 (by omega) (by decide)
  have fd : low.fdiv (dnm p) = low / dnm p := Int.fdiv_eq_ediv_of_nonneg _ (by omega)
  have sm : sz k (low / dnm p) := hs.le (by
    have h1 := Int.ediv_le_self (dnm p) (show 0 ≤ low by omega)
    have h2 := Int.ediv_nonneg (show 0 ≤ low by omega) (show 0 ≤ dnm p by omega)
    omega)
  have o1 : okMul (t3 p).1 (low / dnm p) = true := okMul_sz hp'.1 sm (by omega)
  have o2 : okMul (t3 p).2.1 (low / dnm p) = true := okMul_sz hp'.2.1 sm (by omega)
  have hT : T p = .tup [.int (t3 p).1, .int (t3 p).2.1, .int (dnm p)] := rfl
  rw [hT]
  unfold wP wA wB
  have dn : dnm p ≠ 0 := by omega
  generalize ps.map T = A0
  generalize dnm p = d at *
  generalize (t3 p).1 = a at *
  generalize (t3 p).2.1 = b at *
  simp [od, fd, o1, o2, dn]
end
end W

set_option Elab.async false
set_option linter.all false
set_option autoImplicit false
set_option maxRecDepth 100000
set_option maxHeartbeats 2000000
namespace W
open PySem PySem.Spec PyProof.Rows L2 PD
section
variable {S : Store} {k l m N n K M : Nat} {p q : Cq} {ps qs : List Cq} {v0 v1 v2 v3 v4 v5 v6 v7 v8 v9 v10 v11 v12 v13 v14 v15 : Lv} {low l1 l2 : Int}
/-- three cells more -/
def st3 (S : Store) (a b c : List D) : Store := S ++ [a, b, c]
variable {x a b c : List D}
theorem st3_0 : (st3 S a b c)[S.length]? = some a := by unfold st3; simp
theorem st3_1 : (st3 S a b c)[S.length + 1]? = some b := by unfold st3; rw [List.getElem?_append_right (by omega)]; simp
theorem st3_2 : (st3 S a b c)[S.length + 2]? = some c := by unfold st3; rw [List.getElem?_append_right (by omega)]; simp
theorem st3_s1 : (st3 S a b c).set (S.length + 1) x = st3 S a x c := by
  unfold st3; rw [List.set_append_right _ _ (by omega)]; simp
theorem st3_s2 : (st3 S a b c).set (S.length + 2) x = st3 S a b x := by
  unfold st3; rw [List.set_append_right _ _ (by omega)]; simp
def Lx (lr : List (Int × Int)) : List D := lr.map fun z => .int z.1
def Ly (lr : List (Int × Int)) : List D := lr.map fun z => .int z.2
def ltJ : Sms := (b_Lrow_times.nth 4).body
def ltK : Sms := (ltJ.nth 0).body
theorem lt_turn {S0 S1 S2 : Store} {nw nl nr i : Nat} {w1 w2 l r l' r' : List D} {jj kk s a b c d x y x' y' : Int} (hw : S0[nw]? = some [.lst w1, .lst w2]) (ha : atI w1 jj = some (.tup [.int a, .int b])) (hc : atI w2 kk = some (.tup [.int c, .int d]))
    (hs : jj + kk = s) (hl : S0[nl]? = some l) (hx : atI l s = some (.int x)) (hi : ixN l.length s = some i) (ex : x + a * c - b * d = x') (el : l.set i (.int x') = l') (e1 : S0.set nl l' = S1) (hr : S1[nr]? = some r) (hy : atI r s = some (.int y)) (hi' : ixN r.length s = some i)
    (ey : y + a * d + b * c = y') (er : r.set i (.int y') = r') (e2 : S1.set nr r' = S2) (o1 : okMul a c = true) (o2 : okMul b d = true) (o3 : okMul a d = true) (o4 : okMul b c = true) :
    (bnd (evG G_Lrow_times (.nm 11) (.int kk) [v0, v1, .dat (.cell nw), v3, v4, v5, .dat (.cell nl), .dat (.cell nr), .dat (.int jj), v9, v10, v11, v12, v13, v14, v15] S0) fun L2 S2 => evSs G_Lrow_times ltK L2 S2) = some ((.nx, [v0, v1, .dat (.cell nw), v3, v4, v5, .dat (.cell nl), .dat (.cell nr), .dat (.int jj), v9, v10, .dat (.int kk), .dat (.int a), .dat (.int b), .dat (.int c), .dat (.int d)]), S2) := by
  subst hs ex ey
  simp [ltK, ltJ, Sms.nth, Sm.body, b_Lrow_times, hw, ha, hc, hl, hx, hi, o1, o2, o3, o4, el, e1, hr, hy, hi', er, e2]
theorem lt_in {j : Nat} {a b : Int} {w1 : List D} (h1 : 0 < l1) (h2 : 0 < l2) (hp : q3 a b l1 = p) (sa : sz 2000 a) (sb : sz 2000 b) (hq : ∀ q ∈ qs, sz 2000 (wA l2 q) ∧ sz 2000 (wB l2 q) ∧ q3 (wA l2 q) (wB l2 q) l2 = q) (ha : w1[j]? = some (.tup [.int a, .int b])) :
    ∀ (rest : List Cq) (k0 : Nat) (lr : List (Int × Int)) (v11 v12 v13 v14 v15 : Lv), qs.drop k0 = rest → j + k0 + rest.length ≤ lr.length → ∃ lr' a11 a12 a13 a14 a15, forL (fun d L S => bnd (evG G_Lrow_times (.nm 11) d L S) fun L2 S2 => evSs G_Lrow_times ltK L2 S2) ((List.range' k0 rest.length).map fun i => D.int (i : Nat))
      [v0, v1, .dat (.cell S.length), v3, v4, v5, .dat (.cell (S.length + 1)), .dat (.cell (S.length + 2)), .dat (.int (j : Nat)), v9, v10, v11, v12, v13, v14, v15] (st3 S [.lst w1, .lst (qs.map (wP l2))] (Lx lr) (Ly lr)) = some ((.nx, [v0, v1, .dat (.cell S.length), v3, v4, v5, .dat (.cell (S.length + 1)), .dat (.cell (S.length + 2)), .dat (.int (j : Nat)), v9, v10, a11, a12, a13, a14, a15]), st3 S [.lst w1, .lst (qs.map (wP l2))] (Lx lr') (Ly lr')) ∧
      lr'.length = lr.length ∧ lr'.map (fun z => q3 z.1 z.2 (l1 * l2)) = inF p (lr.map fun z => q3 z.1 z.2 (l1 * l2)) (j + k0) rest
  | [], k0, lr, v11, v12, v13, v14, v15, _, _ => ⟨lr, v11, v12, v13, v14, v15, rfl, rfl, rfl⟩
  | q :: rest, k0, lr, v11, v12, v13, v14, v15, hd, hl => by
    have l0 : (q :: rest).length = rest.length + 1 := rfl
    rw [l0] at hl
    have hk : k0 < qs.length := by
      rcases Nat.lt_or_ge k0 qs.length with h | h
      · exact h
      · rw [List.drop_eq_nil_of_le h] at hd; cases hd
    rw [List.drop_eq_getElem_cons hk] at hd
    injection hd with hd1 hd2
    obtain ⟨sc, sd, hq3⟩ := hq q (by rw [← hd1]; exact List.getElem_mem hk)
    have hi : j + k0 < lr.length := by omega
    obtain ⟨⟨x, y⟩, hz⟩ : ∃ z, lr[j + k0] = z := ⟨_, rfl⟩
    have hz' : lr[j + k0]? = some (x, y) := by rw [List.getElem?_eq_getElem hi, hz]
    obtain ⟨lr2, a11, a12, a13, a14, a15, e, el, ef⟩ := lt_in (w1 := w1) h1 h2 hp sa sb hq ha rest (k0 + 1) (lr.set (j + k0) (x + a * wA l2 q - b * wB l2 q, y + a * wB l2 q + b * wA l2 q)) (.dat (.int (k0 : Nat))) (.dat (.int a)) (.dat (.int b)) (.dat (.int (wA l2 q))) (.dat (.int (wB l2 q))) hd2 (by rw [List.length_set]; omega)
    refine ⟨lr2, a11, a12, a13, a14, a15, ?_, by rw [el, List.length_set], ?_⟩
    · have ha' : atI w1 ((j : Nat) : Int) = some (.tup [.int a, .int b]) := by rw [atI_natE]; exact ha
      have hc' : atI (qs.map (wP l2)) ((k0 : Nat) : Int) = some (.tup [.int (wA l2 q), .int (wB l2 q)]) := by rw [atI_natE, List.getElem?_map, List.getElem?_eq_getElem hk, hd1]; rfl
      have hx' : atI (Lx lr) (((j + k0 : Nat)) : Int) = some (.int x) := by rw [atI_natE]; unfold Lx; rw [List.getElem?_map, hz']; rfl
      have hy' : atI (Ly lr) (((j + k0 : Nat)) : Int) = some (.int y) := by rw [atI_natE]; unfold Ly; rw [List.getElem?_map, hz']; rfl
      have i1 : ixN (Lx lr).length ((j + k0 : Nat) : Int) = some (j + k0) := ixN_nat (by unfold Lx; simpa using hi)
      have i2 : ixN (Ly lr).length ((j + k0 : Nat) : Int) = some (j + k0) := ixN_nat (by unfold Ly; simpa using hi)
      have st := lt_turn (v0 := v0) (v1 := v1) (v3 := v3) (v4 := v4) (v5 := v5) (v9 := v9) (v10 := v10) (v11 := v11) (v12 := v12) (v13 := v13) (v14 := v14) (v15 := v15) (st3_0 (S := S) (a := [.lst w1, .lst (qs.map (wP l2))]) (b := Lx lr) (c := Ly lr)) ha' hc' (show ((j : Nat) : Int) + ((k0 : Nat) : Int) = ((j + k0 : Nat) : Int) by omega) st3_1 hx' i1 rfl (show (Lx lr).set (j + k0) _ = Lx (lr.set (j + k0) (x + a * wA l2 q - b * wB l2 q, y + a * wB l2 q + b * wA l2 q)) by unfold Lx; rw [List.map_set]) st3_s1 st3_2 hy' i2 rfl
        (show (Ly lr).set (j + k0) _ = Ly (lr.set (j + k0) (x + a * wA l2 q - b * wB l2 q, y + a * wB l2 q + b * wA l2 q)) by unfold Ly; rw [List.map_set]) st3_s2 (okMul_sz sa sc (by decide)) (okMul_sz sb sd (by decide)) (okMul_sz sa sd (by decide)) (okMul_sz sb sc (by decide))
      rw [l0, List.range'_succ, List.map_cons, forL_cons, st, bnd_some]
      exact e
    · rw [ef, List.map_set]
      show _ = inF p (addAt (lr.map fun z => q3 z.1 z.2 (l1 * l2)) (j + k0) (p * q)) (j + k0 + 1) rest
      have e1 : cf (lr.map fun z => q3 z.1 z.2 (l1 * l2)) (j + k0) = q3 x y (l1 * l2) := by
        unfold cf
        rw [List.getElem?_map, hz']; rfl
      have e2 : p * q = q3 (a * wA l2 q - b * wB l2 q) (a * wB l2 q + b * wA l2 q) (l1 * l2) := by
        rw [q3_mul (by omega) (by omega), hp, hq3]; rfl
      unfold addAt
      rw [e1, e2, q3_same, show x + (a * wA l2 q - b * wB l2 q) = x + a * wA l2 q - b * wB l2 q by omega, show y + (a * wB l2 q + b * wA l2 q) = y + a * wB l2 q + b * wA l2 q by omega]
      rfl
end
end W

set_option Elab.async false
set_option linter.all false
set_option autoImplicit false
set_option maxRecDepth 100000
set_option maxHeartbeats 2000000
namespace W
open PySem PySem.Spec PyProof.Rows L2 PD
section
variable {S : Store} {k l m N n K M : Nat} {p q : Cq} {ps qs : List Cq} {v0 v1 v2 v3 v4 v5 v6 v7 v8 v9 v10 v11 v12 v13 v14 v15 : Lv} {low l1 l2 : Int}
theorem lt_out (h1 : 0 < l1) (h2 : 0 < l2) (hp : ∀ p ∈ ps, sz 2000 (wA l1 p) ∧ sz 2000 (wB l1 p) ∧ q3 (wA l1 p) (wB l1 p) l1 = p) (hq : ∀ q ∈ qs, sz 2000 (wA l2 q) ∧ sz 2000 (wB l2 q) ∧ q3 (wA l2 q) (wB l2 q) l2 = q) (lq : qs.length ≤ 100) :
    ∀ (rest : List Cq) (j0 : Nat) (lr : List (Int × Int)) (v8 v11 v12 v13 v14 v15 : Lv), ps.drop j0 = rest → (rest ≠ [] → j0 + rest.length + qs.length ≤ lr.length + 1) → ∃ lr' a8 a11 a12 a13 a14 a15, forL (fun d L S => bnd (evG G_Lrow_times (.nm 8) d L S) fun L2 S2 => evSs G_Lrow_times ltJ L2 S2) ((List.range' j0 rest.length).map fun i => D.int (i : Nat))
      [v0, .dat (.lst (qs.map T)), .dat (.cell S.length), v3, v4, v5, .dat (.cell (S.length + 1)), .dat (.cell (S.length + 2)), v8, v9, v10, v11, v12, v13, v14, v15] (st3 S [.lst (ps.map (wP l1)), .lst (qs.map (wP l2))] (Lx lr) (Ly lr)) = some ((.nx, [v0, .dat (.lst (qs.map T)), .dat (.cell S.length), v3, v4, v5, .dat (.cell (S.length + 1)), .dat (.cell (S.length + 2)), a8, v9, v10, a11, a12, a13, a14, a15]), st3 S [.lst (ps.map (wP l1)), .lst (qs.map (wP l2))] (Lx lr') (Ly lr')) ∧
      lr'.length = lr.length ∧ lr'.map (fun z => q3 z.1 z.2 (l1 * l2)) = outF qs (lr.map fun z => q3 z.1 z.2 (l1 * l2)) j0 rest
  | [], j0, lr, v8, v11, v12, v13, v14, v15, _, _ => ⟨lr, v8, v11, v12, v13, v14, v15, rfl, rfl, rfl⟩
  | p :: rest, j0, lr, v8, v11, v12, v13, v14, v15, hd, hl => by
    have l0 : (p :: rest).length = rest.length + 1 := rfl
    have hl2 := hl (by simp)
    rw [l0] at hl2
    have hk : j0 < ps.length := by
      rcases Nat.lt_or_ge j0 ps.length with h | h
      · exact h
      · rw [List.drop_eq_nil_of_le h] at hd; cases hd
    rw [List.drop_eq_getElem_cons hk] at hd
    injection hd with hd1 hd2
    obtain ⟨sa, sb, hq3⟩ := hp p (by rw [← hd1]; exact List.getElem_mem hk)
    have ha : (ps.map (wP l1))[j0]? = some (.tup [.int (wA l1 p), .int (wB l1 p)]) := by rw [List.getElem?_map, List.getElem?_eq_getElem hk, hd1]; rfl
    obtain ⟨lr1, a11, a12, a13, a14, a15, e, el, ef⟩ := lt_in (S := S) (v0 := v0) (v1 := .dat (.lst (qs.map T))) (v3 := v3) (v4 := v4) (v5 := v5) (v9 := v9) (v10 := v10) h1 h2 hq3 sa sb hq ha qs 0 lr v11 v12 v13 v14 v15 rfl (by omega)
    obtain ⟨lr2, b8, b11, b12, b13, b14, b15, e', el', ef'⟩ := lt_out h1 h2 hp hq lq rest (j0 + 1) lr1 (.dat (.int (j0 : Nat))) a11 a12 a13 a14 a15 hd2 (fun _ => by rw [el]; omega)
    refine ⟨lr2, b8, b11, b12, b13, b14, b15, ?_, by rw [el', el], ?_⟩
    · rw [l0, List.range'_succ, List.map_cons, forL_cons, evG_nm, bnd_some]
      show bnd (evSs G_Lrow_times ltJ [v0, .dat (.lst (qs.map T)), .dat (.cell S.length), v3, v4, v5, .dat (.cell (S.length + 1)), .dat (.cell (S.length + 2)), .dat (.int (j0 : Nat)), v9, v10, v11, v12, v13, v14, v15] _) _ = _
      have hJ : ltJ = .cons (.for_ (.nm 11) (.range1 (.bi .len (.cons (.nm 1) .nil))) ltK) .nil := rfl
      have w : evW G_Lrow_times (.range1 (.bi .len (.cons (.nm 1) .nil))) [v0, .dat (.lst (qs.map T)), .dat (.cell S.length), v3, v4, v5, .dat (.cell (S.length + 1)), .dat (.cell (S.length + 2)), .dat (.int (j0 : Nat)), v9, v10, v11, v12, v13, v14, v15] (st3 S [.lst (ps.map (wP l1)), .lst (qs.map (wP l2))] (Lx lr) (Ly lr)) = some ((List.range' 0 qs.length).map fun i => D.int (i : Nat), st3 S [.lst (ps.map (wP l1)), .lst (qs.map (wP l2))] (Lx lr) (Ly lr)) := by
        rw [← List.range_eq_range']
        exact range1_nat (by rw [← List.length_map (f := T)]; rfl) (big_ok (by omega))
      rw [hJ, st_nx (ev_for (S1 := st3 S [.lst (ps.map (wP l1)), .lst (qs.map (wP l2))] (Lx lr) (Ly lr)) rfl w e) (evSs_nil), bnd_some]
      exact e'
    · rw [ef', ef, Nat.add_zero]
      rfl
theorem lt_row {D0 D1 D2 : D} {wl : List D} {dn : Int} (sd : sz K dn) (hK : K ≤ 1000) (hp : ∀ p ∈ ps, hb 30 p) (hl : ps.length ≤ 30) (hwl : wl.length ≤ 100) : ∃ a, (bnd (evG G_Lrow_times (.nm 4) (.lst (ps.map T)) [v0, v1, .dat (.cell S.length), .dat (.int dn), v4, v5, v6, v7, v8, v9, v10, v11, v12, v13, v14, v15] (S ++ [wl])) fun L2 S2 => evSs G_Lrow_times ltO L2 S2) =
    some ((.nx, [v0, v1, .dat (.cell S.length), .dat (.int (dn * lowF 1 ps)), .dat (.lst (ps.map T)), v5, v6, v7, v8, .dat (.int (lowF 1 ps)), a, v11, v12, v13, v14, v15]), S ++ [wl ++ [.lst (ps.map (wP (lowF 1 ps)))]]) ∧ sz (1 + 30 * ps.length) (lowF 1 ps) := by
  obtain ⟨a, e, hs⟩ := low_loop (S := S ++ [wl]) (v0 := v0) (v1 := v1) (v2 := .dat (.cell S.length)) (v3 := .dat (.int dn)) (v4 := .dat (.lst (ps.map T))) (v5 := v5) (v6 := v6) (v7 := v7) (v8 := v8) (v11 := v11) (v12 := v12) (v13 := v13) (v14 := v14) (v15 := v15) ps 1 1 v10 (by decide) (by unfold sz; decide) (by omega) hp
  have l0 : 0 < lowF 1 ps := (lowF_facts ps 1 (by decide)).1
  have c := whole_comp (S := S ++ [wl]) (v0 := v0) (v1 := v1) (v2 := .dat (.cell S.length)) (v3 := .dat (.int dn)) (v5 := v5) (v6 := v6) (v7 := v7) (v8 := v8) (v10 := a) (v11 := v11) (v12 := v12) (v13 := v13) (v14 := v14) (v15 := v15) l0 hs (by omega) hp (by omega)
  refine ⟨a, ?_, hs⟩
  have om : okMul dn (lowF 1 ps) = true := okMul_sz sd hs (by omega)
  have hO : ltO = .cons (ltO.nth 0) (.cons (.for_ (.nm 10) (.seq (.nm 4)) ltL) (.cons (ltO.nth 2) (.cons (ltO.nth 3) .nil))) := rfl
  rw [evG_nm, bnd_some, hO]
  refine st_nx (L2 := [v0, v1, .dat (.cell S.length), .dat (.int dn), .dat (.lst (ps.map T)), v5, v6, v7, v8, .dat (.int 1), v10, v11, v12, v13, v14, v15]) (S2 := S ++ [wl]) rfl ?_
  have w : evW G_Lrow_times (.seq (.nm 4)) [v0, v1, .dat (.cell S.length), .dat (.int dn), .dat (.lst (ps.map T)), v5, v6, v7, v8, .dat (.int 1), v10, v11, v12, v13, v14, v15] (S ++ [wl]) = some (ps.map T, S ++ [wl]) := rfl
  refine st_nx (ev_for rfl w e) ?_
  have g1 : (S ++ [wl])[S.length]? = some wl := by simp
  have g2 : (S ++ [wl]).set S.length (wl ++ [.lst (ps.map (wP (lowF 1 ps)))]) = S ++ [wl ++ [.lst (ps.map (wP (lowF 1 ps)))]] := by simp
  have g3 : wl.length < line := lt_line (by omega)
  refine st_nx (L2 := [v0, v1, .dat (.cell S.length), .dat (.int dn), .dat (.lst (ps.map T)), v5, v6, v7, v8, .dat (.int (lowF 1 ps)), a, v11, v12, v13, v14, v15]) (S2 := S ++ [wl ++ [.lst (ps.map (wP (lowF 1 ps)))]]) ?_ ?_
  · have hh : ltO.nth 2 = .app 2 (.fr (.comp (.tup (.cons (.bin .mul (.ix (.nm 10) (.lit (.int 0))) (.bin .fdiv (.nm 9) (.ix (.nm 10) (.lit (.int 2))))) (.cons (.bin .mul (.ix (.nm 10) (.lit (.int 1))) (.bin .fdiv (.nm 9) (.ix (.nm 10) (.lit (.int 2))))) .nil))) (.nm 10) (.seq (.nm 4)) .none [10])) := rfl
    rw [hh, evS_app, evX_fr, c]
    generalize S.length = nn at *
    simp [g1, g2, g3]
  refine st_nx (L2 := [v0, v1, .dat (.cell S.length), .dat (.int (dn * lowF 1 ps)), .dat (.lst (ps.map T)), v5, v6, v7, v8, .dat (.int (lowF 1 ps)), a, v11, v12, v13, v14, v15]) (S2 := S ++ [wl ++ [.lst (ps.map (wP (lowF 1 ps)))]]) ?_ rfl
  simp [ltO, Sms.nth, Sm.body, b_Lrow_times, om]
theorem w_facts (hp : ∀ p ∈ ps, hb 30 p) (hs : sz k (lowF 1 ps)) (hk : k ≤ 1000) : ∀ p ∈ ps, sz 2000 (wA (lowF 1 ps) p) ∧ sz 2000 (wB (lowF 1 ps) p) ∧ q3 (wA (lowF 1 ps) p) (wB (lowF 1 ps) p) (lowF 1 ps) = p := fun p h => by
  obtain ⟨a, b, c⟩ := lowF_facts ps 1 (by decide)
  have d0 : 0 < dnm p := t3_pos p
  have sm : sz k (lowF 1 ps / dnm p) := hs.le (by
    have h1 := Int.ediv_le_self (dnm p) (show 0 ≤ lowF 1 ps by omega)
    have h2 := Int.ediv_nonneg (show 0 ≤ lowF 1 ps by omega) (show 0 ≤ dnm p by omega)
    omega)
  exact ⟨((hp p h).1.mul sm).mono (by omega), ((hp p h).2.1.mul sm).mono (by omega), q3_low a (c p h)⟩
theorem lt_cut {many : Nat} {dn : Int} {lr : List (Int × Int)} (hd : dn ≠ 0) (sd : sz K dn) (hK : K < 9000) (hl : lr.length = many) (hm : many ≤ 1000) {nl nr : Nat} (g1 : S[nl]? = some (Lx lr)) (g2 : S[nr]? = some (Ly lr)) :
    evF G_Lrow_times (.comp (.call 2 (.cons (.ix (.nm 6) (.nm 11)) (.cons (.ix (.nm 7) (.nm 11)) (.cons (.nm 3) .nil))) .nil) (.nm 11) (.range1 (.nm 5)) .none [11]) [v0, v1, v2, .dat (.int dn), v4, .dat (.int (many : Nat)), .dat (.cell nl), .dat (.cell nr), v8, v9, v10, v11, v12, v13, v14, v15] S = some ((lr.map fun z => q3 z.1 z.2 dn).map T, S) := by
  rw [evF_comp, range1_nat (m := many) (S := S) (S1 := S) rfl (big_ok hm), bnd_some, List.length_map, List.length_range, if_pos (lt_line hm)]
  have e : (lr.map fun z => q3 z.1 z.2 dn).map T = (List.range many).map fun i => T (cf (lr.map fun z => q3 z.1 z.2 dn) i) := by
    refine List.ext_getElem? fun i => ?_
    by_cases h : i < many
    · rw [List.getElem?_map, List.getElem?_map, List.getElem?_map, List.getElem?_range h, List.getElem?_eq_getElem (by omega : i < lr.length), Option.map_some, Option.map_some, Option.map_some]
      unfold cf
      rw [List.getElem?_map, List.getElem?_eq_getElem (by omega : i < lr.length)]
      rfl
    · rw [List.getElem?_eq_none (by simp; omega), List.getElem?_eq_none (by simp; omega)]
  rw [e]
  refine compL_map (f := fun i => T (cf (lr.map fun z => q3 z.1 z.2 dn) i)) _ fun i hi => ?_
  have hi := List.mem_range.mp hi
  obtain ⟨⟨x, y⟩, hz⟩ : ∃ z, lr[i]? = some z := ⟨_, List.getElem?_eq_getElem (by omega)⟩
  have e1 : cf (lr.map fun z => q3 z.1 z.2 dn) i = q3 x y dn := by unfold cf; rw [List.getElem?_map, hz]; rfl
  have a1 : atI (Lx lr) ((i : Nat) : Int) = some (.int x) := by rw [atI_natE]; unfold Lx; rw [List.getElem?_map, hz]; rfl
  have a2 : atI (Ly lr) ((i : Nat) : Int) = some (.int y) := by rw [atI_natE]; unfold Ly; rw [List.getElem?_map, hz]; rfl
  have cc := r_Lcut (S := S) (a := x) (b := y) hd sd hK
  rw [e1]
  generalize ((i : Nat) : Int) = j at a1 a2 ⊢
  generalize ((many : Nat) : Int) = MM
  generalize Lx lr = lx at *
  generalize Ly lr = ly at *
  simp [G_Lrow_times, e_Lcut_3, pick, a1, a2, g1, g2, cc]
end
end W

set_option Elab.async false
set_option linter.all false
set_option autoImplicit false
set_option maxRecDepth 100000
set_option maxHeartbeats 2000000
namespace W
open PySem PySem.Spec PyProof.Rows L2 PD
section
variable {S : Store} {k l m N n K M : Nat} {p q : Cq} {ps qs : List Cq} {v0 v1 v2 v3 v4 v5 v6 v7 v8 v9 v10 v11 v12 v13 v14 v15 : Lv} {low l1 l2 : Int}
theorem pureT (p : Cq) : D.pure (T p) = true := rfl
theorem puresT : ∀ ps : List Cq, D.pures (ps.map T) = true
  | [] => rfl
  | p :: ps => by show (D.pure (T p) && D.pures (ps.map T)) = true; rw [puresT ps]; rfl
theorem q3_00 {d : Int} : q3 0 0 d = 0 := by unfold q3; rw [Rat.zero_divInt]; rfl
theorem lt_many {A B : Nat} : (if (A : Int) + (B : Int) - 1 > 0 then (A : Int) + (B : Int) - 1 else 0) = ((A + B - 1 : Nat) : Int) := by
  split <;> omega
theorem lt_ret {X B : D} {L : PD.Loc} {f : Fx} (h : evXs G_Lrow_times (.cons (.fr f) .nil) L S = some ([.d X], S)) (t : runF G_Ltrim 3 b_Ltrim [X] S = some (B, S)) : evX G_Lrow_times (.call 1 (.cons (.fr f) .nil) .nil) L S = some (.d B, S) := by
  rw [evX_call, h]
  show bnd (runF G_Ltrim 3 b_Ltrim [X] S) _ = _
  rw [t]
  rfl
theorem r_Lrow_times0 (hp : ∀ p ∈ ps, hb 30 p) (hq : ∀ p ∈ qs, hb 30 p) (lp : ps.length ≤ 15) (lq : qs.length ≤ 15) : ∃ a b c, runF G_Lrow_times 16 b_Lrow_times [.lst (ps.map T), .lst (qs.map T)] S = some (.lst ((trimN (mulL ps qs)).map T), st3 S a b c) := by
  obtain ⟨A, hA⟩ : ∃ A, D.lst (ps.map T) = A := ⟨_, rfl⟩
  obtain ⟨B, hB⟩ : ∃ B, D.lst (qs.map T) = B := ⟨_, rfl⟩
  obtain ⟨a1, e1, s1⟩ := lt_row (S := S) (ps := ps) (v0 := .dat A) (v1 := .dat B) (v4 := .un) (v5 := .un) (v6 := .un) (v7 := .un) (v8 := .un) (v9 := .un) (v10 := .un) (v11 := .un) (v12 := .un) (v13 := .un) (v14 := .un) (v15 := .un) (D0 := A) (D1 := A) (D2 := A) (wl := []) (dn := 1) (K := 1) (by unfold sz; decide) (by decide) hp (by omega) (by decide)
  obtain ⟨a2, e2, s2⟩ := lt_row (S := S) (ps := qs) (v0 := .dat A) (v1 := .dat B) (v4 := .dat (.lst (ps.map T))) (v5 := .un) (v6 := .un) (v7 := .un) (v8 := .un) (v9 := .dat (.int (lowF 1 ps))) (v10 := a1) (v11 := .un) (v12 := .un) (v13 := .un) (v14 := .un) (v15 := .un) (D0 := A) (D1 := A) (D2 := A) (wl := [] ++ [.lst (ps.map (wP (lowF 1 ps)))]) (dn := 1 * lowF 1 ps) (K := 1 + 30 * ps.length) (by rw [Int.one_mul]; exact s1) (by omega) hq (by omega) (by simp)
  have p1 : 0 < lowF 1 ps := (lowF_facts ps 1 (by decide)).1
  have p2 : 0 < lowF 1 qs := (lowF_facts qs 1 (by decide)).1
  rw [Int.one_mul] at e2
  simp only [List.nil_append, List.singleton_append] at e1 e2
  have f1 := w_facts hp s1 (by omega)
  have f2 := w_facts hq s2 (by omega)
  obtain ⟨lr, b8, b11, b12, b13, b14, b15, e3, el, ef⟩ := lt_out (S := S) (v0 := .dat A) (v3 := .dat (.int (lowF 1 ps * lowF 1 qs))) (v4 := .dat (.lst (qs.map T))) (v5 := .dat (.int ((ps.length + qs.length - 1 : Nat) : Int))) (v9 := .dat (.int (lowF 1 qs))) (v10 := a2) p1 p2 f1 f2 (by omega) ps 0 (List.replicate (ps.length + qs.length - 1) (0, 0)) .un .un .un .un .un .un rfl (fun h => by
    have : 0 < ps.length := List.length_pos_iff.mpr h
    rw [List.length_replicate]; omega)
  rw [List.length_replicate] at el
  rw [List.map_replicate] at ef
  have ef2 : (lr.map fun z => q3 z.1 z.2 (lowF 1 ps * lowF 1 qs)) = mulL ps qs := by
    rw [ef]
    show outF qs (List.replicate (ps.length + qs.length - 1) (q3 0 0 (lowF 1 ps * lowF 1 qs))) 0 ps = _
    rw [q3_00]; rfl
  have zx : Lx (List.replicate (ps.length + qs.length - 1) (0, 0)) = List.replicate (ps.length + qs.length - 1) (.int 0) := by unfold Lx; rw [List.map_replicate]
  have zy : Ly (List.replicate (ps.length + qs.length - 1) (0, 0)) = List.replicate (ps.length + qs.length - 1) (.int 0) := by unfold Ly; rw [List.map_replicate]
  rw [zx, zy] at e3
  refine ⟨_, _, _, (?_ : _ = some (_, st3 S [.lst (ps.map (wP (lowF 1 ps))), .lst (qs.map (wP (lowF 1 qs)))] (Lx lr) (Ly lr)))⟩
  have cc := lt_cut (S := st3 S [.lst (ps.map (wP (lowF 1 ps))), .lst (qs.map (wP (lowF 1 qs)))] (Lx lr) (Ly lr)) (v0 := .dat A) (v1 := .dat (.lst (qs.map T))) (v2 := .dat (.cell S.length)) (v4 := .dat (.lst (qs.map T))) (v8 := b8) (v9 := .dat (.int (lowF 1 qs))) (v10 := a2) (v11 := b11) (v12 := b12) (v13 := b13) (v14 := b14) (v15 := b15) (dn := lowF 1 ps * lowF 1 qs) (K := 1 + 30 * ps.length + (1 + 30 * qs.length)) (many := ps.length + qs.length - 1) (by have := Int.mul_pos p1 p2; omega) (s1.mul s2) (by omega) el (by omega) st3_1 st3_2
  rw [ef2] at cc
  have t := r_Ltrim (S := st3 S [.lst (ps.map (wP (lowF 1 ps))), .lst (qs.map (wP (lowF 1 qs)))] (Lx lr) (Ly lr)) (ps := mulL ps qs) (by rw [← ef2, List.length_map, el]; omega)
  have ce := lt_ret (by rw [evXs_cons, evX_fr, cc]; rfl) t
  have go : evSs G_Lrow_times b_Lrow_times [.dat A, .dat B, .un, .un, .un, .un, .un, .un, .un, .un, .un, .un, .un, .un, .un, .un] S = some ((.ret (.lst ((trimN (mulL ps qs)).map T)), [.dat A, .dat (.lst (qs.map T)), .dat (.cell S.length), .dat (.int (lowF 1 ps * lowF 1 qs)), .dat (.lst (qs.map T)), .dat (.int ((ps.length + qs.length - 1 : Nat) : Int)), .dat (.cell (S.length + 1)), .dat (.cell (S.length + 2)), b8, .dat (.int (lowF 1 qs)), a2, b11, b12, b13, b14, b15]), st3 S [.lst (ps.map (wP (lowF 1 ps))), .lst (qs.map (wP (lowF 1 qs)))] (Lx lr) (Ly lr)) := by
    have hb0 : b_Lrow_times = .cons (b_Lrow_times.nth 0) (.cons (.for_ (.nm 4) (.seq (.fr (.disp (.cons (.nm 0) (.cons (.nm 1) .nil))))) ltO) (.cons (b_Lrow_times.nth 2) (.cons (b_Lrow_times.nth 3) (.cons (.for_ (.nm 8) (.range1 (.bi .len (.cons (.nm 0) .nil))) ltJ) (.cons (.ret (.call 1 (.cons (.fr (.comp (.call 2 (.cons (.ix (.nm 6) (.nm 11)) (.cons (.ix (.nm 7) (.nm 11)) (.cons (.nm 3) .nil))) .nil) (.nm 11) (.range1 (.nm 5)) .none [11])) .nil) .nil)) .nil))))) := rfl
    rw [hb0]
    refine st_nx (L2 := [.dat A, .dat B, .dat (.cell S.length), .dat (.int 1), .un, .un, .un, .un, .un, .un, .un, .un, .un, .un, .un, .un]) (S2 := S ++ [[]]) (by rfl) ?_
    have w0 : evW G_Lrow_times (.seq (.fr (.disp (.cons (.nm 0) (.cons (.nm 1) .nil))))) [.dat A, .dat B, .dat (.cell S.length), .dat (.int 1), .un, .un, .un, .un, .un, .un, .un, .un, .un, .un, .un, .un] (S ++ [[]]) = some ([A, B], S ++ [[]]) := rfl
    have f0 : forL (fun d L S => bnd (evG G_Lrow_times (.nm 4) d L S) fun L2 S2 => evSs G_Lrow_times ltO L2 S2) [A, B] [.dat A, .dat B, .dat (.cell S.length), .dat (.int 1), .un, .un, .un, .un, .un, .un, .un, .un, .un, .un, .un, .un] (S ++ [[]]) = some ((.nx, [.dat A, .dat B, .dat (.cell S.length), .dat (.int (lowF 1 ps * lowF 1 qs)), .dat (.lst (qs.map T)), .un, .un, .un, .un, .dat (.int (lowF 1 qs)), a2, .un, .un, .un, .un, .un]), S ++ [[.lst (ps.map (wP (lowF 1 ps))), .lst (qs.map (wP (lowF 1 qs)))]]) := by
      rw [forL_cons]
      rw [hA] at e1
      rw [e1, bnd_some]
      rw [hA, Int.one_mul] at *
      show forL _ [B] _ _ = _
      rw [forL_cons]
      rw [hB] at e2
      rw [e2, bnd_some, hB]
      rfl
    refine st_nx (ev_for rfl w0 f0) ?_
    refine st_nx (L2 := [.dat A, .dat B, .dat (.cell S.length), .dat (.int (lowF 1 ps * lowF 1 qs)), .dat (.lst (qs.map T)), .dat (.int ((ps.length + qs.length - 1 : Nat) : Int)), .un, .un, .un, .dat (.int (lowF 1 qs)), a2, .un, .un, .un, .un, .un]) (S2 := S ++ [[.lst (ps.map (wP (lowF 1 ps))), .lst (qs.map (wP (lowF 1 qs)))]]) ?_ ?_
    · have lA : biV .len [.d A] = some (.int (ps.length : Nat)) := by rw [← hA, biV_lenL, List.length_map]
      have lB : biV .len [.d B] = some (.int (qs.length : Nat)) := by rw [← hB, biV_lenL, List.length_map]
      have lm := lt_many (A := ps.length) (B := qs.length)
      generalize ((ps.length + qs.length - 1 : Nat) : Int) = MM at *
      generalize ((ps.length : Nat) : Int) = PP at *
      generalize ((qs.length : Nat) : Int) = QQ at *
      simp [b_Lrow_times, Sms.nth, lA, lB]
      simpa using lm
    refine st_nx (L2 := [.dat A, .dat B, .dat (.cell S.length), .dat (.int (lowF 1 ps * lowF 1 qs)), .dat (.lst (qs.map T)), .dat (.int ((ps.length + qs.length - 1 : Nat) : Int)), .dat (.cell (S.length + 1)), .dat (.cell (S.length + 2)), .un, .dat (.int (lowF 1 qs)), a2, .un, .un, .un, .un, .un]) (S2 := st3 S [.lst (ps.map (wP (lowF 1 ps))), .lst (qs.map (wP (lowF 1 qs)))] (List.replicate (ps.length + qs.length - 1) (.int 0)) (List.replicate (ps.length + qs.length - 1) (.int 0))) ?_ ?_
    · obtain ⟨mm, hm⟩ : ∃ mm, ps.length + qs.length - 1 = mm := ⟨_, rfl⟩
      rw [hm]
      have hm2 : mm ≤ 1000 := by omega
      have c1 : 0 ≤ ((mm : Nat) : Int) ∧ ((mm : Nat) : Int) < 2 ^ 63 ∧ [D.int 0].length * ((mm : Nat) : Int).toNat ≤ line := ⟨by omega, Int.lt_of_le_of_lt (by omega : ((mm : Nat) : Int) ≤ 1000) (by decide), by show 1 * mm ≤ line; rw [Nat.one_mul]; exact Nat.le_of_lt (lt_line hm2)⟩
      have rp : ∀ (L : PD.Loc) (S : Store), L[5]? = some (.dat (.int ((mm : Nat) : Int))) → evF G_Lrow_times (.rep (.disp (.cons (.lit (.int 0)) .nil)) (.nm 5)) L S = some (List.replicate mm (.int 0), S) := fun L S h => by
        rw [evF_rep]
        have e1 : evF G_Lrow_times (.disp (.cons (.lit (.int 0)) .nil)) L S = some ([.int 0], S) := rfl
        rw [e1, bnd_some, evX_nm, h, bnd_some]
        show lft (if 0 ≤ ((mm : Nat) : Int) ∧ ((mm : Nat) : Int) < 2 ^ 63 ∧ [D.int 0].length * ((mm : Nat) : Int).toNat ≤ line then _ else none) S = _
        rw [if_pos c1]
        show some ((List.replicate mm [D.int 0]).flatten, S) = _
        rw [List.flatten_replicate_singleton]
      have hh : b_Lrow_times.nth 3 = .asg (.tup (.cons (.nm 6) (.cons (.nm 7) .nil))) (.tup (.cons (.nwc (.rep (.disp (.cons (.lit (.int 0)) .nil)) (.nm 5))) (.cons (.nwc (.rep (.disp (.cons (.lit (.int 0)) .nil)) (.nm 5))) .nil))) := rfl
      rw [hh, evS_asg, evX_tup, evXs_cons, evX_nwc, rp _ _ rfl, bnd_some, bnd_some, evXs_cons, evX_nwc, rp _ _ rfl]
      simp [st3]
    have w1 : evW G_Lrow_times (.range1 (.bi .len (.cons (.nm 0) .nil))) [.dat A, .dat B, .dat (.cell S.length), .dat (.int (lowF 1 ps * lowF 1 qs)), .dat (.lst (qs.map T)), .dat (.int ((ps.length + qs.length - 1 : Nat) : Int)), .dat (.cell (S.length + 1)), .dat (.cell (S.length + 2)), .un, .dat (.int (lowF 1 qs)), a2, .un, .un, .un, .un, .un] (st3 S [.lst (ps.map (wP (lowF 1 ps))), .lst (qs.map (wP (lowF 1 qs)))] (List.replicate (ps.length + qs.length - 1) (.int 0)) (List.replicate (ps.length + qs.length - 1) (.int 0))) = some ((List.range' 0 ps.length).map fun i => D.int (i : Nat), st3 S [.lst (ps.map (wP (lowF 1 ps))), .lst (qs.map (wP (lowF 1 qs)))] (List.replicate (ps.length + qs.length - 1) (.int 0)) (List.replicate (ps.length + qs.length - 1) (.int 0))) := by
      rw [← List.range_eq_range']
      exact range1_nat (by rw [← List.length_map (f := T), ← hA]; rfl) (big_ok (by omega))
    rw [hB] at e3 w1 ce ⊢
    refine st_nx (ev_for rfl w1 e3) ?_
    rw [evSs_cons, evS_ret, ce]
    rfl
  rw [runF_eq, hA, hB]
  show bnd (evSs G_Lrow_times b_Lrow_times [.dat A, .dat B, .un, .un, .un, .un, .un, .un, .un, .un, .un, .un, .un, .un, .un, .un] S) _ = _
  rw [go]
  rfl
theorem r_Lrow_times (hp : ∀ p ∈ ps, hb 30 p) (hq : ∀ p ∈ qs, hb 30 p) (lp : ps.length ≤ 15) (lq : qs.length ≤ 15) : sealR S (runF G_Lrow_times 16 b_Lrow_times [.lst (ps.map T), .lst (qs.map T)] S) = some (.lst ((trimN (mulL ps qs)).map T), S) := by
  obtain ⟨a, b, c, e⟩ := r_Lrow_times0 (S := S) hp hq lp lq
  rw [e]
  unfold st3
  exact sealR_low (low_pure (by show D.pures _ = true; exact puresT _))
end
end W

set_option Elab.async false
set_option linter.all false
set_option autoImplicit false
set_option maxRecDepth 100000
set_option maxHeartbeats 2000000
namespace W
open PySem PySem.Spec PyProof.Rows L2 PD
section
variable {G : Gam} {L : PD.Loc} {S S1 S2 S3 : Store} {k l m N n nn : Nat} {p q u c z : Cq} {ps qs rs : List Cq} {fs gs : List Nat}
theorem cmpn_T00p {p : Cq} : cmpV .ne (.d (.tup [.int (t3 p).1, .int (t3 p).2.1])) (.d (.tup [.int 0, .int 0])) = some (!decide (p = 0)) := by
  have h := cmp_T00p (p := p)
  have h1 : cmpV .eq (.d (.tup [.int (t3 p).1, .int (t3 p).2.1])) (.d (.tup [.int 0, .int 0])) = (if (eqOk (.tup [.int (t3 p).1, .int (t3 p).2.1]) && eqOk (.tup [.int 0, .int 0])) = true then some (eqD (.tup [.int (t3 p).1, .int (t3 p).2.1]) (.tup [.int 0, .int 0])) else none) := rfl
  have h2 : cmpV .ne (.d (.tup [.int (t3 p).1, .int (t3 p).2.1])) (.d (.tup [.int 0, .int 0])) = (if (eqOk (.tup [.int (t3 p).1, .int (t3 p).2.1]) && eqOk (.tup [.int 0, .int 0])) = true then some (!eqD (.tup [.int (t3 p).1, .int (t3 p).2.1]) (.tup [.int 0, .int 0])) else none) := rfl
  rw [h1] at h
  rw [h2]
  by_cases hc : (eqOk (.tup [.int (t3 p).1, .int (t3 p).2.1]) && eqOk (.tup [.int 0, .int 0])) = true
  · rw [if_pos hc] at h ⊢
    injection h with h
    rw [h]
  · rw [if_neg hc] at h
    cases h
theorem T_half : T (q3 0 (-1) 2) = .tup [.int 0, .int (-1), .int 2] := by
  rw [T_q3 (by decide)]; rfl
theorem half_ok : (hb 3 (q3 0 (-1) 2) ∧ gb 1 6 (q3 0 (-1) 2)) ∧ q3 0 (-1) 2 ≠ 0 := by
  refine ⟨⟨hb_q3 (by decide) (by unfold sz; decide) (by unfold sz; decide) (by unfold sz; decide), 0, -3, (q3_up (a := 0) (b := -1) (d := 2) (c := 3) (by decide) (by decide)).symm, by unfold sz; decide, by unfold sz; decide⟩, fun e => ?_⟩
  have := (q3_zero (a := 0) (b := -1) (d := 2) (by decide)).mp e
  omega
/-- a drawn number other than 0 -/
theorem r_Lmany (h : Pl N S n) (hN : N ≤ 900000) : ∃ (p : Cq) (S' : Store), runF G_Lmany 2 b_Lmany [.cell n] S = some (T p, S') ∧ (hb 3 p ∧ gb 1 6 p) ∧ p ≠ 0 ∧ Pl (N + 4) S' n := by
  obtain ⟨p, S', e, hp, h'⟩ := r_drawn6 (a := 4) (b := 3) h hN (by decide) (by decide) (by decide) (by decide)
  have c := cmpn_T00p (p := p)
  have s := slcS_T (p := p) (S := S')
  by_cases h0 : p = 0
  · refine ⟨q3 0 (-1) 2, S', ?_, half_ok.1, half_ok.2, h'⟩
    rw [decide_eq_true h0] at c
    rw [T_half, runF_eq]
    simp [b_Lmany, G_Lmany, e_Ldrawn_3, pick, e, s, c, optI_i]
  · refine ⟨p, S', ?_, hp, h0, h'⟩
    rw [decide_eq_false h0] at c
    rw [runF_eq]
    simp [b_Lmany, G_Lmany, e_Ldrawn_3, pick, e, s, c, optI_i]
/-! ### roots -/
def rtOk (p : Cq) : Prop := hb 3 p ∧ ab1 12 (p * (1 + 1))
/-- a number drawn of small ones -/
theorem r_drawn2' {a b : Int} (h : Pl N S n) (hN : N ≤ 900000) (ha : a = 3) (hb' : b = 2) : ∃ (p : Cq) (S' : Store), runF G_Ldrawn 5 b_Ldrawn [.cell n, .int a, .int b] S = some (T p, S') ∧ rtOk p ∧ Pl (N + 4) S' n := by
  have om : okMul 2 a = true := oks (by decide) (by omega)
  obtain ⟨v, S1, e1, v0, v1, h1⟩ := r_Ldip (m := 2 * a + 1) h (by omega) (by omega) (by omega)
  obtain ⟨w, S2, e2, w0, w1, h2⟩ := r_Ldip (m := 2 * a + 1) h1 (by omega) (by omega) (by omega)
  obtain ⟨z, S3, e3, z0, z1, h3⟩ := r_Ldip (m := 3) h2 (by omega) (by decide) (by decide)
  obtain ⟨d, S4, e4, d0, d1, h4⟩ := r_Ldip (m := b) h3 (by omega) (by omega) (by omega)
  have two : (1 + 1 : Cq) = eG 2 := by decide +kernel
  have six : ∀ f : Int, f.natAbs ≤ 3 → ∀ f2 : Int, f2.natAbs ≤ 3 → ab1 12 (q3 f f2 (1 + d) * (1 + 1)) := fun f hf f2 hf2 => by
    have hd : d = 0 ∨ d = 1 := by omega
    rw [two]
    rcases hd with rfl | rfl
    · have : q3 f f2 1 * eG 2 = q3 (f * 2) (f2 * 2) 1 := by
        rw [← q3_up (a := f) (b := f2) (d := 1) (c := 2) (by decide) (by decide)]
        exact q3_D (by decide)
      exact ⟨f * 2, f2 * 2, this, by omega⟩
    · exact ⟨f, f2, q3_D (by decide), by omega⟩
  by_cases hz : z = 0
  · have ec := r_Lcut (a := v - a) (b := 0) (d := 1 + d) (k := 5) (S := S4) (by omega) (by unfold sz; omega) (by decide)
    refine ⟨q3 (v - a) 0 (1 + d), S4, ?_, ⟨hb_q3 (by omega) (by unfold sz; omega) (by unfold sz; decide) (by unfold sz; omega), six _ (by omega) _ (by decide)⟩, h4⟩
    rw [runF_eq]
    simp [b_Ldrawn, G_Ldrawn, e_Ldip_2, e_Lcut_3, pick, om, e1, e2, e3, hz, e4, ec]
  · have ec := r_Lcut (a := v - a) (b := w - a) (d := 1 + d) (k := 5) (S := S4) (by omega) (by unfold sz; omega) (by decide)
    refine ⟨q3 (v - a) (w - a) (1 + d), S4, ?_, ⟨hb_q3 (by omega) (by unfold sz; omega) (by unfold sz; omega) (by unfold sz; omega), six _ (by omega) _ (by omega)⟩, h4⟩
    rw [runF_eq]
    simp [b_Ldrawn, G_Ldrawn, e_Ldip_2, e_Lcut_3, pick, om, e1, e2, e3, hz, e4, ec]
theorem r_drawn2 (h : Pl N S n) (hN : N ≤ 900000) : ∃ (p : Cq) (S' : Store), runF G_Ldrawn 5 b_Ldrawn [.cell n, .int 3, .int 2] S = some (T p, S') ∧ rtOk p ∧ Pl (N + 4) S' n := r_drawn2' h hN rfl rfl
theorem notin_b (x : D) (xs : List D) : cmpV .notin (.d x) (.b xs) = cmpV .notin (.d x) (.d (.lst xs)) := rfl
def rtB : Sms := (b_Lroots.nth 1).body
theorem roots_loop : ∀ (ds : List D) (as : List Cq) (S : Store) (N : Nat) (v2 v3 : Lv), Pl N S n → N + 4 * ds.length ≤ 900000 → (∀ a ∈ as, rtOk a) → as.Nodup → as.length + ds.length ≤ 900 →
    ∃ (bs : List Cq) (S' : Store) (w2 w3 : Lv), forL (fun d L S => bnd (evG G_Lroots (.nm 2) d L S) fun L2 S2 => evSs G_Lroots rtB L2 S2) ds [.dat (.cell n), .own (as.map T), v2, v3] S = some ((.nx, [.dat (.cell n), .own (bs.map T), w2, w3]), S') ∧ (∀ a ∈ bs, rtOk a) ∧ bs.Nodup ∧ bs.length ≤ as.length + ds.length ∧ Pl (N + 4 * ds.length) S' n
  | [], as, S, N, v2, v3, h, _, ha, hn, _ => ⟨as, S, v2, v3, rfl, ha, hn, Nat.le_refl _, h⟩
  | d :: ds, as, S, N, v2, v3, h, hN, ha, hn, hl => by
    have l0 : (d :: ds).length = ds.length + 1 := rfl
    rw [l0] at hN hl ⊢
    obtain ⟨p, S1, e1, hp, h1⟩ := r_drawn2 h (by omega)
    have step : ∃ as1 : List Cq, (bnd (evG G_Lroots (.nm 2) d [.dat (.cell n), .own (as.map T), v2, v3] S) fun L2 S2 => evSs G_Lroots rtB L2 S2) = some ((.nx, [.dat (.cell n), .own (as1.map T), .dat d, .dat (T p)]), S1) ∧ (∀ a ∈ as1, rtOk a) ∧ as1.Nodup ∧ as1.length ≤ as.length + 1 := by
      have hl0 : (as.map T).length < line := lt_line (by rw [List.length_map]; omega)
      by_cases hm : p ∈ as
      · have cm := notin_f cmpok_T (by decide) hm
        refine ⟨as, ?_, ha, hn, by omega⟩
        generalize as.map T = A at *
        simp [rtB, b_Lroots, Sms.nth, Sm.body, G_Lroots, e_Ldrawn_3, pick, e1, notin_b, cm]
      · have cm := notin_t cmpok_T (by decide) hm
        refine ⟨as ++ [p], ?_, fun a h => ?_, ?_, by rw [List.length_append]; exact Nat.le_refl _⟩
        · rw [List.map_append, List.map_singleton]
          generalize as.map T = A at *
          simp [rtB, b_Lroots, Sms.nth, Sm.body, G_Lroots, e_Ldrawn_3, pick, e1, notin_b, cm, hl0]
        · rcases List.mem_append.mp h with h | h
          · exact ha a h
          · rw [List.mem_singleton.mp h]; exact hp
        · rw [List.nodup_append]
          exact ⟨hn, by simp, fun a ha b hb e => hm (by rw [List.mem_singleton.mp hb] at e; rw [← e]; exact ha)⟩
    obtain ⟨as1, st, ha1, hn1, hl1⟩ := step
    obtain ⟨bs, S', w2, w3, e, hb', hn', hl', h'⟩ := roots_loop ds as1 S1 (N + 4) (.dat d) (.dat (T p)) h1 (by omega) ha1 hn1 (by omega)
    refine ⟨bs, S', w2, w3, ?_, hb', hn', by omega, by rw [show N + 4 * (ds.length + 1) = N + 4 + 4 * ds.length by omega]; exact h'⟩
    rw [forL_cons, st, bnd_some]
    exact e
theorem r_Lroots (h : Pl N S n) (hN : N ≤ 800000) : ∃ (bs : List Cq) (S' : Store), runF G_Lroots 4 b_Lroots [.cell n] S = some (.lst (bs.map T), S') ∧ (∀ a ∈ bs, rtOk a) ∧ bs.Nodup ∧ bs.length ≤ 3 ∧ Pl (N + 20) S' n := by
  obtain ⟨v, S1, e1, v0, v1, h1⟩ := r_Ldip (m := 4) h (by omega) (by decide) (by decide)
  obtain ⟨j, rfl⟩ : ∃ j : Nat, v = (j : Nat) := ⟨v.toNat, by omega⟩
  obtain ⟨bs, S', w2, w3, e, hb', hn', hl', h'⟩ := roots_loop (n := n) ((List.range j).map fun i => D.int (i : Nat)) [] S1 (N + 1) .un .un h1 (by rw [List.length_map, List.length_range]; omega) (fun a h => by cases h) List.nodup_nil (by rw [List.length_map, List.length_range]; show 0 + j ≤ _; omega)
  rw [List.length_map, List.length_range] at hl' h'
  refine ⟨bs, S', ?_, hb', hn', by have : ([] : List Cq).length = 0 := rfl; omega, h'.mono (by omega)⟩
  have w : evW G_Lroots (.range1 (.call 0 (.cons (.nm 0) (.cons (.lit (.int 4)) .nil)) .nil)) [.dat (.cell n), .own [], .un, .un] S = some ((List.range j).map fun i => D.int (i : Nat), S1) := by
    refine range1_nat ?_ (big_ok (by omega))
    simp [G_Lroots, e_Ldip_2, pick, e1]
  have c := ev_for (G := G_Lroots) (t := .nm 2) (b := rtB) (S1 := S1) rfl w e
  have hb0 : b_Lroots = .cons (.own 1 (.disp .nil)) (.cons (.for_ (.nm 2) (.range1 (.call 0 (.cons (.nm 0) (.cons (.lit (.int 4)) .nil)) .nil)) rtB) (.cons (.fz 1) (.cons (.ret (.nm 1)) .nil))) := rfl
  have go : evSs G_Lroots b_Lroots [.dat (.cell n), .un, .un, .un] S = some ((.ret (.lst (bs.map T)), [.dat (.cell n), .dat (.lst (bs.map T)), w2, w3]), S') := by
    rw [hb0]
    refine st_nx (L2 := [.dat (.cell n), .own [], .un, .un]) (S2 := S) rfl ?_
    refine st_nx c ?_
    rfl
  rw [runF_eq]
  show bnd (evSs G_Lroots b_Lroots [.dat (.cell n), .un, .un, .un] S) _ = _
  rw [go]
  rfl
end
end W

set_option Elab.async false
set_option linter.all false
set_option autoImplicit false
set_option maxRecDepth 100000
set_option maxHeartbeats 2000000
namespace W
open PySem PySem.Spec PyProof.Rows L2 PD
section
variable {G : Gam} {L : PD.Loc} {S S1 S2 S3 : Store} {k l m N n nn : Nat} {p q u c z : Cq} {ps qs rs as : List Cq} {f g : Nat → Nat}
theorem repx {e : Xp} {d : D} {f : Fx} (hf : evF G f L S = some ([d], S)) (h : evX G e L S = some (.d (.int (k : Nat)), S1)) (hk : k ≤ 1000) : evF G (.rep f e) L S = some (List.replicate k d, S1) := by
  rw [evF_rep, hf, bnd_some, h, bnd_some]
  show lft (if 0 ≤ ((k : Nat) : Int) ∧ ((k : Nat) : Int) < 2 ^ 63 ∧ [d].length * ((k : Nat) : Int).toNat ≤ line then some (List.replicate ((k : Nat) : Int).toNat [d]).flatten else none) S1 = _
  rw [if_pos ⟨by omega, by omega, by show 1 * k ≤ line; rw [Nat.one_mul]; exact Nat.le_of_lt (lt_line (by omega))⟩, List.flatten_replicate_singleton]
  rfl
theorem catx {e f : Xp} {xs ys : List D} (h : evX G e L S = some (.d (.lst xs), S1)) (h2 : evX G f L S1 = some (.d (.lst ys), S2)) (hl : xs.length + ys.length ≤ 1000) : evF G (.cat e f) L S = some (xs ++ ys, S2) := by
  rw [evF_cat, h, bnd_some, h2, bnd_some]
  show lft (if xs.length + ys.length ≤ line then some (xs ++ ys) else none) S2 = _
  rw [if_pos (Nat.le_of_lt (lt_line hl))]; rfl
/-- whole numbers in a list -/
def IL (f : Nat → Nat) (m : Nat) : D := .lst ((List.range m).map fun i => .int (f i : Nat))
theorem IL_at {i m : Nat} (h : i < m) : ((List.range m).map fun i => D.int (f i : Nat))[i]? = some (.int (f i : Nat)) := by
  rw [List.getElem?_map, List.getElem?_range h]; rfl
def spB : Sms := (b_Lspread.nth 1).body
theorem spread_loop (hf : ∀ i, f i ≤ 5) (hl : rs.length ≤ 10) : ∀ (r j : Nat) (v3 : Lv), j + r = rs.length → ∃ w3, forL (fun d L S => bnd (evG G_Lspread (.nm 3) d L S) fun L2 S2 => evSs G_Lspread spB L2 S2) ((List.range' j r).map fun i => D.int (i : Nat)) [.dat (.lst (rs.map T)), .dat (IL f rs.length), .dat (.lst ((sprN rs f j).map T)), v3] S = some ((.nx, [.dat (.lst (rs.map T)), .dat (IL f rs.length), .dat (.lst ((sprN rs f (j + r)).map T)), w3]), S)
  | 0, j, v3, _ => ⟨v3, rfl⟩
  | r + 1, j, v3, h => by
    obtain ⟨w3, e⟩ := spread_loop hf hl r (j + 1) (.dat (.int (j : Nat))) (by omega)
    refine ⟨w3, ?_⟩
    have ls : ∀ j, j ≤ 10 → (sprN rs f j).length ≤ 50 := fun j hj => by
      have : ∀ j, (sprN rs f j).length ≤ 5 * j := fun j => by
        induction j with
        | zero => exact Nat.le_refl _
        | succ j ih => have := hf j; rw [spr_len]; omega
      have := this j
      omega
    have lj := ls j (by omega)
    have fj := hf j
    have st : (bnd (evG G_Lspread (.nm 3) (.int (j : Nat)) [.dat (.lst (rs.map T)), .dat (IL f rs.length), .dat (.lst ((sprN rs f j).map T)), v3] S) fun L2 S2 => evSs G_Lspread spB L2 S2) = some ((.nx, [.dat (.lst (rs.map T)), .dat (IL f rs.length), .dat (.lst ((sprN rs f (j + 1)).map T)), .dat (.int (j : Nat))]), S) := by
      have hB : spB = .cons (.asg (.nm 2) (.fr (.cat (.nm 2) (.fr (.rep (.disp (.cons (.ix (.nm 0) (.nm 3)) .nil)) (.ix (.nm 1) (.nm 3))))))) .nil := rfl
      rw [evG_nm, bnd_some, hB]
      show evSs G_Lspread _ [.dat (.lst (rs.map T)), .dat (IL f rs.length), .dat (.lst ((sprN rs f j).map T)), .dat (.int (j : Nat))] S = _
      have e1 : evX G_Lspread (.ix (.nm 0) (.nm 3)) [.dat (.lst (rs.map T)), .dat (IL f rs.length), .dat (.lst ((sprN rs f j).map T)), .dat (.int (j : Nat))] S = some (.d (T (cf rs j)), S) := ixL (nmx rfl) (nmx rfl) (by rw [List.getElem?_map, cf_lt (by omega)]; rfl)
      have e2 : evX G_Lspread (.ix (.nm 1) (.nm 3)) [.dat (.lst (rs.map T)), .dat (IL f rs.length), .dat (.lst ((sprN rs f j).map T)), .dat (.int (j : Nat))] S = some (.d (.int (f j : Nat)), S) := ixL (nmx rfl) (nmx rfl) (IL_at (by omega))
      have e3 : evF G_Lspread (.disp (.cons (.ix (.nm 0) (.nm 3)) .nil)) [.dat (.lst (rs.map T)), .dat (IL f rs.length), .dat (.lst ((sprN rs f j).map T)), .dat (.int (j : Nat))] S = some ([T (cf rs j)], S) := by
        rw [evF_disp, evXs_cons, e1]; rfl
      refine st_nx (asgx (frx (catx (nmx rfl) (frx (repx e3 e2 (by omega))) (by rw [List.length_map, List.length_replicate]; omega)))) ?_
      show some ((Fl.nx, [Lv.dat (.lst (rs.map T)), .dat (IL f rs.length), .dat (.lst ((sprN rs f j).map T ++ List.replicate (f j) (T (cf rs j)))), .dat (.int (j : Nat))]), S) = _
      rw [show (sprN rs f (j + 1)).map T = (sprN rs f j).map T ++ List.replicate (f j) (T (cf rs j)) by
        show (sprN rs f j ++ List.replicate (f j) (cf rs j)).map T = _
        rw [List.map_append, List.map_replicate]]
    rw [List.range'_succ, List.map_cons, forL_cons, st, bnd_some, show j + (r + 1) = j + 1 + r by omega]
    exact e
theorem r_Lspread (hf : ∀ i, f i ≤ 5) (hl : rs.length ≤ 10) : runF G_Lspread 4 b_Lspread [.lst (rs.map T), IL f rs.length] S = some (.lst ((sprN rs f rs.length).map T), S) := by
  obtain ⟨w3, e⟩ := spread_loop (S := S) hf hl rs.length 0 .un (by omega)
  rw [Nat.zero_add] at e
  have w : evW G_Lspread (.range1 (.bi .len (.cons (.nm 0) .nil))) [.dat (.lst (rs.map T)), .dat (IL f rs.length), .dat (.lst []), .un] S = some ((List.range' 0 rs.length).map fun i => D.int (i : Nat), S) := by
    rw [← List.range_eq_range']
    refine range1_nat (m := rs.length) ?_ (big_ok (by omega))
    have := lenL (G := G_Lspread) (a := .nm 0) (L := [.dat (.lst (rs.map T)), .dat (IL f rs.length), .dat (.lst []), .un]) (S := S) (S1 := S) (ds := rs.map T) (nmx rfl)
    rw [List.length_map] at this
    exact this
  refine run_en ?_
  show ∃ L', evSs G_Lspread (.cons (.asg (.nm 2) (.fr (.disp .nil))) (.cons (.for_ (.nm 3) (.range1 (.bi .len (.cons (.nm 0) .nil))) spB) (.cons (.ret (.nm 2)) .nil))) [.dat (.lst (rs.map T)), .dat (IL f rs.length), .un, .un] S = _
  refine en_nx (L2 := [.dat (.lst (rs.map T)), .dat (IL f rs.length), .dat (.lst []), .un]) (S2 := S) rfl ?_
  refine en_nx (ev_for (S1 := S) rfl w e) ?_
  exact en_ret (retx (nmx rfl))
/-! ### products of linear factors by the law's own hand -/
theorem T_one : T (1 : Cq) = .tup [.int 1, .int 0, .int 1] := rfl
theorem trim_mul (as : List Cq) (a : Cq) : trimN (mulL (lnP as) [-a, 1]) = lnP (a :: as) := by
  refine lastOk_ext lastOk_trimN (lnP_ok _) fun i => ?_
  rw [cf_trim, cf_mulL_cv, lnP_cf, cv_comm]
theorem lnP_hb (h : ∀ a ∈ as, ab1 12 (a * (1 + 1))) (hl : as.length ≤ 6) : ∀ c ∈ lnP as, hb 23 c := by
  have le : 14 ^ as.length < 2 ^ 23 := Nat.lt_of_le_of_lt (Nat.pow_le_pow_right (by decide) hl) (by decide)
  have tw : ∀ n, twN n = eG (2 ^ n) := fun n => by
    induction n with
    | zero => decide +kernel
    | succ n ih =>
      show twN n * (1 + 1) = _
      rw [ih, show (1 + 1 : Cq) = eG 2 by decide +kernel]
      unfold eG
      have := q3_mul (a := 2 ^ n) (b := 0) (d := 1) (a' := 2) (b' := 0) (d' := 1) (by decide) (by decide)
      rw [Int.mul_zero, Int.sub_zero, Int.mul_zero, Int.zero_mul, Int.add_zero, Int.one_mul] at this
      rw [Int.pow_succ]
      exact this.symm
  intro c hc
  obtain ⟨a, b, e, x, y⟩ := (lnP_rs as h).gz le c hc
  have pw : (0 : Int) < 2 ^ as.length := Int.pow_pos (by decide)
  have ec : c = q3 a b (2 ^ as.length) := by
    have h1 := q3_D (a := a) (b := b) (d := 2 ^ as.length) (by omega)
    rw [← e, tw] at h1
    have h2 := eG_ne (D := 2 ^ as.length) (by omega)
    generalize eG (2 ^ as.length) = Z at *
    grind
  rw [ec]
  refine hb_q3 pw (x.mono (by decide)) (y.mono (by decide)) ?_
  have : (2 : Nat) ^ as.length ≤ 2 ^ 6 := Nat.pow_le_pow_right (by decide) hl
  unfold sz
  have e2 : ((2 : Int) ^ as.length).natAbs = 2 ^ as.length := Int.natAbs_pow 2 _
  rw [e2]
  exact Nat.lt_of_le_of_lt this (by decide)
def moB : Sms := (b_Lmonic.nth 1).body
theorem monic_loop : ∀ (bs as : List Cq) (v2 : Lv) (A : D), (∀ a ∈ bs, rtOk a) → (∀ a ∈ as, rtOk a) → as.length + bs.length ≤ 6 → ∃ w2, forL (fun d L S => bnd (evG G_Lmonic (.nm 2) d L S) fun L2 S2 => evSs G_Lmonic moB L2 S2) (bs.map T) [.dat A, .dat (.lst ((lnP as).map T)), v2] S = some ((.nx, [.dat A, .dat (.lst ((lnP (bs.reverse ++ as)).map T)), w2]), S)
  | [], as, v2, A, _, _, _ => ⟨v2, rfl⟩
  | b :: bs, as, v2, A, hb', ha, hl => by
    have l0 : (b :: bs).length = bs.length + 1 := rfl
    rw [l0] at hl
    have hb0 := hb' b (List.mem_cons_self ..)
    obtain ⟨w2, e⟩ := monic_loop bs (b :: as) (.dat (T b)) A (fun a h => hb' a (List.mem_cons_of_mem _ h)) (fun a h => (List.mem_cons.mp h).elim (fun e => e ▸ hb0) (ha a)) (by show as.length + 1 + bs.length ≤ 6; omega)
    refine ⟨w2, ?_⟩
    have lt := r_Lrow_times (S := S) (ps := lnP as) (qs := [-b, 1]) (fun c hc => (lnP_hb (fun a h => (ha a h).2) (by omega) c hc).mono (by decide)) (fun c hc => by
      rcases List.mem_cons.mp hc with rfl | hc
      · exact hb0.1.neg.mono (by decide)
      · rw [List.mem_singleton.mp hc]; exact hb_c1.mono (by decide)) (by rw [lnP_len]; omega) (by show 2 ≤ 15; decide)
    rw [trim_mul] at lt
    have en : T (-b) = .tup [.int (0 - (t3 b).1), .int (0 - (t3 b).2.1), .int (t3 b).2.2] := by
      rw [Int.zero_sub, Int.zero_sub]
      exact (T_neg b).symm
    have st : (bnd (evG G_Lmonic (.nm 2) (T b) [.dat A, .dat (.lst ((lnP as).map T)), v2] S) fun L2 S2 => evSs G_Lmonic moB L2 S2) = some ((.nx, [.dat A, .dat (.lst ((lnP (b :: as)).map T)), .dat (T b)]), S) := by
      have lt2 : sealR S (runF G_Lrow_times 16 b_Lrow_times [.lst ((lnP as).map T), .lst [.tup [.int (0 - (t3 b).1), .int (0 - (t3 b).2.1), .int (t3 b).2.2], .tup [.int 1, .int 0, .int 1]]] S) = some (.lst ((lnP (b :: as)).map T), S) := by
        rw [← en, ← T_one]; exact lt
      have hB : moB = .cons (.asg (.nm 1) (.call 0 (.cons (.nm 1) (.cons (.fr (.disp (.cons (.tup (.cons (.bin .sub (.lit (.int 0)) (.ix (.nm 2) (.lit (.int 0)))) (.cons (.bin .sub (.lit (.int 0)) (.ix (.nm 2) (.lit (.int 1)))) (.cons (.ix (.nm 2) (.lit (.int 2))) .nil)))) (.cons (.tup (.cons (.lit (.int 1)) (.cons (.lit (.int 0)) (.cons (.lit (.int 1)) .nil)))) .nil)))) .nil)) .nil)) .nil := rfl
      rw [evG_nm, bnd_some, hB]
      show evSs G_Lmonic _ [.dat A, .dat (.lst ((lnP as).map T)), .dat (T b)] S = _
      have hd : evX G_Lmonic (.fr (.disp (.cons (.tup (.cons (.bin .sub (.lit (.int 0)) (.ix (.nm 2) (.lit (.int 0)))) (.cons (.bin .sub (.lit (.int 0)) (.ix (.nm 2) (.lit (.int 1)))) (.cons (.ix (.nm 2) (.lit (.int 2))) .nil)))) (.cons (.tup (.cons (.lit (.int 1)) (.cons (.lit (.int 0)) (.cons (.lit (.int 1)) .nil)))) .nil)))) [.dat A, .dat (.lst ((lnP as).map T)), .dat (T b)] S = some (.d (.lst [.tup [.int (0 - (t3 b).1), .int (0 - (t3 b).2.1), .int (t3 b).2.2], .tup [.int 1, .int 0, .int 1]]), S) := rfl
      exact st_nx (asgx (callS2 (x := .lst ((lnP as).map T)) rfl (nmx rfl) hd lt2)) rfl
    rw [List.map_cons, forL_cons, st, bnd_some, List.reverse_cons, List.append_assoc]
    exact e
theorem r_Lmonic (h : ∀ a ∈ as, rtOk a) (hl : as.length ≤ 6) : runF G_Lmonic 3 b_Lmonic [.lst (as.map T)] S = some (.lst ((lnP as.reverse).map T), S) := by
  obtain ⟨w2, e⟩ := monic_loop (S := S) as [] .un (.lst (as.map T)) h (fun a h => by cases h) (by show 0 + as.length ≤ 6; omega)
  rw [List.append_nil] at e
  refine run_en ?_
  show ∃ L', evSs G_Lmonic (.cons (.asg (.nm 1) (.fr (.disp (.cons (.tup (.cons (.lit (.int 1)) (.cons (.lit (.int 0)) (.cons (.lit (.int 1)) .nil)))) .nil)))) (.cons (.for_ (.nm 2) (.seq (.nm 0)) moB) (.cons (.ret (.nm 1)) .nil))) [.dat (.lst (as.map T)), .un, .un] S = _
  refine en_nx (L2 := [.dat (.lst (as.map T)), .dat (.lst ((lnP []).map T)), .un]) (S2 := S) rfl ?_
  refine en_nx (ev_for (S1 := S) rfl rfl e) ?_
  exact en_ret (retx (nmx rfl))
theorem r_Lscaled (hp : ∀ p ∈ ps, hb k p) (hq : hb l q) (h : k + l < 9000) (hl : ps.length ≤ 1000) : runF G_Lscaled 3 b_Lscaled [.lst (ps.map T), T q] S = some (.lst ((ps.map (· * q)).map T), S) := by
  refine run_en ?_
  show ∃ L', evSs G_Lscaled (.cons (.ret (.fr (.comp (.call 0 (.cons (.nm 2) (.cons (.nm 1) .nil)) .nil) (.nm 2) (.seq (.nm 0)) .none [2]))) .nil) [.dat (.lst (ps.map T)), .dat (T q), .un] S = _
  refine en_ret (retx (frx ?_))
  rw [List.map_map]
  refine comp_nm (as := ps) (g := T) (f := T ∘ (· * q)) rfl hl fun p hp' => ?_
  exact call2 (x := T p) (y := T q) rfl rfl rfl (nmx rfl) (nmx rfl) (r_Ltimes (hp p hp') hq h)
theorem r_Lover (hp : hb k p) (hq : hb l q) (h0 : q ≠ 0) (h : k + 2 * l < 8900) : runF G_Lover 3 b_Lover [T p, T q] S = some (T (p / q), S) := by
  rw [← ovr_eq]
  have n := sq_pos (t3_ne h0)
  have e := q3_ovr (a := (t3 p).1) (b := (t3 p).2.1) (a' := (t3 q).1) (b' := (t3 q).2.1) (by have := t3_pos p; omega : (t3 p).2.2 ≠ 0) (by have := t3_pos q; omega : (t3 q).2.2 ≠ 0) (by omega)
  rw [t3_q3, t3_q3] at e
  obtain ⟨x1, x2, x3⟩ := hp
  obtain ⟨y1, y2, y3⟩ := hq
  have c := r_Lcut (a := ((t3 p).1 * (t3 q).1 + (t3 p).2.1 * (t3 q).2.1) * (t3 q).2.2) (b := ((t3 p).2.1 * (t3 q).1 - (t3 p).1 * (t3 q).2.1) * (t3 q).2.2) (S := S) (by have := Int.mul_pos (t3_pos p) n; omega) (x3.mul ((y1.mul y1).add (y2.mul y2))) (by omega)
  rw [e] at c
  rw [runF_eq]
  have o : ∀ {i j : Int}, sz k i → sz l j → okMul i j = true := fun h1 h2 => okMul_sz h1 h2 (by omega)
  have o' : ∀ {i j : Int}, sz l i → sz l j → okMul i j = true := fun h1 h2 => okMul_sz h1 h2 (by omega)
  have o3 := okMul_sz ((x1.mul y1).add (x2.mul y2)) y3 (by omega)
  have o4 := okMul_sz ((x2.mul y1).sub (x1.mul y2)) y3 (by omega)
  have o5 := okMul_sz x3 ((y1.mul y1).add (y2.mul y2)) (by omega)
  simp [b_Lover, G_Lover, e_Lcut_3, pick, o x1 y1, o x2 y2, o x1 y2, o x2 y1, o' y1 y1, o' y2 y2, o3, o4, o5, T] at c ⊢
  simp [c]
end
end W

set_option Elab.async false
set_option linter.all false
set_option autoImplicit false
set_option maxRecDepth 100000
set_option maxHeartbeats 2000000
namespace W
open PySem PySem.Spec PyProof.Rows L2 PD
section
variable {G : Gam} {L : PD.Loc} {S S1 S2 S3 S4 : Store} {k l m N n nn : Nat} {p q u c z : Cq} {ps qs rs as fa re : List Cq}
theorem cut_takeN (xs : List D) (m : Nat) : PD.cutD xs none (some (m : Int)) = xs.take m := by
  by_cases h : m ≤ xs.length
  · exact cut_take xs m h
  · have e := cut_take xs xs.length (Nat.le_refl _)
    have e1 : ¬ ((m : Int) < 0) := by omega
    have e2 : ¬ ((xs.length : Int) < 0) := by omega
    rw [List.take_of_length_le (by omega)]
    unfold PD.cutD HT.sIx
    rw [List.take_of_length_le]
    · simp
    · simp [e1]
      omega
def DB (j : Nat) : Sm := b_Ldivided.nth j
section
variable {R X Y U A B TA TB TR TO : D} {xs ys zs : List D} {v1 v2 v3 v4 v5 v6 v7 : Lv}
theorem dv0 (e1 : runF G_Lrow 5 b_Lrow [.cell n, .int 3] S = some (.lst xs, S1)) (e2 : runF G_Lmany 2 b_Lmany [.cell n] S1 = some (X, S2)) (hl : xs.length ≤ 100) :
    evS G_Ldivided (DB 0) [.dat (.cell n), v1, v2, v3, v4, v5, v6, v7] S = some ((.nx, [.dat (.cell n), .dat (.lst (xs ++ [X])), v2, v3, v4, v5, v6, v7]), S2) := by
  have h : xs.length + 1 ≤ line := lt_line (by omega)
  simp [DB, b_Ldivided, Sms.nth, G_Ldivided, e_Lrow_2, e_Lmany_1, pick, e1, e2, asL, h]
theorem dv1 (e1 : runF G_Lrow 5 b_Lrow [.cell n, .int 4] S = some (R, S1)) (e2 : runF G_Lrow 5 b_Lrow [.cell n, .int 4] S1 = some (X, S2)) :
    evS G_Ldivided (DB 1) [.dat (.cell n), v1, v2, v3, v4, v5, v6, v7] S = some ((.nx, [.dat (.cell n), v1, .dat R, .dat X, v4, v5, v6, v7]), S2) := by
  simp [DB, b_Ldivided, Sms.nth, G_Ldivided, e_Lrow_2, pick, e1, e2]
theorem slcx {e f : Xp} {xs zs : List D} {j : Int} (h : evX G e L S = some (.d (.lst xs), S1)) (h2 : evX G f L S1 = some (.d (.int j), S2)) (hc : PD.cutD xs none (some j) = zs) : evF G (.slc e .none (.some f)) L S = some (zs, S2) := by
  rw [evF_slc, h, bnd_some, evO_none, bnd_some, evO_some, h2, bnd_some, ← hc]
  rfl
theorem subx {e : Xp} {a : Int} (h : evX G e L S = some (.d (.int a), S1)) : evX G (.bin .sub e (.lit (.int 1))) L S = some (.d (.int (a - 1)), S1) := by
  rw [evX_bin, h, bnd_some]
  rfl
theorem dv2 {j : Int} (hj : ((xs.length : Nat) : Int) - 1 = j) (hc : PD.cutD ys none (some j) = zs) (e : runF G_Ltrim 3 b_Ltrim [.lst zs] S = some (X, S)) :
    evS G_Ldivided (DB 2) [.dat (.cell n), .dat (.lst xs), v2, .dat (.lst ys), v4, v5, v6, v7] S = some ((.nx, [.dat (.cell n), .dat (.lst xs), v2, .dat X, v4, v5, v6, v7]), S) := by
  have h1 := subx (G := G_Ldivided) (lenL (G := G_Ldivided) (a := .nm 1) (L := [.dat (.cell n), .dat (.lst xs), v2, .dat (.lst ys), v4, v5, v6, v7]) (S := S) (S1 := S) (ds := xs) (nmx rfl))
  rw [hj] at h1
  have hB : DB 2 = .asg (.nm 3) (.call 2 (.cons (.fr (.slc (.nm 3) .none (.some (.bin .sub (.bi .len (.cons (.nm 1) .nil)) (.lit (.int 1)))))) .nil) .nil) := rfl
  rw [hB]
  exact asgx (call1 (x := .lst zs) rfl rfl rfl (frx (slcx (nmx rfl) h1 hc)) e)
theorem dv3 (e1 : ∀ S, sealR S (runF G_Lrow_times 16 b_Lrow_times [R, X] S) = some (A, S)) (e2 : ∀ S, runF G_Lrow_sum 6 b_Lrow_sum [A, Y] S = some (B, S)) :
    evS G_Ldivided (DB 3) [.dat (.cell n), .dat R, .dat X, .dat Y, v4, v5, v6, v7] S = some ((.nx, [.dat (.cell n), .dat R, .dat X, .dat Y, .dat B, v5, v6, v7]), S) := by
  simp [DB, b_Ldivided, Sms.nth, G_Ldivided, e_Lrow_times_2_S, e_Lrow_sum_2, pick, sealE, e1, e2]
theorem dv45 (e1 : ∀ S, runF G_Ltold_row 2 b_Ltold_row [X] S = some (TA, S)) (e2 : ∀ S, runF G_Ltold_row 2 b_Ltold_row [Y] S = some (TB, S)) (e3 : ∀ S, runF G_Ltold_row 2 b_Ltold_row [B] S = some (TR, S)) (e4 : ∀ S, runF G_Ltold_row 2 b_Ltold_row [R] S = some (TO, S)) :
    evS G_Ldivided (DB 4) [.dat (.cell n), .dat R, .dat X, .dat Y, .dat B, v5, v6, v7] S = some ((.nx, [.dat (.cell n), .dat R, .dat X, .dat Y, .dat B, .dat (.tup [TA, TB]), v6, v7]), S) ∧
    evS G_Ldivided (DB 5) [.dat (.cell n), .dat R, .dat X, .dat Y, .dat B, .dat (.tup [TA, TB]), v6, v7] S = some ((.nx, [.dat (.cell n), .dat R, .dat X, .dat Y, .dat B, .dat (.tup [TA, TB]), .dat TR, .dat TO]), S) := by
  constructor
  · simp [DB, b_Ldivided, Sms.nth, G_Ldivided, e_Ltold_row_1, pick, e1, e2]
  · simp [DB, b_Ldivided, Sms.nth, G_Ldivided, e_Ltold_row_1, pick, e3, e4]
theorem dv6 (e1 : ∀ S, runF G_row_divided 2 b_row_divided [TR, TO] S = some (X, S)) (s : shOk (.lst [X, X]) = true) :
    evS G_Ldivided (DB 6) [.dat (.cell n), v1, v2, v3, v4, .dat X, .dat TR, .dat TO] S = some ((.ret (.bl true), [.dat (.cell n), v1, v2, v3, v4, .dat X, .dat TR, .dat TO]), S) := by
  simp [DB, b_Ldivided, Sms.nth, G_Ldivided, e_row_divided_2, e_row_divided_0_other_row, pick, e1, s]
end
theorem gbup {j i : Nat} (h : gb j k p) (hj : j ≤ i) (hk : k + (3 * (i - j) + 1) ≤ l) : gb i l p := by
  have := h.up (i - j)
  rw [show j + (i - j) = i by omega] at this
  exact this.mono hk
theorem sh_pair {a b : D} (ha : rowOk a) (hb' : rowOk b) : shOk (.lst [.tup [a, b], .tup [a, b]]) = true := by
  refine shOk_sz ⟨⟨ha.1, hb'.1, trivial⟩, ⟨ha.1, hb'.1, trivial⟩, trivial⟩ ?_ ?_
  · have h1 := ha.2.1
    have h2 := hb'.2.1
    show PyData.depth (D.lst [.tup [a, b], .tup [a, b]]).py ≤ _
    simp only [D.py, D.pys, PyData.depth, PyData.depthAll]
    omega
  · have h1 := ha.2.2
    have h2 := hb'.2.2
    show D.cnt (.lst [.tup [a, b], .tup [a, b]]) ≤ _
    simp only [D.cnt, D.cnts]
    omega
theorem row_built (ho : lastOk ps) (h0 : ps ≠ []) (hq : lastOk fa) (hr : lastOk re) (hl : re.length < ps.length) {row : List Cq} (e : cf row = adS (cv (cf fa) (cf ps)) (cf re)) :
    trimN (rrF ps (row.length - (ps.length - 1)) (row, [])).2 = fa ∧ trimN (rrF ps (row.length - (ps.length - 1)) (row, [])).1 = re := by
  obtain ⟨h1, h2⟩ := div_row h0 (getLastD_ne ho h0) hl e
  exact ⟨lastOk_ext lastOk_trimN hq fun i => by rw [cf_trim, h1], lastOk_ext lastOk_trimN hr fun i => by rw [cf_trim, h2]⟩
theorem r_Ldivided (h : Pl N S n) (hN : N ≤ 600000) : ∃ S', runF G_Ldivided 8 b_Ldivided [.cell n] S = some (.bl true, S') ∧ Pl (N + 200) S' n := by
  obtain ⟨ps, S1, e1, hps, lps, ok1, p1⟩ := r_Lrow (m := 3) h (by omega) (by decide) (by decide)
  obtain ⟨p, S2, e2, hp, p0, p2⟩ := r_Lmany p1 (by omega)
  obtain ⟨fa, S3, e3, hfa, lfa, ok3, p3⟩ := r_Lrow (m := 4) p2 (by omega) (by decide) (by decide)
  obtain ⟨rr, S4, e4, hrr, lrr, ok4, p4⟩ := r_Lrow (m := 4) p3 (by omega) (by decide) (by decide)
  have lps : ps.length ≤ 3 := lps
  have lfa : fa.length ≤ 4 := lfa
  have lrr : rr.length ≤ 4 := lrr
  refine ⟨S4, ?_, p4.mono (by omega)⟩
  obtain ⟨O, hO⟩ : ∃ O, ps ++ [p] = O := ⟨_, rfl⟩
  have lO : O.length = ps.length + 1 := by rw [← hO]; simp
  have okO : lastOk O := .inr ⟨ps, p, hO.symm, p0⟩
  have neO : O ≠ [] := fun z => by rw [z] at lO; cases lO
  have gO : ∀ c ∈ O, hb 3 c ∧ gb 1 6 c := fun c hc => by
    rw [← hO] at hc
    rcases List.mem_append.mp hc with hc | hc
    · exact hps c hc
    · rw [List.mem_singleton.mp hc]; exact hp
  obtain ⟨re, hre⟩ : ∃ re, trimN (rr.take ps.length) = re := ⟨_, rfl⟩
  have okre : lastOk re := by rw [← hre]; exact lastOk_trimN
  have lre : re.length ≤ ps.length := by
    rw [← hre]
    exact Nat.le_trans trim_le (by rw [List.length_take]; omega)
  have gre : ∀ c ∈ re, hb 3 c ∧ gb 1 6 c := fun c hc => by
    rw [← hre] at hc
    exact hrr c (List.mem_of_mem_take (trim_sub c hc))
  have lm : O.length * fa.length ≤ 4 * 4 := Nat.mul_le_mul (by omega) lfa
  have gm : ∀ c ∈ trimN (mulL O fa), gb 2 29 c := fun c hc => (gb_mulL (fun c h => (gO c h).2) (fun c h => (hfa c h).2) c (trim_sub c hc)).mono (by omega)
  have lmm : (trimN (mulL O fa)).length ≤ 7 := Nat.le_trans trim_le (by rw [mulL_len]; omega)
  obtain ⟨row, hrow⟩ : ∃ row, trimN (bothN (· + ·) (trimN (mulL O fa)) re) = row := ⟨_, rfl⟩
  have okrow : lastOk row := by rw [← hrow]; exact lastOk_trimN
  have z0 : gb 2 29 (0 : Cq) := (gb_zero 2).mono (by decide)
  have grow : ∀ c ∈ row, gb 2 30 c := fun c hc => by
    rw [← hrow] at hc
    obtain ⟨i, hi, rfl⟩ := List.mem_map.mp (trim_sub c hc)
    have a1 : gb 2 29 (cf (trimN (mulL O fa)) i) := by
      by_cases h : i < (trimN (mulL O fa)).length
      · exact gm _ (List.mem_of_getElem? (cf_lt h))
      · rw [cf_ge h]; exact z0
    have a2 : gb 2 29 (cf re i) := by
      by_cases h : i < re.length
      · exact gbup (gre _ (List.mem_of_getElem? (cf_lt h))).2 (by decide) (by decide)
      · rw [cf_ge h]; exact z0
    exact a1.add a2
  have lrow : row.length ≤ 7 := by
    rw [← hrow]
    refine Nat.le_trans trim_le ?_
    unfold bothN
    rw [List.length_map, List.length_range]
    omega
  have crow : cf row = adS (cv (cf fa) (cf O)) (cf re) := funext fun i => by
    rw [← hrow, cf_trim, both_cf (by grind), cf_trim, cf_mulL_cv, cv_comm]
    rfl
  obtain ⟨d1, d2⟩ := row_built okO neO ok3 okre (by omega) crow
  have dv := fun S => r_row_divided (S := S) (one := row) (two := O) (k := 30) (l := 7) okrow okO neO (RtR_gb grow (by decide)) (RtR_gb (fun c hc => ((gO c hc).2).mono (by decide)) (by decide)) (by
    have : row.length - (O.length - 1) ≤ 7 := by omega
    have := Nat.mul_le_mul_right (7 + 2) this
    omega) (by decide) (by omega) (by omega)
  simp only [d1, d2] at dv
  have told : ∀ (qs : List Cq) (k : Nat), lastOk qs → (∀ p ∈ qs, hb k p) → k < 9000 → qs.length ≤ 1000 → ∀ S, runF G_Ltold_row 2 b_Ltold_row [.lst (qs.map T)] S = some (.tup (qs.map Nm), S) := fun qs k ok hq hk hl S => by
    have := r_Ltold_row (S := S) hq hk hl
    rw [trim_ok ok] at this
    exact this
  have t1 := told fa 3 ok3 (fun c h => (hfa c h).1) (by decide) (by omega)
  have t2 := told re 3 okre (fun c h => (gre c h).1) (by decide) (by omega)
  have t3 := told row 30 okrow (fun c h => (grow c h).hb (Nat.le_refl _) (by decide)) (by decide) (by omega)
  have t4 := told O 3 okO (fun c h => (gO c h).1) (by decide) (by omega)
  have m1 := fun S => r_Lrow_times (S := S) (ps := O) (qs := fa) (fun c h => ((gO c h).1).mono (by decide)) (fun c h => ((hfa c h).1).mono (by decide)) (by omega) (by omega)
  have m2 := fun S => r_Lrow_sum (S := S) (ps := trimN (mulL O fa)) (qs := re) (k := 30) (l := 3) (fun c h => (gm c h).hb (by decide) (by decide)) (fun c h => (gre c h).1) (by decide) (by decide) (by decide) (by omega) (by omega)
  simp only [hrow] at m2
  have ct : PD.cutD (rr.map T) none (some ((ps.length : Nat) : Int)) = (rr.take ps.length).map T := by rw [cut_takeN, List.map_take]
  have tr := r_Ltrim (S := S4) (ps := rr.take ps.length) (by rw [List.length_take]; omega)
  rw [hre] at tr
  have rO : ps.map T ++ [T p] = O.map T := by rw [← hO, List.map_append]; rfl
  have s0 := dv0 (v1 := .un) (v2 := .un) (v3 := .un) (v4 := .un) (v5 := .un) (v6 := .un) (v7 := .un) e1 e2 (by rw [List.length_map]; omega)
  rw [rO] at s0
  obtain ⟨s4, s5⟩ := dv45 (S := S4) (n := n) (v5 := .un) (v6 := .un) (v7 := .un) t1 t2 t3 t4
  refine run_en ?_
  show ∃ L', evSs G_Ldivided (.cons (DB 0) (.cons (DB 1) (.cons (DB 2) (.cons (DB 3) (.cons (DB 4) (.cons (DB 5) (.cons (DB 6) .nil))))))) [.dat (.cell n), .un, .un, .un, .un, .un, .un, .un] S = _
  refine en_nx s0 (en_nx (dv1 e3 e4) (en_nx (dv2 (by rw [List.length_map, lO]; omega) ct tr) (en_nx (dv3 m1 m2) (en_nx s4 (en_nx s5 ?_)))))
  exact en_ret (dv6 dv (sh_pair (rowOk_row (fun c h => ((hfa c h).1).mono (by decide)) (by omega)) (rowOk_row (fun c h => ((gre c h).1).mono (by decide)) (by omega))))
end
end W

set_option Elab.async false
set_option linter.all false
set_option autoImplicit false
set_option maxRecDepth 100000
set_option maxHeartbeats 2000000
namespace W
open PySem PySem.Spec PyProof.Rows L2 PD
section
variable {G : Gam} {L : PD.Loc} {S S1 S2 S3 S4 : Store} {k l m N n nn : Nat} {p q u c z : Cq} {ps qs rs as cs xs ys fa re : List Cq} {f g : Nat → Nat}
theorem minx {e1 e2 : Xp} {a b : Int} (h1 : evX G e1 L S = some (.d (.int a), S1)) (h2 : evX G e2 L S1 = some (.d (.int b), S2)) : evX G (.bi .min2 (.cons e1 (.cons e2 .nil))) L S = some (.d (.int (if b < a then b else a)), S2) := by
  rw [evX_bi, evXs_cons, h1, bnd_some, evXs_cons, h2]
  rfl
theorem sbx {e1 e2 : Xp} {a b : Int} (h1 : evX G e1 L S = some (.d (.int a), S1)) (h2 : evX G e2 L S1 = some (.d (.int b), S2)) : evX G (.bin .sub e1 e2) L S = some (.d (.int (a - b)), S2) := by
  rw [evX_bin, h1, bnd_some, h2, bnd_some]
  rfl
theorem IL_of {fs : List Nat} (h : fs.length = m) : IL (fun i => fs.getD i 0) m = .lst (fs.map fun i => .int (i : Nat)) := by
  unfold IL
  congr 1
  refine List.ext_getElem? fun i => ?_
  by_cases hi : i < m
  · rw [List.getElem?_map, List.getElem?_range hi, List.getElem?_map, List.getElem?_eq_getElem (by omega), Option.map_some, Option.map_some]
    simp [List.getD_eq_getElem?_getD, List.getElem?_eq_getElem (show i < fs.length by omega)]
  · rw [List.getElem?_eq_none (by simp; omega), List.getElem?_eq_none (by simp; omega)]
def RB (j : Nat) : Sm := b_Lright.nth j
section
variable {R X Y U V A B C D1 D2 TA TB TR TO : D} {v0 v1 v2 v3 v4 v5 v6 v7 v8 v9 v10 v11 v12 v13 v14 v15 v16 v17 : Lv}
theorem rr0 (e1 : runF G_Ldivided 8 b_Ldivided [.cell n] S = some (.bl true, S1)) :
    evS G_Lright (RB 0) [.dat (.cell n), v1, v2, v3, v4, v5, v6, v7, v8, v9, v10, v11, v12, v13, v14, v15, v16, v17] S = some ((.nx, [.dat (.cell n), v1, v2, v3, v4, v5, v6, v7, v8, v9, v10, v11, v12, v13, v14, v15, v16, v17]), S1) := by
  simp [RB, b_Lright, Sms.nth, G_Lright, e_Ldivided_1, pick, e1]
theorem rr1 (e1 : runF G_Lroots 4 b_Lroots [.cell n] S = some (R, S1)) :
    evS G_Lright (RB 1) [.dat (.cell n), v1, v2, v3, v4, v5, v6, v7, v8, v9, v10, v11, v12, v13, v14, v15, v16, v17] S = some ((.nx, [.dat (.cell n), .dat R, v2, v3, v4, v5, v6, v7, v8, v9, v10, v11, v12, v13, v14, v15, v16, v17]), S1) := by
  simp [RB, b_Lright, Sms.nth, G_Lright, e_Lroots_1, pick, e1]
/-- how often each root stands: drawn -/
theorem times_dr {v1 v2 v3 v16 v17 : Lv} (h : Pl N S n) (hN : N ≤ 900000) (hl : rs.length ≤ 10) {L : PD.Loc} (h0 : L[0]? = some (.dat (.cell n))) (h1 : L[1]? = some (.dat (.lst (rs.map T)))) (hL : L.length = 18) :
    ∃ (fs : List Nat) (S' : Store), evF G_Lright (.comp (.call 2 (.cons (.nm 0) (.cons (.lit (.int 3)) .nil)) .nil) (.nm 17) (.seq (.nm 1)) .none [17]) L S = some (fs.map (fun i => D.int (i : Nat)), S') ∧ (∀ a ∈ fs, a ≤ 2) ∧ fs.length = rs.length ∧ Pl (N + 1 * rs.length) S' n := by
  have w : evW G_Lright (.seq (.nm 1)) L S = some (rs.map T, S) := by
    rw [evW_seq, nmx h1]; rfl
  have := comp_dr (G := G_Lright) (L := L) (S := S) (S1 := S) (enc := fun i : Nat => D.int (i : Nat)) (P := fun a => a ≤ 2) (w := 1) (B := 950000) (t := 17) (own := [17]) (wk := .seq (.nm 1)) (elt := .call 2 (.cons (.nm 0) (.cons (.lit (.int 3)) .nil)) .nil) (N := N) (nn := n) w (by rw [List.length_map]; omega) (fun d _ S N hP hB => by
    obtain ⟨v, S', e, w0, w1, h'⟩ := r_Ldip (m := 3) hP (by omega) (by decide) (by decide)
    refine ⟨v.toNat, S', ?_, by omega, h'⟩
    have hv : ((v.toNat : Nat) : Int) = v := by omega
    rw [hv]
    have z0 : ((wipeL L [17]).set 17 (.dat d))[0]? = some (.dat (.cell n)) := by
      show ((L.set 17 .un).set 17 (.dat d))[0]? = _
      rw [List.getElem?_set_ne (by decide), List.getElem?_set_ne (by decide), h0]
    exact call2 (x := .cell n) (y := .int 3) rfl rfl rfl (nmx z0) rfl e) h (by rw [List.length_map]; omega)
  obtain ⟨fs, S', e, h1, h2, h3⟩ := this
  rw [List.length_map] at h2 h3
  exact ⟨fs, S', e, h1, h2, h3⟩
theorem rr2 {ds es : List D} (e1 : evF G_Lright (.comp (.call 2 (.cons (.nm 0) (.cons (.lit (.int 3)) .nil)) .nil) (.nm 17) (.seq (.nm 1)) .none [17]) [.dat (.cell n), v1, v2, v3, v4, v5, v6, v7, v8, v9, v10, v11, v12, v13, v14, v15, v16, v17] S = some (ds, S1)) (e2 : evF G_Lright (.comp (.call 2 (.cons (.nm 0) (.cons (.lit (.int 3)) .nil)) .nil) (.nm 17) (.seq (.nm 1)) .none [17]) [.dat (.cell n), v1, v2, v3, v4, v5, v6, v7, v8, v9, v10, v11, v12, v13, v14, v15, v16, v17] S1 = some (es, S2)) :
    evS G_Lright (RB 2) [.dat (.cell n), v1, v2, v3, v4, v5, v6, v7, v8, v9, v10, v11, v12, v13, v14, v15, v16, v17] S = some ((.nx, [.dat (.cell n), v1, .dat (.lst ds), .dat (.lst es), v4, v5, v6, v7, v8, v9, v10, v11, v12, v13, v14, v15, v16, v17]), S2) := by
  have hB : RB 2 = .asg (.tup (.cons (.nm 2) (.cons (.nm 3) .nil))) (.tup (.cons (.fr (.comp (.call 2 (.cons (.nm 0) (.cons (.lit (.int 3)) .nil)) .nil) (.nm 17) (.seq (.nm 1)) .none [17])) (.cons (.fr (.comp (.call 2 (.cons (.nm 0) (.cons (.lit (.int 3)) .nil)) .nil) (.nm 17) (.seq (.nm 1)) .none [17])) .nil))) := rfl
  rw [hB, evS_asg, evX_tup, evXs_cons, evX_fr, e1, bnd_some, bnd_some, evXs_cons, evX_fr, e2]
  rfl
theorem rr3 (hm : m ≤ 10) (hR : R = .lst (rs.map T)) (hr : rs.length = m) :
    evS G_Lright (RB 3) [.dat (.cell n), .dat R, .dat (IL f m), .dat (IL g m), v4, v5, v6, v7, v8, v9, v10, v11, v12, v13, v14, v15, v16, v17] S = some ((.nx, [.dat (.cell n), .dat R, .dat (IL f m), .dat (IL g m), .dat (IL (fun i => min (f i) (g i)) m), v5, v6, v7, v8, v9, v10, v11, v12, v13, v14, v15, v16, v17]), S) := by
  subst hR
  have hB : RB 3 = .asg (.nm 4) (.fr (.comp (.bi .min2 (.cons (.ix (.nm 2) (.nm 16)) (.cons (.ix (.nm 3) (.nm 16)) .nil))) (.nm 16) (.range1 (.bi .len (.cons (.nm 1) .nil))) .none [16])) := rfl
  rw [hB]
  refine asgx (frx ?_)
  refine comp_nm (as := List.range m) (g := fun i => D.int (i : Nat)) (f := fun i => D.int ((min (f i) (g i) : Nat) : Int)) ?_ (by rw [List.length_range]; omega) fun i hi => ?_
  · refine range1_nat ?_ (big_ok (by omega))
    have := lenL (G := G_Lright) (a := .nm 1) (L := [.dat (.cell n), .dat (.lst (rs.map T)), .dat (IL f m), .dat (IL g m), v4, v5, v6, v7, v8, v9, v10, v11, v12, v13, v14, v15, v16, v17]) (S := S) (S1 := S) (ds := rs.map T) (nmx rfl)
    rw [List.length_map, hr] at this
    exact this
  · have hi := List.mem_range.mp hi
    have e := minx (G := G_Lright) (ixL (a := .nm 2) (b := .nm 16) (S := S) (L := [.dat (.cell n), .dat (.lst (rs.map T)), .dat (IL f m), .dat (IL g m), v4, v5, v6, v7, v8, v9, v10, v11, v12, v13, v14, v15, .dat (.int (i : Nat)), v17]) (nmx rfl) (nmx rfl) (IL_at (f := f) hi)) (ixL (a := .nm 3) (b := .nm 16) (nmx rfl) (nmx rfl) (IL_at (f := g) hi))
    have em : (if ((g i : Nat) : Int) < ((f i : Nat) : Int) then ((g i : Nat) : Int) else ((f i : Nat) : Int)) = ((min (f i) (g i) : Nat) : Int) := by
      split <;> omega
    rw [em] at e
    exact e
theorem rr4 (e1 : ∀ S, runF G_Lspread 4 b_Lspread [R, X] S = some (A, S)) (e2 : ∀ S, runF G_Lmonic 3 b_Lmonic [A] S = some (B, S)) :
    evS G_Lright (RB 4) [.dat (.cell n), .dat R, v2, v3, .dat X, v5, v6, v7, v8, v9, v10, v11, v12, v13, v14, v15, v16, v17] S = some ((.nx, [.dat (.cell n), .dat R, v2, v3, .dat X, .dat B, v6, v7, v8, v9, v10, v11, v12, v13, v14, v15, v16, v17]), S) := by
  simp [RB, b_Lright, Sms.nth, G_Lright, e_Lspread_2, e_Lmonic_1, pick, e1, e2]
theorem rr5 (e1 : runF G_Lmany 2 b_Lmany [.cell n] S = some (X, S1)) (e2 : runF G_Lmany 2 b_Lmany [.cell n] S1 = some (Y, S2)) :
    evS G_Lright (RB 5) [.dat (.cell n), v1, v2, v3, v4, v5, v6, v7, v8, v9, v10, v11, v12, v13, v14, v15, v16, v17] S = some ((.nx, [.dat (.cell n), v1, v2, v3, v4, v5, .dat X, .dat Y, v8, v9, v10, v11, v12, v13, v14, v15, v16, v17]), S2) := by
  simp [RB, b_Lright, Sms.nth, G_Lright, e_Lmany_1, pick, e1, e2]
theorem less_comp {t : Nat} (ht : t = 2 ∨ t = 3) (hm : m ≤ 10) (hr : rs.length = m) (hg : ∀ i, g i ≤ f i) {L : PD.Loc} (hL : L.length = 18) (h1 : L[1]? = some (.dat (.lst (rs.map T)))) (h2 : L[t]? = some (.dat (IL f m))) (h4 : L[4]? = some (.dat (IL g m))) :
    evX G_Lright (.fr (.comp (.bin .sub (.ix (.nm t) (.nm 16)) (.ix (.nm 4) (.nm 16))) (.nm 16) (.range1 (.bi .len (.cons (.nm 1) .nil))) .none [16])) L S = some (.d (IL (fun i => f i - g i) m), S) := by
  refine frx ?_
  refine comp_nm (as := List.range m) (g := fun i => D.int (i : Nat)) (f := fun i => D.int ((f i - g i : Nat) : Int)) ?_ (by rw [List.length_range]; omega) fun i hi => ?_
  · refine range1_nat ?_ (big_ok (by omega))
    have := lenL (G := G_Lright) (a := .nm 1) (L := L) (S := S) (S1 := S) (ds := rs.map T) (nmx h1)
    rw [List.length_map, hr] at this
    exact this
  · have hi := List.mem_range.mp hi
    have w : ∀ j, j ≠ 16 → ((wipeL L [16]).set 16 (.dat (.int (i : Nat))))[j]? = L[j]? := fun j hj => by
      show ((L.set 16 .un).set 16 (.dat (.int (i : Nat))))[j]? = _
      rw [List.getElem?_set_ne (Ne.symm hj), List.getElem?_set_ne (Ne.symm hj)]
    have w16 : ((wipeL L [16]).set 16 (.dat (.int (i : Nat))))[16]? = some (.dat (.int (i : Nat))) := by
      show ((L.set 16 .un).set 16 (.dat (.int (i : Nat))))[16]? = _
      rw [List.getElem?_set_self (by rw [List.length_set]; omega)]
    have e := sbx (G := G_Lright) (ixL (a := .nm t) (b := .nm 16) (S := S) (nmx ((w t (by omega)).trans h2)) (nmx w16) (IL_at (f := f) hi)) (ixL (a := .nm 4) (b := .nm 16) (nmx ((w 4 (by decide)).trans h4)) (nmx w16) (IL_at (f := g) hi))
    have hgi := hg i
    have em : ((f i : Nat) : Int) - ((g i : Nat) : Int) = ((f i - g i : Nat) : Int) := by omega
    rw [em] at e
    exact e
theorem rr6 {R1 R2 R3 Z : D} (hd : evX G_Lright (.fr (.comp (.bin .sub (.ix (.nm 2) (.nm 16)) (.ix (.nm 4) (.nm 16))) (.nm 16) (.range1 (.bi .len (.cons (.nm 1) .nil))) .none [16])) [.dat (.cell n), .dat R, v2, v3, v4, v5, .dat X, v7, v8, v9, v10, v11, v12, v13, v14, v15, v16, v17] S = some (.d Z, S)) (e1 : runF G_Lspread 4 b_Lspread [R, Z] S = some (R1, S)) (e2 : runF G_Lmonic 3 b_Lmonic [R1] S = some (R2, S)) (e3 : runF G_Lscaled 3 b_Lscaled [R2, X] S = some (R3, S)) :
    evS G_Lright (RB 6) [.dat (.cell n), .dat R, v2, v3, v4, v5, .dat X, v7, v8, v9, v10, v11, v12, v13, v14, v15, v16, v17] S = some ((.nx, [.dat (.cell n), .dat R, v2, v3, v4, v5, .dat X, v7, .dat R3, v9, v10, v11, v12, v13, v14, v15, v16, v17]), S) :=
  asgx (call2 (x := R2) (y := X) rfl rfl rfl (call1 (x := R1) rfl rfl rfl (call2 (x := R) (y := Z) rfl rfl rfl (nmx rfl) hd e1) e2) (nmx rfl) e3)
theorem rr7 {R1 R2 R3 Z : D} (hd : evX G_Lright (.fr (.comp (.bin .sub (.ix (.nm 3) (.nm 16)) (.ix (.nm 4) (.nm 16))) (.nm 16) (.range1 (.bi .len (.cons (.nm 1) .nil))) .none [16])) [.dat (.cell n), .dat R, v2, v3, v4, v5, v6, .dat X, v8, v9, v10, v11, v12, v13, v14, v15, v16, v17] S = some (.d Z, S)) (e1 : runF G_Lspread 4 b_Lspread [R, Z] S = some (R1, S)) (e2 : runF G_Lmonic 3 b_Lmonic [R1] S = some (R2, S)) (e3 : runF G_Lscaled 3 b_Lscaled [R2, X] S = some (R3, S)) :
    evS G_Lright (RB 7) [.dat (.cell n), .dat R, v2, v3, v4, v5, v6, .dat X, v8, v9, v10, v11, v12, v13, v14, v15, v16, v17] S = some ((.nx, [.dat (.cell n), .dat R, v2, v3, v4, v5, v6, .dat X, v8, .dat R3, v10, v11, v12, v13, v14, v15, v16, v17]), S) :=
  asgx (call2 (x := R2) (y := X) rfl rfl rfl (call1 (x := R1) rfl rfl rfl (call2 (x := R) (y := Z) rfl rfl rfl (nmx rfl) hd e1) e2) (nmx rfl) e3)
theorem rr8 (e1 : ∀ S, sealR S (runF G_Lrow_times 16 b_Lrow_times [C, X] S) = some (A, S)) (e2 : ∀ S, sealR S (runF G_Lrow_times 16 b_Lrow_times [C, Y] S) = some (B, S)) :
    evS G_Lright (RB 8) [.dat (.cell n), v1, v2, v3, v4, .dat C, v6, v7, .dat X, .dat Y, v10, v11, v12, v13, v14, v15, v16, v17] S = some ((.nx, [.dat (.cell n), v1, v2, v3, v4, .dat C, v6, v7, .dat X, .dat Y, .dat A, .dat B, v12, v13, v14, v15, v16, v17]), S) :=
  parx2 (x := A) (y := B) (callS2 (x := C) (y := X) rfl (nmx rfl) (nmx rfl) (e1 S)) (callS2 (x := C) (y := Y) rfl (nmx rfl) (nmx rfl) (e2 S))
theorem rr9 (e1 : ∀ S, runF G_Ltold_row 2 b_Ltold_row [A] S = some (TA, S)) (e2 : ∀ S, runF G_Ltold_row 2 b_Ltold_row [B] S = some (TB, S)) (e3 : ∀ S, runF G_Ltold_row 2 b_Ltold_row [C] S = some (TR, S)) :
    evS G_Lright (RB 9) [.dat (.cell n), v1, v2, v3, v4, .dat C, v6, v7, v8, v9, .dat A, .dat B, v12, v13, v14, v15, v16, v17] S = some ((.nx, [.dat (.cell n), v1, v2, v3, v4, .dat C, v6, v7, v8, v9, .dat A, .dat B, .dat TA, .dat TB, .dat TR, v15, v16, v17]), S) := by
  simp [RB, b_Lright, Sms.nth, G_Lright, e_Ltold_row_1, pick, e1, e2, e3]
theorem rr10 (e1 : ∀ S, runF G_row_common 2 b_row_common [TA, TB] S = some (TR, S)) (e2 : ∀ S, runF G_row_common 2 b_row_common [TB, TA] S = some (TR, S)) (e3 : ∀ S, runF G_row_divided 2 b_row_divided [TA, TR] S = some (.tup [TO, .tup []], S)) (e4 : ∀ S, runF G_Ltold_row 2 b_Ltold_row [X] S = some (TO, S)) (s : shOk (.lst [TR, TR, .tup [TO, .tup []]]) = true) :
    evS G_Lright (RB 10) [.dat (.cell n), v1, v2, v3, v4, v5, v6, v7, .dat X, v9, v10, v11, .dat TA, .dat TB, .dat TR, v15, v16, v17] S = some ((.nx, [.dat (.cell n), v1, v2, v3, v4, v5, v6, v7, .dat X, v9, v10, v11, .dat TA, .dat TB, .dat TR, v15, v16, v17]), S) := by
  simp [RB, b_Lright, Sms.nth, G_Lright, e_row_common_2, e_row_common_0_other_row, e_row_divided_2, e_Ltold_row_1, pick, e1, e2, e3, e4, s]
theorem rr11 (e1 : ∀ S, runF G_row_common 2 b_row_common [TA, TB] S = some (TR, S)) (e3 : ∀ S, runF G_row_divided 2 b_row_divided [TB, TR] S = some (.tup [TO, .tup []], S)) (e4 : ∀ S, runF G_Ltold_row 2 b_Ltold_row [Y] S = some (TO, S)) (s : shOk (.tup [TO, .tup []]) = true) :
    evS G_Lright (RB 11) [.dat (.cell n), v1, v2, v3, v4, v5, v6, v7, v8, .dat Y, v10, v11, .dat TA, .dat TB, .dat TR, v15, v16, v17] S = some ((.nx, [.dat (.cell n), v1, v2, v3, v4, v5, v6, v7, v8, .dat Y, v10, v11, .dat TA, .dat TB, .dat TR, v15, v16, v17]), S) := by
  simp [RB, b_Lright, Sms.nth, G_Lright, e_row_common_2, e_row_divided_2, e_Ltold_row_1, pick, e1, e3, e4, s]
theorem rr12 {I W0 : D} (e1 : ∀ S, runF G_Lover 3 b_Lover [.tup [.int 1, .int 0, .int 1], X] S = some (I, S)) (e2 : ∀ S, runF G_Lscaled 3 b_Lscaled [A, I] S = some (W0, S)) (e3 : ∀ S, runF G_Ltold_row 2 b_Ltold_row [W0] S = some (V, S)) :
    evS G_Lright (RB 12) [.dat (.cell n), v1, v2, v3, v4, v5, .dat X, v7, v8, v9, .dat A, v11, v12, v13, v14, v15, v16, v17] S = some ((.nx, [.dat (.cell n), v1, v2, v3, v4, v5, .dat X, v7, v8, v9, .dat A, v11, v12, v13, v14, .dat V, v16, v17]), S) := by
  simp [RB, b_Lright, Sms.nth, G_Lright, e_Lover_2, e_Lscaled_2, e_Ltold_row_1, pick, e1, e2, e3]
theorem rr13 (e1 : ∀ S, runF G_row_common 2 b_row_common [TA, .tup []] S = some (V, S)) (e2 : ∀ S, runF G_row_common 2 b_row_common [.tup [], TA] S = some (V, S)) (e3 : ∀ S, runF G_row_common 2 b_row_common [.tup [], .tup []] S = some (.tup [], S)) (s : shOk (.lst [V, V, .tup []]) = true) :
    evS G_Lright (RB 13) [.dat (.cell n), v1, v2, v3, v4, v5, v6, v7, v8, v9, v10, v11, .dat TA, v13, v14, .dat V, v16, v17] S = some ((.ret (.bl true), [.dat (.cell n), v1, v2, v3, v4, v5, v6, v7, v8, v9, v10, v11, .dat TA, v13, v14, .dat V, v16, v17]), S) := by
  simp [RB, b_Lright, Sms.nth, G_Lright, e_row_common_2, pick, e1, e2, e3, s]
end
end
end W

set_option Elab.async false
set_option linter.all false
set_option autoImplicit false
set_option maxRecDepth 100000
set_option maxHeartbeats 2000000
namespace W
open PySem PySem.Spec PyProof.Rows L2 PD
section
variable {S S1 S2 S3 S4 : Store} {k l m N n nn : Nat} {p q u c z : Cq} {ps qs rs as cs xs ys fa re : List Cq} {f g : Nat → Nat}
theorem cf_scaled (q : Cq) (ps : List Cq) : cf (ps.map (· * q)) = scS q (cf ps) := funext fun i => by
  show ((ps.map (· * q))[i]?).getD 0 = q * (ps[i]?).getD 0
  rw [List.getElem?_map]
  cases ps[i]? with
  | none => show (0 : Cq) = q * 0; grind
  | some a => show a * q = q * a; grind
theorem lastOk_scaled (h : lastOk ps) (q0 : q ≠ 0) : lastOk (ps.map (· * q)) := by
  rcases h with rfl | ⟨qs, a, rfl, a0⟩
  · exact .inl rfl
  · exact .inr ⟨qs.map (· * q), a * q, by rw [List.map_append, List.map_singleton], mul_ne' a0 q0⟩
/-- the law's product of the common row and a factor -/
theorem times_built (q0 : q ≠ 0) : trimN (mulL (lnP cs) ((lnP xs).map (· * q))) = (lnP (cs ++ xs)).map (· * q) := by
  refine lastOk_ext lastOk_trimN (lastOk_scaled (lnP_ok _) q0) fun i => ?_
  rw [cf_trim, cf_mulL_cv, cf_scaled, cf_scaled, cv_sc_r, ← lnP_app]
  rfl
theorem sh_lsq {a b : D} (ha : rowOk a) (hb' : rowOk b) : shOk (.lst [a, a, .tup [b, .tup []]]) = true := by
  refine shOk_sz ⟨ha.1, ha.1, ⟨hb'.1, trivial, trivial⟩, trivial⟩ ?_ ?_
  · have h1 := ha.2.1
    have h2 := hb'.2.1
    show PyData.depth (D.lst [a, a, .tup [b, .tup []]]).py ≤ _
    simp only [D.py, D.pys, PyData.depth, PyData.depthAll]
    omega
  · have h1 := ha.2.2
    have h2 := hb'.2.2
    show D.cnt (.lst [a, a, .tup [b, .tup []]]) ≤ _
    simp only [D.cnt, D.cnts]
    omega
theorem sh_tup1 {b : D} (hb' : rowOk b) : shOk (.tup [b, .tup []]) = true := by
  refine shOk_sz ⟨hb'.1, trivial, trivial⟩ ?_ ?_
  · have h2 := hb'.2.1
    show PyData.depth (D.tup [b, .tup []]).py ≤ _
    simp only [D.py, D.pys, PyData.depth, PyData.depthAll]
    omega
  · have h2 := hb'.2.2
    show D.cnt (.tup [b, .tup []]) ≤ _
    simp only [D.cnt, D.cnts]
    omega
theorem hb_rt {k : Nat} {p : Cq} (h : hb k p) : rt k p := by
  obtain ⟨D, D0, sD, gD⟩ := hb_gz h
  exact ⟨p * eG D, eG D, rfl, gD, gz_D sD, eG_ne D0⟩
theorem one_rt : rt 1 (1 : Cq) := ⟨1, 1, by grind, ⟨1, 0, by decide +kernel, by unfold sz; decide, by unfold sz; decide⟩, ⟨1, 0, by decide +kernel, by unfold sz; decide, by unfold sz; decide⟩, one_ne⟩
theorem r_Lright (h : Pl N S n) (hN : N ≤ 500000) : ∃ S', runF G_Lright 18 b_Lright [.cell n] S = some (.bl true, S') := by
  obtain ⟨S1, e0, p1⟩ := r_Ldivided h (by omega)
  obtain ⟨rs, S2, e1, hrs, hnd, hl, p2⟩ := r_Lroots p1 (by omega)
  obtain ⟨fs, S3, e2, hfs, lfs, p3⟩ := times_dr (v1 := .un) (v2 := .un) (v3 := .un) (v16 := .un) (v17 := .un) (rs := rs) p2 (by omega) (by omega) (L := [.dat (.cell n), .dat (.lst (rs.map T)), .un, .un, .un, .un, .un, .un, .un, .un, .un, .un, .un, .un, .un, .un, .un, .un]) rfl rfl rfl
  obtain ⟨gs, S4, e3, hgs, lgs, p4⟩ := times_dr (v1 := .un) (v2 := .un) (v3 := .un) (v16 := .un) (v17 := .un) (rs := rs) p3 (by omega) (by omega) (L := [.dat (.cell n), .dat (.lst (rs.map T)), .un, .un, .un, .un, .un, .un, .un, .un, .un, .un, .un, .un, .un, .un, .un, .un]) rfl rfl rfl
  obtain ⟨le, S5, e4, hle, le0, p5⟩ := r_Lmany p4 (by omega)
  obtain ⟨ri, S6, e5, hri, ri0, p6⟩ := r_Lmany p5 (by omega)
  have i1 := IL_of lfs
  have i2 := IL_of lgs
  have two : ∀ {fs : List Nat}, (∀ a ∈ fs, a ≤ 2) → ∀ i, fs.getD i 0 ≤ 2 := fun {fs} h i => by
    rw [List.getD_eq_getElem?_getD]
    cases q : fs[i]? with
    | none => exact Nat.zero_le _
    | some a => exact h a (List.mem_of_getElem? q)
  have f2 := two hfs
  have g2 := two hgs
  obtain ⟨f, hf⟩ : ∃ f : Nat → Nat, (fun i => fs.getD i 0) = f := ⟨_, rfl⟩
  obtain ⟨g, hg⟩ : ∃ g : Nat → Nat, (fun i => gs.getD i 0) = g := ⟨_, rfl⟩
  have f2 : ∀ i, f i ≤ 2 := fun i => by rw [← hf]; exact f2 i
  have g2 : ∀ i, g i ≤ 2 := fun i => by rw [← hg]; exact g2 i
  rw [hf] at i1
  rw [hg] at i2
  obtain ⟨lo, hlo⟩ : ∃ lo : Nat → Nat, (fun i => min (f i) (g i)) = lo := ⟨_, rfl⟩
  have hlo' : ∀ i, lo i = min (f i) (g i) := fun i => by rw [← hlo]
  obtain ⟨m, hm⟩ : ∃ m, rs.length = m := ⟨_, rfl⟩
  have m3 : m ≤ 3 := by omega
  -- the roots of the three rows
  have mem : ∀ (f : Nat → Nat), ∀ a ∈ (sprN rs f m).reverse, rtOk a := fun f a ha => by
    obtain ⟨i, hi, e, _⟩ := spr_mem m (List.mem_reverse.mp ha)
    rw [e]
    exact hrs _ (List.mem_of_getElem? (cf_lt (by omega)))
  have mem' : ∀ (f : Nat → Nat), ∀ a ∈ sprN rs f m, rtOk a := fun f a ha => mem f a (List.mem_reverse.mpr ha)
  have b1 := spr_two (rs := rs) (f := lo) (g := fun i => f i - lo i) (fun i => by have := f2 i; have := hlo' i; show lo i + (f i - lo i) ≤ 2; omega) m
  have b2 := spr_two (rs := rs) (f := lo) (g := fun i => g i - lo i) (fun i => by have := g2 i; have := hlo' i; show lo i + (g i - lo i) ≤ 2; omega) m
  have b3 := spr_two (rs := rs) (f := fun i => f i - lo i) (g := fun i => g i - lo i) (fun i => by have := f2 i; have := g2 i; have := hlo' i; show f i - lo i + (g i - lo i) ≤ 2; omega) m
  have dis : ∀ a ∈ (sprN rs (fun i => f i - lo i) m).reverse, a ∉ (sprN rs (fun i => g i - lo i) m).reverse := fun a ha hb' => by
    obtain ⟨i, hi, e, k1⟩ := spr_mem m (List.mem_reverse.mp ha)
    obtain ⟨j, hj, e', k2⟩ := spr_mem m (List.mem_reverse.mp hb')
    have e3 : i = j := (List.getElem?_inj (by omega : i < rs.length) hnd).mp (by rw [cf_lt (by omega), cf_lt (by omega), ← e, ← e'])
    subst e3
    have := hlo' i
    have k1 : 0 < f i - lo i := k1
    have k2 : 0 < g i - lo i := k2
    omega
  have sp0 := fun S => r_Lspread (S := S) (rs := rs) (f := lo) (fun i => by have := f2 i; have := hlo' i; omega) (by omega)
  have sp1 := fun S => r_Lspread (S := S) (rs := rs) (f := fun i => f i - lo i) (fun i => by have := f2 i; show f i - lo i ≤ 5; omega) (by omega)
  have sp2 := fun S => r_Lspread (S := S) (rs := rs) (f := fun i => g i - lo i) (fun i => by have := g2 i; show g i - lo i ≤ 5; omega) (by omega)
  simp only [hm] at sp0 sp1 sp2
  have mo0 := fun S => r_Lmonic (S := S) (mem' lo) (by omega)
  have mo1 := fun S => r_Lmonic (S := S) (mem' fun i => f i - lo i) (by omega)
  have mo2 := fun S => r_Lmonic (S := S) (mem' fun i => g i - lo i) (by omega)
  have lc := less_comp (S := S6) (t := 2) (rs := rs) (f := f) (g := lo) (m := m) (.inl rfl) (by omega) hm (fun i => by have := hlo' i; omega) (L := [.dat (.cell n), .dat (.lst (rs.map T)), .dat (IL f m), .dat (IL g m), .dat (IL lo m), .dat (.lst ((lnP (sprN rs lo m).reverse).map T)), .dat (T le), .dat (T ri), .un, .un, .un, .un, .un, .un, .un, .un, .un, .un]) rfl rfl rfl rfl
  obtain ⟨cs, hcs⟩ : ∃ cs, (sprN rs lo m).reverse = cs := ⟨_, rfl⟩
  obtain ⟨xs, hxs⟩ : ∃ xs, (sprN rs (fun i => f i - lo i) m).reverse = xs := ⟨_, rfl⟩
  obtain ⟨ys, hys⟩ : ∃ ys, (sprN rs (fun i => g i - lo i) m).reverse = ys := ⟨_, rfl⟩
  have lcs : (sprN rs lo m).length = cs.length := by rw [← hcs, List.length_reverse]
  have lxs : (sprN rs (fun i => f i - lo i) m).length = xs.length := by rw [← hxs, List.length_reverse]
  have lys : (sprN rs (fun i => g i - lo i) m).length = ys.length := by rw [← hys, List.length_reverse]
  rw [lcs, lxs] at b1
  rw [lcs, lys] at b2
  rw [lxs, lys] at b3
  simp only [hcs] at mo0 lc
  simp only [hxs] at mo1
  simp only [hys] at mo2
  rw [hxs, hys] at dis
  have oc : ∀ a ∈ cs, rtOk a := fun a ha => mem lo a (by rw [hcs]; exact ha)
  have ox : ∀ a ∈ xs, rtOk a := fun a ha => mem _ a (by rw [hxs]; exact ha)
  have oy : ∀ a ∈ ys, rtOk a := fun a ha => mem _ a (by rw [hys]; exact ha)
  have ac : ∀ a ∈ cs, ab1 12 (a * (1 + 1)) := fun a ha => (oc a ha).2
  have ax : ∀ a ∈ xs, ab1 12 (a * (1 + 1)) := fun a ha => (ox a ha).2
  have ay : ∀ a ∈ ys, ab1 12 (a * (1 + 1)) := fun a ha => (oy a ha).2
  have acx : ∀ a ∈ cs ++ xs, ab1 12 (a * (1 + 1)) := fun a ha => (List.mem_append.mp ha).elim (ac a) (ax a)
  have acy : ∀ a ∈ cs ++ ys, ab1 12 (a * (1 + 1)) := fun a ha => (List.mem_append.mp ha).elim (ac a) (ay a)
  have hC := lnP_hb ac (by omega)
  have hX := lnP_hb ax (by omega)
  have hY := lnP_hb ay (by omega)
  have hCX := lnP_hb acx (by rw [List.length_append]; omega)
  have hCY := lnP_hb acy (by rw [List.length_append]; omega)
  have hsc : ∀ {ps : List Cq} {q : Cq}, (∀ c ∈ ps, hb 23 c) → hb 3 q → ∀ c ∈ ps.map (· * q), hb 30 c := fun hp hq c hc => by
    obtain ⟨a, ha, rfl⟩ := List.mem_map.mp hc
    exact ((hp a ha).mul hq).mono (by decide)
  have sc1 := fun S => r_Lscaled (S := S) hX hle.1 (by decide) (by rw [lnP_len]; omega)
  have sc2 := fun S => r_Lscaled (S := S) hY hri.1 (by decide) (by rw [lnP_len]; omega)
  have tm1 := fun S => r_Lrow_times (S := S) (ps := lnP cs) (qs := (lnP xs).map (· * le)) (fun c h => (hC c h).mono (by decide)) (hsc hX hle.1) (by rw [lnP_len]; omega) (by rw [List.length_map, lnP_len]; omega)
  have tm2 := fun S => r_Lrow_times (S := S) (ps := lnP cs) (qs := (lnP ys).map (· * ri)) (fun c h => (hC c h).mono (by decide)) (hsc hY hri.1) (by rw [lnP_len]; omega) (by rw [List.length_map, lnP_len]; omega)
  simp only [times_built le0] at tm1
  simp only [times_built ri0] at tm2
  have told : ∀ (qs : List Cq) (k : Nat), lastOk qs → (∀ p ∈ qs, hb k p) → k < 9000 → qs.length ≤ 1000 → ∀ S, runF G_Ltold_row 2 b_Ltold_row [.lst (qs.map T)] S = some (.tup (qs.map Nm), S) := fun qs k ok hq hk hl S => by
    have := r_Ltold_row (S := S) hq hk hl
    rw [trim_ok ok] at this
    exact this
  have okA : lastOk ((lnP (cs ++ xs)).map (· * le)) := lastOk_scaled (lnP_ok _) le0
  have okB : lastOk ((lnP (cs ++ ys)).map (· * ri)) := lastOk_scaled (lnP_ok _) ri0
  have okX : lastOk ((lnP xs).map (· * le)) := lastOk_scaled (lnP_ok _) le0
  have okY : lastOk ((lnP ys).map (· * ri)) := lastOk_scaled (lnP_ok _) ri0
  have lA : ((lnP (cs ++ xs)).map (· * le)).length ≤ 7 := by rw [List.length_map, lnP_len, List.length_append]; omega
  have lB : ((lnP (cs ++ ys)).map (· * ri)).length ≤ 7 := by rw [List.length_map, lnP_len, List.length_append]; omega
  have lX : ((lnP xs).map (· * le)).length ≤ 7 := by rw [List.length_map, lnP_len]; omega
  have lY : ((lnP ys).map (· * ri)).length ≤ 7 := by rw [List.length_map, lnP_len]; omega
  have lC : (lnP cs).length ≤ 7 := by rw [lnP_len]; omega
  have hA := hsc hCX hle.1
  have hB := hsc hCY hri.1
  have hX' := hsc hX hle.1
  have hY' := hsc hY hri.1
  have tA := told _ 30 okA hA (by decide) (by omega)
  have tB := told _ 30 okB hB (by decide) (by omega)
  have tC := told _ 23 (lnP_ok cs) hC (by decide) (by omega)
  have tX := told _ 30 okX hX' (by decide) (by omega)
  have tY := told _ 30 okY hY' (by decide) (by omega)
  -- the program
  have rA : RtR 27 ((lnP (cs ++ xs)).map (· * le)) := (lnP_rt acx (by rw [List.length_append]; omega)).scale hle.1
  have rB : RtR 27 ((lnP (cs ++ ys)).map (· * ri)) := (lnP_rt acy (by rw [List.length_append]; omega)).scale hri.1
  have rC : RtR 23 (lnP cs) := lnP_rt ac (by omega)
  have mA : monL ((lnP (cs ++ xs)).map (· * le)) = lnP (cs ++ xs) := monL_is okA (lnP_ok _) (lnP_last _) le0 (cf_scaled _ _)
  have mB : monL ((lnP (cs ++ ys)).map (· * ri)) = lnP (cs ++ ys) := monL_is okB (lnP_ok _) (lnP_last _) ri0 (cf_scaled _ _)
  have run1 := common_run ac ax ay (by omega) (by omega) (by omega) dis
  have run2 := common_run ac ay ax (by omega) (by omega) (by omega) fun a ha hb' => dis a hb' ha
  have q1 := fun S => r_row_common (S := S) okA okB rA rB (by decide) (by decide) (by omega) (by omega) (by rw [mA, mB]; exact run1)
  have q2 := fun S => r_row_common (S := S) okB okA rB rA (by decide) (by decide) (by omega) (by omega) (by rw [mA, mB]; exact run2)
  have dv : ∀ {ps xs : List Cq} {q : Cq}, q ≠ 0 → ps = (lnP (cs ++ xs)).map (· * q) → RtR 27 ps → ps.length ≤ 7 → ∀ S, runF G_row_divided 2 b_row_divided [.tup (ps.map Nm), .tup ((lnP cs).map Nm)] S = some (.tup [.tup (((lnP xs).map (· * q)).map Nm), .tup []], S) := fun {ps xs q} q0 hps hr hl S => by
    have okp : lastOk ps := by rw [hps]; exact lastOk_scaled (lnP_ok _) q0
    have cp : cf ps = adS (cv (cf ((lnP xs).map (· * q))) (cf (lnP cs))) (cf []) := funext fun i => by
      rw [hps, cf_scaled, lnP_app]
      show q * cv (cf (lnP cs)) (cf (lnP xs)) i = cv (cf ((lnP xs).map (· * q))) (cf (lnP cs)) i + cf [] i
      rw [cf_scaled, cv_sc_l, cv_comm, cf_nil]
      grind
    obtain ⟨d1, d2⟩ := row_built (lnP_ok cs) (lnP_ne cs) (lastOk_scaled (lnP_ok xs) q0) (.inl rfl) (by rw [lnP_len]; exact Nat.succ_pos _) cp
    have := r_row_divided (S := S) (one := ps) (two := lnP cs) okp (lnP_ok cs) (lnP_ne cs) hr rC (by
      have : ps.length - ((lnP cs).length - 1) ≤ 7 := by omega
      have := Nat.mul_le_mul_right (23 + 2) this
      omega) (by decide) (by omega) (by omega)
    rw [d1, d2] at this
    exact this
  have q3 := dv le0 rfl rA lA
  have q4 := dv ri0 rfl rB lB
  have rCX : RtR 23 (lnP (cs ++ xs)) := lnP_rt acx (by rw [List.length_append]; omega)
  have q5 := fun S => r_row_common (S := S) okA (.inl rfl) rA (RtR_nil (k := 0)) (by decide) (by decide) (by omega) (by decide) (by rw [mA]; exact .done _)
  have q6 := fun S => r_row_common (S := S) (.inl rfl) okA (RtR_nil (k := 0)) rA (by decide) (by decide) (by decide) (by omega) (by rw [mA]; exact run_nil_l (lnP_last _) (lnP_ne _) rCX (by decide))
  have q7 := fun S => r_row_common (S := S) (one := []) (two := []) (.inl rfl) (.inl rfl) (RtR_nil (k := 0)) (RtR_nil (k := 0)) (by decide) (by decide) (by decide) (by decide) (.done _)
  -- one over the first number
  have ho := fun S => r_Lover (S := S) (p := 1) (k := 1) hb_c1 hle.1 le0 (by decide)
  have hi : hb 11 (1 / le) := rt_hb (rt_div one_rt (hb_rt hle.1) le0)
  have sc3 := fun S => r_Lscaled (S := S) hA hi (by decide) (by omega)
  have un : ((lnP (cs ++ xs)).map (· * le)).map (· * (1 / le)) = lnP (cs ++ xs) := by
    rw [List.map_map]
    have : ∀ c : Cq, ((· * (1 / le)) ∘ (· * le)) c = c := fun c => by
      show c * le * (1 / le) = c
      grind
    rw [List.map_congr_left fun c _ => this c, List.map_id']
  simp only [un] at sc3
  have tCX := told _ 23 (lnP_ok (cs ++ xs)) hCX (by decide) (by rw [lnP_len, List.length_append]; omega)
  have oC : rowOk (.tup ((lnP cs).map Nm)) := rowOk_row (fun c h => (hC c h).mono (by decide)) (by omega)
  have oX : rowOk (.tup (((lnP xs).map (· * le)).map Nm)) := rowOk_row (fun c h => (hX' c h).mono (by decide)) (by omega)
  have oY : rowOk (.tup (((lnP ys).map (· * ri)).map Nm)) := rowOk_row (fun c h => (hY' c h).mono (by decide)) (by omega)
  have oCX : rowOk (.tup ((lnP (cs ++ xs)).map Nm)) := rowOk_row (fun c h => (hCX c h).mono (by decide)) (by rw [lnP_len, List.length_append]; omega)
  have oN : rowOk (.tup []) := rowOk_row (ps := []) (fun p hp => (by cases hp)) (by decide)
  have s2 := rr2 (v1 := .dat (.lst (rs.map T))) (v2 := .un) (v3 := .un) (v4 := .un) (v5 := .un) (v6 := .un) (v7 := .un) (v8 := .un) (v9 := .un) (v10 := .un) (v11 := .un) (v12 := .un) (v13 := .un) (v14 := .un) (v15 := .un) (v16 := .un) (v17 := .un) e2 e3
  rw [← i1, ← i2, hm] at s2
  have s3 := rr3 (S := S4) (n := n) (f := f) (g := g) (m := m) (rs := rs) (R := .lst (rs.map T)) (v4 := .un) (v5 := .un) (v6 := .un) (v7 := .un) (v8 := .un) (v9 := .un) (v10 := .un) (v11 := .un) (v12 := .un) (v13 := .un) (v14 := .un) (v15 := .un) (v16 := .un) (v17 := .un) (by omega) rfl hm
  rw [hlo] at s3
  have lc2 := less_comp (S := S6) (t := 3) (rs := rs) (f := g) (g := lo) (m := m) (.inr rfl) (by omega) hm (fun i => by have := hlo' i; omega) (L := [.dat (.cell n), .dat (.lst (rs.map T)), .dat (IL f m), .dat (IL g m), .dat (IL lo m), .dat (.lst ((lnP cs).map T)), .dat (T le), .dat (T ri), .dat (.lst (((lnP xs).map (· * le)).map T)), .un, .un, .un, .un, .un, .un, .un, .un, .un]) rfl rfl rfl rfl
  refine ⟨S6, run_en ?_⟩
  show ∃ L', evSs G_Lright (.cons (RB 0) (.cons (RB 1) (.cons (RB 2) (.cons (RB 3) (.cons (RB 4) (.cons (RB 5) (.cons (RB 6) (.cons (RB 7) (.cons (RB 8) (.cons (RB 9) (.cons (RB 10) (.cons (RB 11) (.cons (RB 12) (.cons (RB 13) .nil)))))))))))))) [.dat (.cell n), .un, .un, .un, .un, .un, .un, .un, .un, .un, .un, .un, .un, .un, .un, .un, .un, .un] S = _
  refine en_nx (rr0 e0) (en_nx (rr1 e1) (en_nx s2 (en_nx s3 (en_nx (rr4 sp0 mo0) (en_nx (rr5 e4 e5) ?_)))))
  refine en_nx (rr6 lc (sp1 S6) (mo1 S6) (sc1 S6)) (en_nx (rr7 lc2 (sp2 S6) (mo2 S6) (sc2 S6)) (en_nx (rr8 tm1 tm2) (en_nx (rr9 tA tB tC) ?_)))
  refine en_nx (rr10 q1 q2 q3 tX (sh_lsq oC oX)) (en_nx (rr11 q1 q4 tY (sh_tup1 oY)) (en_nx (rr12 ho sc3 tCX) ?_))
  exact en_ret (rr13 q5 q6 q7 (sh_3 oCX oCX oN))
end
end W

set_option Elab.async false
set_option linter.all false
set_option autoImplicit false
set_option maxRecDepth 100000
set_option maxHeartbeats 2000000
namespace W
open PySem PySem.Spec PyProof.Rows L2 PD
section
variable {S : Store} {N n : Nat}
theorem law_loop {zs : List Int} : ∀ (ts : List Int) (S : Store), (∀ t ∈ ts, 0 ≤ t ∧ t < 100) → ∃ S', compL (fun d S => bnd (evG G_law (.nm 1) d (wipeL [.dat (.lst (zs.map D.int)), .un] [1]) S) fun L2 S => bnd (evC G_law .none L2 S) fun k S => if k = true then bnd (evX G_law (.call 0 (.cons (.call 1 (.cons (.nm 0) (.cons (.nm 1) .nil)) .nil) .nil) .nil) L2 S) fun x S => bnd (lft (unV x) S) fun y S => some (some y, S) else some (none, S)) (ts.map D.int) S = some (List.replicate ts.length (D.bl true), S')
  | [], S, _ => ⟨S, rfl⟩
  | t :: ts, S, h => by
    obtain ⟨t0, t1⟩ := h t (List.mem_cons_self ..)
    obtain ⟨S1, e1, p1⟩ := r_Lpail (S := S) (zs := zs) t0 t1
    obtain ⟨S2, e2⟩ := r_Lright p1 (by decide)
    obtain ⟨S3, e3⟩ := law_loop ts S2 fun z hz => h z (List.mem_cons_of_mem _ hz)
    refine ⟨S3, ?_⟩
    rw [List.map_cons, compL_cons]
    have step : (bnd (evG G_law (.nm 1) (.int t) (wipeL [.dat (.lst (zs.map D.int)), .un] [1]) S) fun L2 S => bnd (evC G_law .none L2 S) fun k S => if k = true then bnd (evX G_law (.call 0 (.cons (.call 1 (.cons (.nm 0) (.cons (.nm 1) .nil)) .nil) .nil) .nil) L2 S) fun x S => bnd (lft (unV x) S) fun y S => some (some y, S) else some (none, S)) = some (some (.bl true), S2) := by
      simp [G_law, e_Lright_1, e_Lpail_2, pick, e1, e2]
    rw [step, bnd_some, e3, bnd_some]
    rfl
theorem bools_rep (k : Nat) : boolsOf (List.replicate k (D.bl true)) = some (List.replicate k true) := by
  induction k with
  | zero => rfl
  | succ k ih =>
    rw [List.replicate_succ, List.replicate_succ]
    show (match boolsOf (List.replicate k (D.bl true)) with | some l => some (true :: l) | none => none) = _
    rw [ih]
theorem main (ns : List Int) (_ : ns.length ≤ 63) (_ : ∀ z ∈ ns, Builtin.Int.intBits z ≤ 1048576) : ∃ S, runF G_law 2 b_law [.lst (ns.map .int)] [] = some (.bl true, S) := by
  obtain ⟨k, hk, k4⟩ : ∃ k : Nat, (if (2 : Int) < (if (3 : Int) < (ns.map D.int).length then 3 else ((ns.map D.int).length : Int)) then (if (3 : Int) < (ns.map D.int).length then 3 else ((ns.map D.int).length : Int)) else 2) = (k : Int) ∧ k ≤ 3 := by
    generalize (ns.map D.int).length = l
    by_cases h1 : 3 < l
    · exact ⟨3, by rw [if_pos (by omega : (3 : Int) < l), if_pos (by decide)]; rfl, by decide⟩
    · by_cases h2 : 2 < l
      · exact ⟨l, by rw [if_neg (show ¬ (3 : Int) < l by omega), if_pos (show (2 : Int) < l by omega)], by omega⟩
      · exact ⟨2, by rw [if_neg (show ¬ (3 : Int) < l by omega), if_neg (show ¬ (2 : Int) < l by omega)]; rfl, by decide⟩
  obtain ⟨S, e⟩ := law_loop (zs := ns) ((List.range k).map fun i => ((i : Nat) : Int)) [] fun t ht => by
    obtain ⟨i, hi, rfl⟩ := List.mem_map.mp ht
    have := List.mem_range.mp hi
    omega
  rw [List.map_map, List.length_map, List.length_range] at e
  refine ⟨S, ?_⟩
  have c1 : evW G_law (.range1 (.bi .max2 (.cons (.lit (.int 2)) (.cons (.bi .min2 (.cons (.bi .len (.cons (.nm 0) .nil)) (.cons (.lit (.int 3)) .nil))) .nil)))) [.dat (.lst (ns.map D.int)), .un] [] = some ((List.range k).map fun i => D.int (i : Nat), []) := by
    simp only [evW_range1, evX_bi, evXs_cons, evXs_nil, evX_lit, evX_nm, bnd_some, lft_some, List.getElem?_cons_zero, biV_lenL, Option.map_some, biV_min, biV_max, gt_iff_lt]
    rw [hk]
    have : (k : Int) < 2 ^ 62 ∧ -(2 ^ 62) ≤ (k : Int) := by omega
    rw [if_pos this]
    rfl
  have c2 : evF G_law (.comp (.call 0 (.cons (.call 1 (.cons (.nm 0) (.cons (.nm 1) .nil)) .nil) .nil) .nil) (.nm 1) (.range1 (.bi .max2 (.cons (.lit (.int 2)) (.cons (.bi .min2 (.cons (.bi .len (.cons (.nm 0) .nil)) (.cons (.lit (.int 3)) .nil))) .nil)))) .none [1]) [.dat (.lst (ns.map D.int)), .un] [] = some (List.replicate k (D.bl true), S) := by
    rw [evF_comp, c1, bnd_some, if_pos (by rw [List.length_map, List.length_range]; exact Nat.lt_of_le_of_lt k4 (by decide))]
    exact e
  show bnd (evSs G_law b_law [.dat (.lst (ns.map D.int)), .un] []) _ = _
  simp only [b_law, evSs_cons, evS_ret, evX_bi, evXs_cons, evXs_nil, evX_fr]
  rw [c2]
  have hall : (List.replicate k true).all id = true := by simp
  show bnd (bnd (bnd (lft ((match some (List.replicate k (D.bl true)) with | some ds => (boolsOf ds).map fun l : List Bool => D.bl (l.all id) | none => none).map Va.d) S) _) _) _ = _
  simp only [bools_rep, Option.map_some, hall, lft_some, bnd_some]
  rfl
end
end W
theorem PySem.Challenge.cw_withinrim_k05_whole_rows_divided_and_com_holds : PySem.Challenge.rw_withinrim_k05_whole_rows_divided_and_com.Holds :=
  THELAW W.main

