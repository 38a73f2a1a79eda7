import PyProof.Rows.All
import Wide.All
import OpenK.AllK
import Wide.FinOn
import HandS.ForMost
import HandS.ForExc
import HandS.IsInst
import HandS.ExcInit
import HandS.Lambda
import HandS.Nested
import HandS.Defaults
import HandS.MakeKwOnly
import HandS.TupAny
import HandS.TupMul
import HandS.NoneIn
import HandS.FStr
import HandS.WideBits
import HandS.SetFor
import HandS.Strs
import KE.GoesEnum
import PyProof.Draws
import HandS.Star
import HandS.Records
import HandS.HeadHook4
import HandS.Words
import HandS.Deep
import KE.KExcInit
import KE.KExcIs
import KE.KTryMore
import HandS.HotCalls
import HandS.Dict
import HandS.TupLe
import PyProof.ReprRoads
import HandS.EndTab
import HandS.HeadWalk
import PyProof.ReprLen
import PyProof.ReprBulk
import HandS.Head0
import HandS.Head1
import HandS.Head2
import HandS.HeadEnd
import HandS.MapJoin
import KE.KStateDown
import Lean
import PySem.Challenge.RW_givenonce_k67_whole_pots_through_deeds
set_option Elab.async false
set_option linter.all false
set_option maxRecDepth 100000
set_option maxHeartbeats 4000000
namespace DL
open PySem PySem.Spec PyProof.Rows L2
abbrev St := L2.St

inductive D where
  | non | bl (b : Bool) | int (i : Int) | str (x : Str) | ty (n : String) | ref (a : Addr)
  | tup (ds : List D) | lst (ds : List D) | emp | exc (a C : Addr) (dd : Option Addr) (ks : List Str) (ds : List D)
abbrev D.scr (ns : List Int) : D := .lst (ns.map D.int)

mutual
def Dn (H : Hp) : D → V → Prop
  | .non, v => v = .non
  | .bl b, v => v = .bl b
  | .int i, v => v = .int i
  | .str x, v => v = .str x
  | .ty n, v => v = .ty n
  | .ref a, v => v = .ref a
  | .tup ds, v => ∃ a xs, v = .ref a ∧ H a = some (.tup xs) ∧ Dns H ds xs
  | .lst ds, v => ∃ a o xs, v = .ref a ∧ H a = some (.frz o (.lst xs)) ∧ Dns H ds xs
  | .emp, v => ∃ a o, v = .ref a ∧ H a = some (.frz o (.dK []))
  | .exc a _ dd ks ds, v => v = .ref a ∧ ((ks = [] ∧ dd = none) ∨ ∃ d vs, dd = some d ∧ H d = some (.xd (ks.zip vs)) ∧ vs.length = ks.length ∧ Dns H ds vs)
def Dns (H : Hp) : List D → List V → Prop
  | [], vs => vs = []
  | d :: ds, vs => ∃ v r, vs = v :: r ∧ Dn H d v ∧ Dns H ds r
end
/-- what never changes -/
def Im (o : HO) : Prop := (∃ xs, o = .tup xs) ∨ (∃ ob u, o = .frz ob u) ∨ ∃ fs, o = .xd fs
def Ext (H H' : Hp) : Prop := ∀ b o, H b = some o → Im o → H' b = some o
theorem Ext.refl {H : Hp} : Ext H H := fun _ _ h _ => h
theorem Ext.trans {H H' H'' : Hp} (a : Ext H H') (b : Ext H' H'') : Ext H H'' := fun c o h i => b c o (a c o h i) i
theorem im_tup {xs : List V} : Im (.tup xs) := .inl ⟨_, rfl⟩
theorem im_frz {o : Obj} {u : HO} : Im (.frz o u) := .inr (.inl ⟨_, _, rfl⟩)
theorem im_xd {fs : List (Str × V)} : Im (.xd fs) := .inr (.inr ⟨_, rfl⟩)
mutual
theorem Dn.ext {H H' : Hp} (l : Ext H H') : ∀ (d : D) (v : V), Dn H d v → Dn H' d v
  | .non, _, h => by simpa only [Dn] using h
  | .bl _, _, h => by simpa only [Dn] using h
  | .int _, _, h => by simpa only [Dn] using h
  | .str _, _, h => by simpa only [Dn] using h
  | .ty _, _, h => by simpa only [Dn] using h
  | .ref _, _, h => by simpa only [Dn] using h
  | .tup ds, _, h => by
    simp only [Dn] at h ⊢
    obtain ⟨a, xs, e, ha, r⟩ := h
    exact ⟨a, xs, e, l a _ ha im_tup, Dns.ext l ds xs r⟩
  | .lst ds, _, h => by
    simp only [Dn] at h ⊢
    obtain ⟨a, o, xs, e, ha, r⟩ := h
    exact ⟨a, o, xs, e, l a _ ha im_frz, Dns.ext l ds xs r⟩
  | .emp, _, h => by
    simp only [Dn] at h ⊢
    obtain ⟨a, o, e, ha⟩ := h
    exact ⟨a, o, e, l a _ ha im_frz⟩
  | .exc _ _ _ ks ds, _, h => by
    simp only [Dn] at h ⊢
    obtain ⟨e, h | ⟨d, vs, e2, hd, e3, r⟩⟩ := h
    · exact ⟨e, .inl h⟩
    · exact ⟨e, .inr ⟨d, vs, e2, l d _ hd im_xd, e3, Dns.ext l ds vs r⟩⟩
theorem Dns.ext {H H' : Hp} (l : Ext H H') : ∀ (ds : List D) (vs : List V), Dns H ds vs → Dns H' ds vs
  | [], _, h => by simpa only [Dns] using h
  | d :: ds, _, h => by
    simp only [Dns] at h ⊢
    obtain ⟨v, r, e, h1, h2⟩ := h
    exact ⟨v, r, e, Dn.ext l d v h1, Dns.ext l ds r h2⟩
end

section
variable {H : Hp}
theorem Dns.nil : Dns H [] [] := by simp only [Dns]
theorem Dns.cons {d : D} {v : V} {ds : List D} {vs : List V} (h : Dn H d v) (t : Dns H ds vs) : Dns H (d :: ds) (v :: vs) := by
  simp only [Dns]; exact ⟨v, vs, rfl, h, t⟩
theorem Dns.inv {d : D} {ds : List D} {vs : List V} (h : Dns H (d :: ds) vs) : ∃ v r, vs = v :: r ∧ Dn H d v ∧ Dns H ds r := by
  simpa only [Dns] using h
theorem Dns.nil_inv {vs : List V} (h : Dns H [] vs) : vs = [] := by simpa only [Dns] using h
theorem Dns.length : ∀ {ds : List D} {vs : List V}, Dns H ds vs → vs.length = ds.length
  | [], _, h => by rw [Dns.nil_inv h]; rfl
  | d :: ds, _, h => by
    obtain ⟨v, r, rfl, _, h2⟩ := Dns.inv h
    rw [List.length_cons, List.length_cons, Dns.length h2]
theorem Dns.get : ∀ {ds : List D} {vs : List V} {i : Nat} {d : D}, Dns H ds vs → ds[i]? = some d → ∃ v, vs[i]? = some v ∧ Dn H d v
  | [], _, _, _, _, e => by simp at e
  | d :: ds, _, 0, _, h, e => by
    obtain ⟨v, r, rfl, h1, _⟩ := Dns.inv h
    simp at e; subst e
    exact ⟨v, rfl, h1⟩
  | d :: ds, _, i + 1, x, h, e => by
    obtain ⟨v, r, rfl, _, h2⟩ := Dns.inv h
    obtain ⟨u, e1, e2⟩ := Dns.get (i := i) (d := x) h2 (by simpa using e)
    exact ⟨u, by simpa using e1, e2⟩
theorem Dns.append : ∀ {ds es : List D} {vs us : List V}, Dns H ds vs → Dns H es us → Dns H (ds ++ es) (vs ++ us)
  | [], _, _, _, h, t => by rw [Dns.nil_inv h]; exact t
  | d :: ds, _, _, _, h, t => by
    obtain ⟨v, r, rfl, h1, h2⟩ := Dns.inv h
    exact .cons h1 (Dns.append h2 t)
theorem Dns.drop : ∀ {ds : List D} {vs : List V} (n : Nat), Dns H ds vs → Dns H (ds.drop n) (vs.drop n)
  | _, _, 0, h => h
  | [], _, n + 1, h => by rw [Dns.nil_inv h]; exact .nil
  | d :: ds, _, n + 1, h => by
    obtain ⟨v, r, rfl, _, h2⟩ := Dns.inv h
    exact Dns.drop n h2
theorem Dns.take : ∀ {ds : List D} {vs : List V} (n : Nat), Dns H ds vs → Dns H (ds.take n) (vs.take n)
  | _, _, 0, _ => .nil
  | [], _, n + 1, h => by rw [Dns.nil_inv h]; exact .nil
  | d :: ds, _, n + 1, h => by
    obtain ⟨v, r, rfl, h1, h2⟩ := Dns.inv h
    exact .cons h1 (Dns.take n h2)
theorem Dns.set : ∀ {ds : List D} {vs : List V} {d : D} {v : V} (n : Nat), Dns H ds vs → Dn H d v → Dns H (ds.set n d) (vs.set n v)
  | [], _, _, _, _, h, _ => by rw [Dns.nil_inv h]; exact .nil
  | x :: ds, _, _, _, 0, h, hd => by
    obtain ⟨v, r, rfl, h1, h2⟩ := Dns.inv h
    exact .cons hd h2
  | x :: ds, _, _, _, n + 1, h, hd => by
    obtain ⟨v, r, rfl, h1, h2⟩ := Dns.inv h
    exact .cons h1 (Dns.set n h2 hd)
theorem Dns.rep {ds : List D} {vs : List V} (h : Dns H ds vs) : ∀ k : Nat, Dns H (List.replicate k ds).flatten (List.replicate k vs).flatten
  | 0 => .nil
  | k + 1 => by
    rw [List.replicate_succ, List.replicate_succ, List.flatten_cons, List.flatten_cons]
    exact h.append (Dns.rep h k)
theorem Dns.ints : ∀ ns : List Int, Dns H (ns.map D.int) (ns.map V.int)
  | [] => .nil
  | n :: ns => .cons (by simp only [Dn]) (Dns.ints ns)
theorem Dns.ints_inv : ∀ {ns : List Int} {vs : List V}, Dns H (ns.map D.int) vs → vs = ns.map V.int
  | [], _, h => Dns.nil_inv h
  | n :: ns, _, h => by
    obtain ⟨v, r, rfl, h1, h2⟩ := Dns.inv h
    simp only [Dn] at h1
    rw [h1, Dns.ints_inv h2]; rfl
theorem Dns.strs_inv : ∀ {ns : List Str} {vs : List V}, Dns H (ns.map D.str) vs → vs = ns.map V.str
  | [], _, h => Dns.nil_inv h
  | n :: ns, _, h => by
    obtain ⟨v, r, rfl, h1, h2⟩ := Dns.inv h
    simp only [Dn] at h1
    rw [h1, Dns.strs_inv h2]; rfl
theorem Dns.strs : ∀ ns : List Str, Dns H (ns.map D.str) (ns.map V.str)
  | [] => .nil
  | n :: ns => .cons (by simp only [Dn]) (Dns.strs ns)
theorem Dns.bls_inv : ∀ {ns : List Bool} {vs : List V}, Dns H (ns.map D.bl) vs → vs = ns.map V.bl
  | [], _, h => Dns.nil_inv h
  | n :: ns, _, h => by
    obtain ⟨v, r, rfl, h1, h2⟩ := Dns.inv h
    simp only [Dn] at h1
    rw [h1, Dns.bls_inv h2]; rfl
end

/-! ### tables of code objects -/
/-- the code object at c bears the name q -/
def CodeF (oc : Obj) (c : Addr) (q : Str) : HO := .frz oc (LamX.CodeO c q)
/-- the table at P: each code object that it tells bears the name that its place has -/
def TabF (H : Hp) (P : Addr) (q : Nat → Nat → Str) : Prop := ∃ ps : Array Value, H P = some (.tbl ps) ∧ TriplesOk ps.toList ∧ ∀ (pos : Pos) (cv : Value), codeAmong pos ps.toList = some cv → ∃ c oc, cv = .ref c ∧ H c = some (CodeF oc c (q pos.line pos.col))
theorem TabF.keep {H H' : Hp} {P : Addr} {q : Nat → Nat → Str} (t : TabF H P q) (x : Ext H H') (k : ∀ ps, H P = some (.tbl ps) → H' P = some (.tbl ps)) : TabF H' P q := by
  obtain ⟨ps, h1, h2, h3⟩ := t
  refine ⟨ps, k _ h1, h2, fun pos cv hc => ?_⟩
  obtain ⟨c, oc, e1, e2⟩ := h3 pos cv hc
  exact ⟨c, oc, e1, x c _ e2 im_frz⟩
theorem TabF.nil {H : Hp} {P : Addr} {q : Nat → Nat → Str} (h : H P = some (.tbl #[])) : TabF H P q := ⟨#[], h, True.intro, fun pos cv hc => by
  have z : codeAmong pos [] = some cv := hc
  simp [codeAmong] at z⟩

/-! ### the store of what changes -/
inductive Cell where
  | lst (ds : List D) | ins (C : Addr) (fs : List (Str × D)) | dT (ks : List (List Key)) (ds : List D) | dK (ks : List Key) (ds : List D)
abbrev Sto := List (Addr × Cell)
def Sto.on (st : Sto) (a : Addr) : Prop := a ∈ st.map (·.1)
/-- the tables of code objects that stand -/
class Tb where
  T : List NdefX.NTab
/-- what may change -/
def Sto.ch [Tb] (st : Sto) (a : Addr) : Prop := st.on a ∨ a ∈ Tb.T.map (·.1)
/-- the fields -/
def Fs (H : Hp) : List (Str × D) → List (Str × V) → Prop
  | [], vs => vs = []
  | (f, d) :: r, vs => ∃ v s, vs = (f, v) :: s ∧ Dn H d v ∧ Fs H r s
def CellOk (H : Hp) (a : Addr) : Cell → Prop
  | .lst ds => ∃ xs, H a = some (.lst xs) ∧ Dns H ds xs
  | .ins C fs => ∃ dx vs, H a = some (.ins C dx vs) ∧ Fs H fs vs
  | .dT ks ds => ∃ xs, H a = some (.dT xs) ∧ xs.map (·.1) = ks ∧ Dns H ds (xs.map (·.2))
  | .dK ks ds => ∃ xs, H a = some (.dK xs) ∧ xs.map (·.1) = ks ∧ Dns H ds (xs.map (·.2))
/-- the kinds of what changes -/
def Pl : HO → Prop
  | .lst _ => True
  | .ins _ _ _ => True
  | .dT _ => True
  | .dK _ => True
  | _ => False
theorem Pl.im {o : HO} (p : Pl o) (i : Im o) : False := by
  rcases i with ⟨_, rfl⟩ | ⟨_, _, rfl⟩ | ⟨_, rfl⟩ <;> exact p
structure Hold [Tb] (H : Hp) (st : Sto) : Prop where
  nd : (st.map (·.1)).Nodup
  ok : ∀ p ∈ st, CellOk H p.1 p.2
  tb : ∀ p ∈ Tb.T, TabF H p.1 p.2
structure Le [Tb] (st st' : Sto) (H H' : Hp) : Prop where
  keep : ∀ b o, H b = some o → ¬ st.ch b → H' b = some o ∧ ¬ st'.on b
  ext : Ext H H'
/-- from one state to a later one -/
structure To [Tb] (H : Hp) (st : Sto) (H' : Hp) (st' : Sto) : Prop where
  hold : Hold H' st'
  le : Le st st' H H'
theorem Dn.le [Tb] {st st' : Sto} {H H' : Hp} (l : Le st st' H H') (d : D) (v : V) (h : Dn H d v) : Dn H' d v := Dn.ext l.ext d v h
theorem Dns.le [Tb] {st st' : Sto} {H H' : Hp} (l : Le st st' H H') (d : List D) (v : List V) (h : Dns H d v) : Dns H' d v := Dns.ext l.ext d v h
theorem Fs.ext {H H' : Hp} (l : Ext H H') : ∀ {fs : List (Str × D)} {vs : List (Str × V)}, Fs H fs vs → Fs H' fs vs
  | [], _, h => h
  | (f, d) :: r, _, h => by
    obtain ⟨v, s, e, h1, h2⟩ := h
    exact ⟨v, s, e, Dn.ext l d v h1, Fs.ext l h2⟩
section
variable [Tb] {H H' H'' : Hp} {st st' st'' : Sto}
theorem Fs.le (l : Le st st' H H') {fs : List (Str × D)} {vs : List (Str × V)} (h : Fs H fs vs) : Fs H' fs vs := h.ext l.ext
theorem Le.refl : Le st st H H := ⟨fun b o h n => ⟨h, fun z => n (.inl z)⟩, Ext.refl⟩
theorem Le.trans (a : Le st st' H H') (b : Le st' st'' H' H'') : Le st st'' H H'' := ⟨fun c o h n => by
  obtain ⟨h1, n1⟩ := a.keep c o h n
  exact b.keep c o h1 fun z => z.elim n1 fun y => n (.inr y), a.ext.trans b.ext⟩
theorem To.refl (h : Hold H st) : To H st H st := ⟨h, Le.refl⟩
theorem To.trans (a : To H st H' st') (b : To H' st' H'' st'') : To H st H'' st'' := ⟨b.hold, a.le.trans b.le⟩
theorem To.dn (t : To H st H' st') {d : D} {v : V} (h : Dn H d v) : Dn H' d v := Dn.le t.le d v h
theorem To.dns (t : To H st H' st') {d : List D} {v : List V} (h : Dns H d v) : Dns H' d v := Dns.le t.le d v h
theorem CellOk.there {a : Addr} : ∀ {c : Cell}, CellOk H a c → ∃ o, H a = some o ∧ Pl o
  | .lst _, h => let ⟨_, e, _⟩ := h; ⟨_, e, trivial⟩
  | .ins _ _, h => let ⟨_, _, e, _⟩ := h; ⟨_, e, trivial⟩
  | .dT _ _, h => let ⟨_, e, _⟩ := h; ⟨_, e, trivial⟩
  | .dK _ _, h => let ⟨_, e, _⟩ := h; ⟨_, e, trivial⟩
theorem CellOk.ext {a : Addr} (l : Ext H H') (e : ∀ o, H a = some o → H' a = some o) : ∀ {c : Cell}, CellOk H a c → CellOk H' a c
  | .lst _, h => by obtain ⟨xs, h1, h2⟩ := h; exact ⟨xs, e _ h1, Dns.ext l _ _ h2⟩
  | .ins _ _, h => by obtain ⟨dx, vs, h1, h2⟩ := h; exact ⟨dx, vs, e _ h1, h2.ext l⟩
  | .dT _ _, h => by obtain ⟨xs, h1, h3, h2⟩ := h; exact ⟨xs, e _ h1, h3, Dns.ext l _ _ h2⟩
  | .dK _ _, h => by obtain ⟨xs, h1, h3, h2⟩ := h; exact ⟨xs, e _ h1, h3, Dns.ext l _ _ h2⟩
theorem Hold.there (h : Hold H st) {a : Addr} (ha : st.on a) : ∃ o, H a = some o ∧ Pl o := by
  obtain ⟨p, hp, rfl⟩ := List.mem_map.mp ha
  exact (h.ok p hp).there
theorem Hold.tabAt (h : Hold H st) {a : Addr} (ha : a ∈ Tb.T.map (·.1)) : ∃ ps, H a = some (.tbl ps) := by
  obtain ⟨p, hp, rfl⟩ := List.mem_map.mp ha
  obtain ⟨ps, e, _⟩ := h.tb p hp
  exact ⟨ps, e⟩
theorem Hold.fresh (h : Hold H st) {p : Addr} (hp : H p = none) : ¬ st.on p := fun z => by
  obtain ⟨o, e, _⟩ := h.there z
  rw [hp] at e; cases e
theorem Hold.im (h : Hold H st) {p : Addr} {o : HO} (hp : H p = some o) (i : Im o) : ¬ st.ch p := fun z => by
  rcases z with z | z
  · obtain ⟨u, e, pl⟩ := h.there z
    rw [hp] at e; cases e
    exact pl.im i
  · obtain ⟨ps, e⟩ := h.tabAt z
    rw [hp] at e; cases e
    rcases i with ⟨_, q⟩ | ⟨_, _, q⟩ | ⟨_, q⟩ <;> cases q
theorem ext_laid {p : Addr} {o : HO} (hp : H p = none) : Ext H (upd H p o) := fun b u hb _ => by rw [upd_ne (ne_of_none hb hp)]; exact hb
/-- all that is tracked stays -/
theorem Hold.more (h : Hold H st) (e : ∀ b o, H b = some o → H' b = some o) : To H st H' st :=
  ⟨⟨h.nd, fun q hq => (h.ok q hq).ext (fun b o z _ => e b o z) fun u z => e _ u z, fun p hp => (h.tb p hp).keep (fun b o z _ => e b o z) fun ps z => e _ _ z⟩, ⟨fun b o z n => ⟨e b o z, fun y => n (.inl y)⟩, fun b o z _ => e b o z⟩⟩
/-- a new thing is laid, no cell -/
theorem Hold.laid (h : Hold H st) {p : Addr} {o : HO} (hp : H p = none) : To H st (upd H p o) st := h.more fun b u e => by rw [upd_ne (ne_of_none e hp)]; exact e
theorem le_cell (h : Hold H st) {p : Addr} {o : HO} {c : Cell} (hp : H p = none) : Le st ((p, c) :: st) H (upd H p o) := ⟨fun b u hb n =>
  ⟨by rw [upd_ne (ne_of_none hb hp)]; exact hb, fun z => by
    rcases List.mem_cons.mp (show b ∈ p :: st.map (·.1) from z) with e | e
    · exact ne_of_none hb hp e
    · exact n (.inl e)⟩, ext_laid hp⟩
/-- a new cell -/
theorem Hold.cell (h : Hold H st) {p : Addr} {o : HO} {c : Cell} (hp : H p = none) (ok : CellOk (upd H p o) p c) : To H st (upd H p o) ((p, c) :: st) := by
  have k : ∀ b u, H b = some u → upd H p o b = some u := fun b u e => by rw [upd_ne (ne_of_none e hp)]; exact e
  refine ⟨⟨?_, fun q hq => ?_, fun q hq => (h.tb q hq).keep (fun b o z _ => k b o z) fun ps z => k _ _ z⟩, le_cell h hp⟩
  · exact List.nodup_cons.mpr ⟨fun z => h.fresh hp z, h.nd⟩
  · rcases List.mem_cons.mp hq with e | e
    · subst e; exact ok
    · exact (h.ok q e).ext (ext_laid hp) fun u z => k _ u z
/-- the cell at a is another now -/
def Sto.put (st : Sto) (a : Addr) (c : Cell) : Sto := st.map fun p => if p.1 = a then (a, c) else p
omit [Tb] in
theorem put_keys (st : Sto) (a : Addr) (c : Cell) : (st.put a c).map (·.1) = st.map (·.1) := by
  unfold Sto.put
  rw [List.map_map]
  refine List.map_congr_left fun p _ => ?_
  show (if p.1 = a then (a, c) else p).1 = p.1
  split
  · rename_i e; exact e.symm
  · rfl
omit [Tb] in
theorem put_on (st : Sto) (a : Addr) (c : Cell) : (st.put a c).on = st.on := by
  funext b; unfold Sto.on; rw [put_keys]
omit [Tb] in
/-- the object at a place of the kinds that change is changed -/
theorem ext_write {a : Addr} {o u : HO} (ha : H a = some u) (pl : Pl u) : Ext H (upd H a o) := fun b w hb i => by
  rw [upd_ne fun z => by rw [z, ha] at hb; cases hb; exact pl.im i]; exact hb
omit [Tb] in
theorem tab_write {a P : Addr} {q : Nat → Nat → Str} {o u : HO} (ha : H a = some u) (pl : Pl u) (t : TabF H P q) : TabF (upd H a o) P q :=
  t.keep (ext_write ha pl) fun ps e => by rw [upd_ne fun z => by rw [z, ha] at e; cases e; exact pl]; exact e
theorem le_write (h : Hold H st) {a : Addr} {o : HO} {c : Cell} (ha : st.on a) : Le st (st.put a c) H (upd H a o) := by
  obtain ⟨u, e, pl⟩ := h.there ha
  exact ⟨fun b w hb n => by rw [put_on]; exact ⟨by rw [upd_ne (fun z => n (.inl (by rw [z]; exact ha)))]; exact hb, fun z => n (.inl z)⟩, ext_write e pl⟩
theorem Hold.write (h : Hold H st) {a : Addr} {o : HO} {c : Cell} (ha : st.on a) (ok : CellOk (upd H a o) a c) : To H st (upd H a o) (st.put a c) := by
  obtain ⟨u, e, pl⟩ := h.there ha
  refine ⟨⟨by rw [put_keys]; exact h.nd, fun q hq => ?_, fun p hp => tab_write e pl (h.tb p hp)⟩, le_write h ha⟩
  obtain ⟨p, hp, e2⟩ := List.mem_map.mp hq
  by_cases z : p.1 = a
  · rw [if_pos z] at e2; subst e2
    exact ok
  · rw [if_neg z] at e2; subst e2
    exact (h.ok p hp).ext (ext_write e pl) fun u y => by rw [upd_ne z]; exact y
omit [Tb] in
theorem lookup_mem {st : Sto} {a : Addr} {c : Cell} (h : st.lookup a = some c) : (a, c) ∈ st := by
  induction st with
  | nil => cases h
  | cons p r ih =>
    obtain ⟨b, x⟩ := p
    simp only [List.lookup] at h
    split at h
    · rename_i e
      have e' : a = b := beq_iff_eq.mp e
      cases h; subst e'
      exact List.mem_cons_self
    · exact List.mem_cons_of_mem _ (ih h)
theorem Hold.at (h : Hold H st) {a : Addr} {c : Cell} (l : st.lookup a = some c) : CellOk H a c := h.ok (a, c) (lookup_mem l)
omit [Tb] in
theorem on_of {a : Addr} {c : Cell} (l : st.lookup a = some c) : st.on a := List.mem_map.mpr ⟨(a, c), lookup_mem l, rfl⟩
/-- a cell is let go -/
def Sto.less (st : Sto) (a : Addr) : Sto := st.filter fun p => decide (p.1 ≠ a)
omit [Tb] in
theorem less_on {a b : Addr} : (st.less a).on b ↔ st.on b ∧ b ≠ a := by
  unfold Sto.on Sto.less
  constructor
  · intro h
    obtain ⟨p, hp, rfl⟩ := List.mem_map.mp h
    obtain ⟨h1, h2⟩ := List.mem_filter.mp hp
    exact ⟨List.mem_map.mpr ⟨p, h1, rfl⟩, of_decide_eq_true h2⟩
  · rintro ⟨h, n⟩
    obtain ⟨p, hp, rfl⟩ := List.mem_map.mp h
    exact List.mem_map.mpr ⟨p, List.mem_filter.mpr ⟨hp, decide_eq_true n⟩, rfl⟩
/-- .. and changes no more -/
theorem Hold.freeze (h : Hold H st) {a : Addr} {o : HO} (ha : st.on a) : To H st (upd H a o) (st.less a) := by
  obtain ⟨u, e, pl⟩ := h.there ha
  refine ⟨⟨h.nd.sublist (List.Sublist.map _ List.filter_sublist), fun q hq => ?_, fun p hp => tab_write e pl (h.tb p hp)⟩, ⟨fun b w hb n => ⟨by rw [upd_ne (fun z => n (.inl (by rw [z]; exact ha)))]; exact hb, fun z => n (.inl (less_on.mp z).1)⟩, ext_write e pl⟩⟩
  obtain ⟨hq1, hq2⟩ := List.mem_filter.mp hq
  exact (h.ok q hq1).ext (ext_write e pl) fun u y => by rw [upd_ne (of_decide_eq_true hq2)]; exact y
end

/-! ### the slots -/
abbrev DEnv := List (Option D)
def EnvR (H : Hp) (env : DEnv) (σ : St) : Prop := σ.length = env.length ∧ ∀ (i : Nat) (d : D), env[i]? = some (some d) → ∃ v, σ[i]? = some (some v) ∧ Dn H d v
theorem EnvR.ext {H H' : Hp} (l : Ext H H') {env : DEnv} {σ : St} (h : EnvR H env σ) : EnvR H' env σ := ⟨h.1, fun i d e => by
  obtain ⟨v, e1, e2⟩ := h.2 i d e
  exact ⟨v, e1, Dn.ext l d v e2⟩⟩
theorem EnvR.le [Tb] {st st' : Sto} {H H' : Hp} (l : To H st H' st') {env : DEnv} {σ : St} (h : EnvR H env σ) : EnvR H' env σ := h.ext l.le.ext
theorem EnvR.set {H : Hp} {env : DEnv} {σ : St} (h : EnvR H env σ) (i : Nat) {d : D} {v : V} (hd : Dn H d v) : EnvR H (env.set i (some d)) (σ.set i (some v)) := by
  refine ⟨by rw [List.length_set, List.length_set]; exact h.1, fun j x e => ?_⟩
  by_cases hj : j = i
  · subst hj
    by_cases hl : j < env.length
    · rw [List.getElem?_set_self hl] at e
      cases e
      exact ⟨v, List.getElem?_set_self (by rw [h.1]; exact hl), hd⟩
    · rw [List.getElem?_eq_none (by rw [List.length_set]; omega)] at e; cases e
  · rw [List.getElem?_set_ne (Ne.symm hj)] at e ⊢
    exact h.2 j x e
theorem EnvR.unset {H : Hp} {env : DEnv} {σ : St} (h : EnvR H env σ) (i : Nat) (o : Option V) : EnvR H (env.set i none) (σ.set i o) := by
  refine ⟨by rw [List.length_set, List.length_set]; exact h.1, fun j x e => ?_⟩
  by_cases hj : j = i
  · subst hj
    by_cases hl : j < env.length
    · rw [List.getElem?_set_self hl] at e; cases e
    · rw [List.getElem?_eq_none (by rw [List.length_set]; omega)] at e; cases e
  · rw [List.getElem?_set_ne (Ne.symm hj)] at e ⊢
    exact h.2 j x e

/-! ### readings over data -/
abbrev XD := Addr × List (Str × D)
abbrev KD := D → Sto → Prop
abbrev KX := XD → Sto → Prop
abbrev WE := DEnv → Sto → KD → KX → Prop
abbrev WA := DEnv → Sto → (List D → Sto → Prop) → KX → Prop
abbrev WT := DEnv → Sto → (Bool → Sto → Prop) → KX → Prop
structure DEnds where
  nx : DEnv → Sto → Prop
  rt : KD
  ex : XD → DEnv → Sto → Prop
  bk : DEnv → Sto → Prop := fun _ _ => False
  ct : DEnv → Sto → Prop := fun _ _ => False
abbrev WS := DEnds → DEnv → Sto → Prop
abbrev WF := List D → Sto → KD → KX → Prop
/-- an exception: its class, its fields -/
def XRel (H : Hp) (x : XD) (cls : Value) (dd : Option Addr) : Prop :=
  cls = .ref x.1 ∧ ((x.2 = [] ∧ dd = none) ∨ ∃ d vs, dd = some d ∧ H d = some (.xd vs) ∧ Fs H x.2 vs)
section
variable [Tb]
def lfE (W : WX) (w : WE) : TE := fun σ H Q => ∃ (env : DEnv) (st : Sto) (Kn : KD) (Kx : KX), Hold H st ∧ EnvR H env σ ∧ w env st Kn Kx ∧
  (∀ d st' v H', Kn d st' → To H st H' st' → Dn H' d v → Q v H') ∧ (∀ x st' cls dd H', Kx x st' → To H st H' st' → XRel H' x cls dd → W cls dd σ H')
def lfT (W : WX) (w : WT) : TT := fun σ H Q => ∃ (env : DEnv) (st : Sto) (Kn : Bool → Sto → Prop) (Kx : KX), Hold H st ∧ EnvR H env σ ∧ w env st Kn Kx ∧
  (∀ d st' H', Kn d st' → To H st H' st' → Q d H') ∧ (∀ x st' cls dd H', Kx x st' → To H st H' st' → XRel H' x cls dd → W cls dd σ H')
def lfA (W : WX) (w : WA) : TA := fun σ H Q => ∃ (env : DEnv) (st : Sto) (Kn : List D → Sto → Prop) (Kx : KX), Hold H st ∧ EnvR H env σ ∧ w env st Kn Kx ∧
  (∀ d st' v H', Kn d st' → To H st H' st' → Dns H' d v → Q v H') ∧ (∀ x st' cls dd H', Kx x st' → To H st H' st' → XRel H' x cls dd → W cls dd σ H')
def lfS (W : WX) (w : WS) : TS := fun D σ H => ∃ (env : DEnv) (st : Sto) (DD : DEnds), Hold H st ∧ EnvR H env σ ∧ w DD env st ∧
  (∀ env' st' σ' H', DD.nx env' st' → To H st H' st' → EnvR H' env' σ' → D.nx σ' H') ∧
  (∀ d st' v H', DD.rt d st' → To H st H' st' → Dn H' d v → D.rt v H') ∧
  (∀ env' st' σ' H', DD.bk env' st' → To H st H' st' → EnvR H' env' σ' → D.bk σ' H') ∧
  (∀ env' st' σ' H', DD.ct env' st' → To H st H' st' → EnvR H' env' σ' → D.ct σ' H') ∧
  (∀ x env' st' cls dd σ' H', DD.ex x env' st' → To H st H' st' → EnvR H' env' σ' → XRel H' x cls dd → W cls dd σ' H')
abbrev PD (X : Cx) (W : WX) (e : Expr) (w : WE) : Prop := PE X e (lfE W w)
abbrev PDT (X : Cx) (W : WX) (e : Expr) (w : WT) : Prop := PT X e (lfT W w)
abbrev PDA (X : Cx) (W : WX) (es : List Expr) (w : WA) : Prop := PA X es (lfA W w)
abbrev PDS (X : Cx) (W : WX) (s : Stmt) (w : WS) : Prop := PS X s (lfS W w)
abbrev PDSs (X : Cx) (W : WX) (ss : List Stmt) (w : WS) : Prop := PSs X ss (lfS W w)
end
section
variable {X : Cx}
theorem PE.imp {e : Expr} {t t' : TE} (h : PE X e t) (i : ∀ σ H Q, t' σ H Q → t σ H Q) : PE X e t' := ⟨fun pins s σ H Q I q => h.run pins s σ H Q I (i _ _ _ q)⟩
theorem PT.imp {e : Expr} {t t' : TT} (h : PT X e t) (i : ∀ σ H Q, t' σ H Q → t σ H Q) : PT X e t' := ⟨fun pins s σ H Q I q => h.run pins s σ H Q I (i _ _ _ q)⟩
theorem PW.imp {e : Expr} {t t' : TT} (h : PW X e t) (i : ∀ σ H Q, t' σ H Q → t σ H Q) : PW X e t' := ⟨fun w pins s σ H Q I q => h.run w pins s σ H Q I (i _ _ _ q)⟩
theorem PA.imp {e : List Expr} {t t' : TA} (h : PA X e t) (i : ∀ σ H Q, t' σ H Q → t σ H Q) : PA X e t' := ⟨fun pos pins s σ H Q I q => h.run pos pins s σ H Q I (i _ _ _ q)⟩
theorem PS.imp {s : Stmt} {t t' : TS} (h : PS X s t) (i : ∀ D σ H, t' D σ H → t D σ H) : PS X s t' := ⟨fun pins s σ H D I q => h.run pins s σ H D I (i _ _ _ q)⟩
theorem PSs.imp {s : List Stmt} {t t' : TS} (h : PSs X s t) (i : ∀ D σ H, t' D σ H → t D σ H) : PSs X s t' := ⟨fun pins s σ H D I q => h.run pins s σ H D I (i _ _ _ q)⟩
end

/-! ### what is made changes no more: a note on the abstract heap alone -/
section
variable {X : Cx} {pins : List (Addr × Obj)} {σ : St} {H : Hp} {s : Shared}
/-- the kinds that may be frozen -/
def Fz : HO → Prop
  | .lst _ => True
  | .dK _ => True
  | _ => False
theorem Inv.frozen {a : Addr} {u : HO} (I : Inv X pins σ H s) (ha : H a = some u) (hu : Fz u) : ∃ o, Inv X pins σ (upd H a (.frz o u)) s := by
  have hn : ∀ b, H b = none → b ≠ a := fun b e z => by rw [z, ha] at e; cases e
  have hd : ∀ b w, H b = some w → ¬ Fz w → b ≠ a := fun b w e n z => by rw [z, ha] at e; cases e; exact n hu
  have ok := I.hok a u ha
  have hob : ∃ o, s.heap.get? a = some o := by
    cases u with
    | lst xs => obtain ⟨_, _, _, _, e⟩ := ok; exact ⟨_, e⟩
    | dK kvs => obtain ⟨_, _, _, _, o, _, _, e, _⟩ := ok; exact ⟨_, e⟩
    | _ => exact (show False from hu).elim
  obtain ⟨o, ho⟩ := hob
  refine ⟨o, I.ok, I.os, I.bare, ⟨I.base.keep, I.base.slot, fun b ob e n hx => ?_, I.base.there, fun b xs e => ?_, fun b ob x e => ?_, fun b ps e => ?_⟩, I.loc, I.cell, ?_, fun x c e => ?_, fun p hp => ?_, fun b w e => ?_, I.len⟩
  · rw [upd_ne (hn b (I.base.free b ob e n hx))]; exact I.base.free b ob e n hx
  · have q := I.base.tups b xs e
    rw [upd_ne (hd b _ q (fun z => z))]; exact q
  · have q := I.base.frzs b ob x e
    rw [upd_ne (hd b _ q (fun z => z))]; exact q
  · obtain ⟨more, q⟩ := I.base.tbls b ps e
    exact ⟨more, by rw [upd_ne (hd b _ q (fun z => z))]; exact q⟩
  · rw [upd_ne (hn _ I.free)]; exact I.free
  · rw [upd_ne (hn _ (I.freeC x c e))]; exact I.freeC x c e
  · obtain ⟨p1, p2, p3⟩ := I.pin p hp
    exact ⟨p1, by rw [upd_ne (hn _ p2)]; exact p2, p3⟩
  · have st : ∀ c w, H c = some w → ObjOk X.prog X.w (upd H a (.frz o u)) s.heap c w := fun c w e => (I.hok c w e).stay (fun _ _ _ q => q) (fun d q => by rw [upd_ne (hd d _ q (fun z => z))]; exact q) fun d xs q => by rw [upd_ne (hd d _ q (fun z => z))]; exact q
    by_cases hb : b = a
    · subst hb
      rw [upd_same] at e; cases e
      exact ⟨ho, st b u ha⟩
    · rw [upd_ne hb] at e
      exact st b w e
/-- a value as it is, or a list made of it that changes no more -/
def FO (Q : VK) : VK := fun v H => Q v H ∨ ∃ p u, v = .ref p ∧ H p = some u ∧ Fz u ∧ ∀ o, Q v (upd H p (.frz o u))
theorem PE.fo {e : Expr} {t : TE} (h : PE X e t) : PE X e (fun σ H Q => t σ H (FO Q)) := ⟨fun pins s σ H Q I q => wpAny_mono (h.run pins s σ H (FO Q) I q) (fun u s' hq => by
  obtain ⟨v, H', I', rv, q'⟩ := hq
  rcases q' with q' | ⟨p, w, ev, hp, fz, q'⟩
  · exact ⟨v, H', I', rv, q'⟩
  · obtain ⟨o, J⟩ := Inv.frozen I' hp fz
    exact ⟨v, _, J, rv, q' o⟩) fun _ _ x => x⟩
/-- .. a slot whose list changes no more, behind a statement -/
def FOn (nx : St → Hp → Prop) : St → Hp → Prop := fun σ H => nx σ H ∨ ∃ (i : Nat) (p : Addr) (u : HO), σ[i]? = some (some (V.ref p)) ∧ H p = some u ∧ Fz u ∧ ∀ o, nx σ (upd H p (.frz o u))
theorem PS.fo {e : Stmt} {t : TS} (h : PS X e t) : PS X e (fun D σ H => t { D with nx := FOn D.nx } σ H) := ⟨fun pins s σ H D I q => wpAny_mono (h.run pins s σ H _ I q) (fun f s' hq => by
  cases f with
  | next =>
    obtain ⟨σ', H', I', q'⟩ := hq
    rcases q' with q' | ⟨i, p, w, ev, hp, fz, q'⟩
    · exact ⟨σ', H', I', q'⟩
    · obtain ⟨o, J⟩ := Inv.frozen I' hp fz
      exact ⟨σ', _, J, q' o⟩
  | ret v => exact hq
  | brk => exact hq
  | cont => exact hq) fun _ _ x => x⟩
end
end DL

namespace DL
open PySem PySem.Spec PyProof.Rows L2
theorem sz_of {n : Nat} (h : n ≤ 1000000) : n ≤ sizeLine := Nat.le_trans h (by rw [sizeLine_eq]; decide)
theorem dn_int {H : Hp} {i : Int} {v : V} (h : Dn H (.int i) v) : v = .int i := by simpa only [Dn] using h
theorem dn_bl {H : Hp} {i : Bool} {v : V} (h : Dn H (.bl i) v) : v = .bl i := by simpa only [Dn] using h
theorem dn_str {H : Hp} {i : Str} {v : V} (h : Dn H (.str i) v) : v = .str i := by simpa only [Dn] using h
theorem dn_non {H : Hp} {v : V} (h : Dn H .non v) : v = .non := by simpa only [Dn] using h
theorem dn_ref {H : Hp} {a : Addr} {v : V} (h : Dn H (.ref a) v) : v = .ref a := by simpa only [Dn] using h
theorem dn_ty {H : Hp} {a : String} {v : V} (h : Dn H (.ty a) v) : v = .ty a := by simpa only [Dn] using h
theorem dn_tup {H : Hp} {ds : List D} {v : V} (h : Dn H (.tup ds) v) : ∃ a xs, v = .ref a ∧ H a = some (.tup xs) ∧ Dns H ds xs := by simpa only [Dn] using h
theorem dn_lst {H : Hp} {ds : List D} {v : V} (h : Dn H (.lst ds) v) : ∃ a o xs, v = .ref a ∧ H a = some (.frz o (.lst xs)) ∧ Dns H ds xs := by simpa only [Dn] using h
theorem mk_int {H : Hp} {i : Int} : Dn H (.int i) (.int i) := by simp only [Dn]
theorem mk_bl {H : Hp} {i : Bool} : Dn H (.bl i) (.bl i) := by simp only [Dn]
theorem mk_str {H : Hp} {i : Str} : Dn H (.str i) (.str i) := by simp only [Dn]
theorem mk_non {H : Hp} : Dn H .non .non := by simp only [Dn]
theorem mk_ref {H : Hp} {i : Addr} : Dn H (.ref i) (.ref i) := by simp only [Dn]
theorem mk_ty {H : Hp} {i : String} : Dn H (.ty i) (.ty i) := by simp only [Dn]
theorem mk_tup {H : Hp} {a : Addr} {xs : List V} {ds : List D} (h : H a = some (.tup xs)) (r : Dns H ds xs) : Dn H (.tup ds) (.ref a) := by simp only [Dn]; exact ⟨a, xs, rfl, h, r⟩
theorem mk_lst {H : Hp} {a : Addr} {o : Obj} {xs : List V} {ds : List D} (h : H a = some (.frz o (.lst xs))) (r : Dns H ds xs) : Dn H (.lst ds) (.ref a) := by simp only [Dn]; exact ⟨a, o, xs, rfl, h, r⟩
theorem SqL.frz {K : PySem.W.Frag} {H : Hp} {a : Addr} {o : Obj} {xs : List V} (h : H a = some (.frz o (.lst xs))) : SqL K H a xs := .inl (.inr ⟨o, h⟩)

section
variable [Tb] {X : Cx} {W : WX} {e a b c : Expr} {es : List Expr} {pos : Pos} {wa wb wc we : WE}
/-! ### names, constants -/
def wVar (i : Nat) : WE := fun env st Kn _ => match env[i]? with
  | some (some d) => Kn d st
  | _ => False
theorem pd_var {i : Nat} (h : PE X e (tVar i)) : PD X W e (wVar i) := PE.imp h fun σ H Q ⟨env, st, Kn, Kx, hold, er, hw, hn, _⟩ => by
  unfold wVar at hw
  split at hw
  · rename_i d e
    obtain ⟨v, e1, e2⟩ := er.2 _ d e
    exact ⟨v, e1, hn d st v H hw (To.refl hold) e2⟩
  · exact hw.elim
def wC (d : D) : WE := fun _ st Kn _ => Kn d st
theorem pd_c {v : V} {d : D} (h : PE X e (tC v)) (hd : ∀ H, Dn H d v) : PD X W e (wC d) := PE.imp h fun σ H Q ⟨env, st, Kn, Kx, hold, er, hw, hn, _⟩ => hn d st v H hw (To.refl hold) (hd _)
theorem pd_int {i j} : PD X W (.Constant (.int i) j pos) (wC (.int i)) := pd_c pe_int fun _ => mk_int
theorem pd_bl {i j} : PD X W (.Constant (.bool i) j pos) (wC (.bl i)) := pd_c pe_bl fun _ => mk_bl
theorem pd_non {j} : PD X W (.Constant .none j pos) (wC .non) := pd_c pe_non fun _ => mk_non
theorem pd_str {i j} : PD X W (.Constant (.str i) j pos) (wC (.str i)) := pd_c pe_str fun _ => mk_str
theorem pd_ref {x : Str} {f : Addr} (hg : Gl X x) (hm : X.mg x = some (.ref f)) (hd : (x == ("__debug__" : Str)) = false := by decide) : PD X W (.Name x pos) (wC (.ref f)) := pd_c (pe_glob (v := .ref f) hg hm rfl hd) fun _ => mk_ref
theorem pd_gint {x : Str} {i : Int} (hg : Gl X x) (hm : ∃ t, X.mg x = some (.int i t)) (hd : (x == ("__debug__" : Str)) = false := by decide) : PD X W (.Name x pos) (wC (.int i)) := by
  obtain ⟨t, hm⟩ := hm
  exact pd_c (pe_glob (v := .int i) hg hm ⟨t, rfl⟩ hd) fun _ => mk_int
theorem pd_gstr {x y : Str} (hg : Gl X x) (hm : ∃ t, X.mg x = some (.str y t)) (hd : (x == ("__debug__" : Str)) = false := by decide) : PD X W (.Name x pos) (wC (.str y)) := by
  obtain ⟨t, hm⟩ := hm
  exact pd_c (pe_glob (v := .str y) hg hm ⟨t, rfl⟩ hd) fun _ => mk_str
theorem pd_ty {x : Str} {n : String} (hg : Gl X x) (hm : X.mg x = none) (hv : bootBuiltins x = some (.type n)) (hn : x ≠ "__name__" := by decide) (hd : (x == ("__debug__" : Str)) = false := by decide) : PD X W (.Name x pos) (wC (.ty n)) :=
  pd_c (pe_bltn (v := .ty n) hg hm hv rfl hn hd) fun _ => mk_ty

/-! ### operators -/
def OpL (r : R2) (g : D → D → Sto → KD → Prop) : Prop :=
  ∀ (dx dy : D) (x y : V) (H : Hp) (st : Sto) (Kn : KD) (Q : VK), g dx dy st Kn → Hold H st → Dn H dx x → Dn H dy y →
    (∀ d st' v H', Kn d st' → To H st H' st' → Dn H' d v → Q v H') → r x y H (FO Q)
/-- .. an order, an equality: nothing is made -/
def OpC (r : R2) (g : D → D → Sto → KD → Prop) : Prop :=
  ∀ (dx dy : D) (x y : V) (H : Hp) (st : Sto) (Kn : KD) (Q : VK), g dx dy st Kn → Hold H st → Dn H dx x → Dn H dy y →
    (∀ d st' v H', Kn d st' → To H st H' st' → Dn H' d v → Q v H') → r x y H Q
def wOp (g : D → D → Sto → KD → Prop) (wa wb : WE) : WE := fun env st Kn Kx => wa env st (fun x st1 => wb env st1 (fun y st2 => g x y st2 Kn) Kx) Kx
theorem lf_op {r : R2} {g : D → D → Sto → KD → Prop} (hl : OpL r g) : ∀ σ H Q, lfE W (wOp g wa wb) σ H Q → tOp r (lfE W wa) (lfE W wb) σ H (FO Q) := by
  rintro σ H Q ⟨env, st, Kn, Kx, hold, er, hw, hn, hx⟩
  refine ⟨env, st, _, Kx, hold, er, hw, fun x st1 v H1 h1 t1 d1 => ?_, hx⟩
  refine ⟨env, st1, _, Kx, t1.hold, er.le t1, h1, fun y st2 u H2 h2 t2 d2 => ?_, fun z st2 cls dd H2 k t2 xr => hx z st2 cls dd H2 k (t1.trans t2) xr⟩
  exact hl x y v u H2 st2 Kn Q h2 t2.hold (t2.dn d1) d2 fun d st' v' H' k t' dn' => hn d st' v' H' k (t1.trans (t2.trans t')) dn'
theorem lf_opc {r : R2} {g : D → D → Sto → KD → Prop} (hl : OpC r g) : ∀ σ H Q, lfE W (wOp g wa wb) σ H Q → tOp r (lfE W wa) (lfE W wb) σ H Q := by
  rintro σ H Q ⟨env, st, Kn, Kx, hold, er, hw, hn, hx⟩
  refine ⟨env, st, _, Kx, hold, er, hw, fun x st1 v H1 h1 t1 d1 => ?_, hx⟩
  refine ⟨env, st1, _, Kx, t1.hold, er.le t1, h1, fun y st2 u H2 h2 t2 d2 => ?_, fun z st2 cls dd H2 k t2 xr => hx z st2 cls dd H2 k (t1.trans t2) xr⟩
  exact hl x y v u H2 st2 Kn Q h2 t2.hold (t2.dn d1) d2 fun d st' v' H' k t' dn' => hn d st' v' H' k (t1.trans (t2.trans t')) dn'
theorem pd_op {op : Operator} {r : R2} {g : D → D → Sto → KD → Prop} (ho : OpR X (binaryOp op) r) (hl : OpL r g) (ha : PD X W a wa) (hb : PD X W b wb) : PD X W (.BinOp a op b pos) (wOp g wa wb) := PE.imp (PE.fo (pe_op ho ha hb)) (lf_op hl)
theorem pd_cmp {op : CmpOp} {r : R2} {g : D → D → Sto → KD → Prop} (ho : OpR X (compareOp op) r) (hl : OpC r g) (ha : PD X W a wa) (hb : PD X W b wb) (hm : behindInMarks op b = false) : PD X W (.Compare a [op] [b] pos) (wOp g wa wb) := PE.imp (pe_cmpR ho ha hb hm) (lf_opc hl)
theorem pd_ix {r : R2} {g : D → D → Sto → KD → Prop} (hr : IxR X r) (hl : OpL r g) (ha : PD X W a wa) (hb : PD X W b wb) (hs : PlainIx b := by exact fun _ _ => rfl) : PD X W (.Subscript a b pos) (wOp g wa wb) := PE.imp (PE.fo (pe_ix hr ha hb hs)) (lf_op hl)
def UnL (r : V → Hp → VK → Prop) (g : D → Sto → KD → Prop) : Prop :=
  ∀ (dx : D) (x : V) (H : Hp) (st : Sto) (Kn : KD) (Q : VK), g dx st Kn → Hold H st → Dn H dx x →
    (∀ d st' v H', Kn d st' → To H st H' st' → Dn H' d v → Q v H') → r x H Q
def wUn (g : D → Sto → KD → Prop) (wa : WE) : WE := fun env st Kn Kx => wa env st (fun x st1 => g x st1 Kn) Kx
theorem pd_un {op : UnaryOp} {r : V → Hp → VK → Prop} {g : D → Sto → KD → Prop} (ho : UnR X (unaryOp op) r) (hl : UnL r g) (ha : PD X W a wa) : PD X W (.UnaryOp op a pos) (wUn g wa) :=
  PE.imp (pe_un ho ha) fun σ H Q ⟨env, st, Kn, Kx, hold, er, hw, hn, hx⟩ => ⟨env, st, _, Kx, hold, er, hw, fun x st1 v H1 h1 t1 d1 => hl x v H1 st1 Kn Q h1 t1.hold d1 fun d st' v' H' k t' dn' => hn d st' v' H' k (t1.trans t') dn', hx⟩
def wChain (g g' : D → D → Sto → KD → Prop) (wa wb wc : WE) : WE := fun env st Kn Kx => wa env st (fun x s1 => wb env s1 (fun y s2 => g x y s2 fun z s3 => match z with
  | .bl true => wc env s3 (fun w s4 => g' y w s4 Kn) Kx
  | .bl false => Kn (.bl false) s3
  | _ => False) Kx) Kx
theorem pd_chain {op op' : CmpOp} {r r' : R2} {g g' : D → D → Sto → KD → Prop} (ho : OpR X (compareOp op) r) (ho' : OpR X (compareOp op') r') (hl : OpC r g) (hl' : OpC r' g') (ha : PD X W a wa) (hb : PD X W b wb) (hc : PD X W c wc)
    (hm : lastMarks [op, op'] [b, c] = false := by with_unfolding_all rfl) : PD X W (.Compare a [op, op'] [b, c] pos) (wChain g g' wa wb wc) := by
  refine PE.imp (pe_chain ho ho' ha hb hc hm) ?_
  rintro σ H Q ⟨env, st, Kn, Kx, hold, er, hw, hn, hx⟩
  refine ⟨env, st, _, Kx, hold, er, hw, fun x st1 v H1 h1 t1 d1 => ?_, hx⟩
  refine ⟨env, st1, _, Kx, t1.hold, er.le t1, h1, fun y st2 u H2 h2 t2 d2 => ?_, fun z st2 cls dd H2 k t2 xr => hx z st2 cls dd H2 k (t1.trans t2) xr⟩
  refine hl x y v u H2 st2 _ _ h2 t2.hold (t2.dn d1) d2 fun z st3 v3 H3 k t3 dn3 => ?_
  split at k
  · rw [dn_bl dn3]
    refine ⟨true, rfl, ?_⟩
    rw [if_pos rfl]
    have t := (t1.trans t2).trans t3
    refine ⟨env, st3, _, Kx, t3.hold, er.le t, k, fun w st4 v4 H4 h4 t4 d4 => ?_, fun z st4 cls dd H4 k t4 xr => hx z st4 cls dd H4 k (t.trans t4) xr⟩
    exact hl' y w u v4 H4 st4 Kn Q h4 t4.hold (t4.dn (t3.dn d2)) d4 fun d st' v' H' k t' dn' => hn d st' v' H' k ((t.trans t4).trans t') dn'
  · rw [dn_bl dn3]
    refine ⟨false, rfl, ?_⟩
    rw [if_neg Bool.false_ne_true]
    exact hn _ _ _ _ k ((t1.trans t2).trans t3) mk_bl
  · exact k.elim

/-! ### tests -/
def wTv (w : WE) : WT := fun env st Kn Kx => w env st (fun d st' => match d with
  | .bl b => Kn b st'
  | _ => False) Kx
theorem pdt_val (h : PD X W e we) (he : ∀ whole, isTrue e X.env whole = (do let v ← whole; standAt e.pos; holding [v] (truthy v)) := by intro _; rfl) : PDT X W e (wTv we) :=
  PT.imp (pt_val h he) fun σ H Q ⟨env, st, Kn, Kx, hold, er, hw, hn, hx⟩ => ⟨env, st, _, Kx, hold, er, hw, fun d st' v H' k t dn => by
    split at k
    · exact ⟨_, dn_bl dn, hn _ _ _ k t⟩
    · exact k.elim, hx⟩
theorem pdt_of (h : PT X e (tTest (lfE W we))) : PDT X W e (wTv we) :=
  PT.imp h fun σ H Q ⟨env, st, Kn, Kx, hold, er, hw, hn, hx⟩ => ⟨env, st, _, Kx, hold, er, hw, fun d st' v H' k t dn => by
    split at k
    · exact ⟨_, dn_bl dn, hn _ _ _ k t⟩
    · exact k.elim, hx⟩
theorem PT.tst {t t' : TE} (h : PT X e (tTest t)) (i : ∀ σ H Q, t' σ H Q → t σ H Q) : PT X e (tTest t') := PT.imp h fun σ H Q q => i _ _ _ q
theorem pdt_cmp {op : CmpOp} {r : R2} {g : D → D → Sto → KD → Prop} (ho : OpR X (compareOp op) r) (hl : OpC r g) (ha : PD X W a wa) (hb : PD X W b wb) (hm : behindInMarks op b = false) : PDT X W (.Compare a [op] [b] pos) (wTv (wOp g wa wb)) :=
  pdt_of (PT.tst (pt_cmpR ho ha hb hm) (lf_opc hl))
/-- the truth of a value -/
def gTru (d : D) (st : Sto) (Kn : Bool → Sto → Prop) : Prop := match d with
  | .non => Kn false st
  | .bl b => Kn b st
  | .int i => Kn (i != 0) st
  | .str x => x.length ≤ sizeLine ∧ Kn ((x.length : Int) != 0) st
  | .lst ds => Kn (!ds.isEmpty) st
  | .tup ds => Kn (!ds.isEmpty) st
  | .ref a => match st.lookup a with
    | some (.lst ds) => Kn (!ds.isEmpty) st
    | _ => False
  | _ => False
theorem dns_empty {H : Hp} {ds : List D} {vs : List V} (h : Dns H ds vs) : (!ds.isEmpty) = !vs.isEmpty := by
  have := h.length
  cases ds <;> cases vs <;> simp_all
def wTru (w : WE) : WT := fun env st Kn Kx => w env st (fun d st' => gTru d st' Kn) Kx
theorem pdt_tru (h : PD X W e we) (he : ∀ whole, isTrue e X.env whole = (do let v ← whole; standAt e.pos; holding [v] (truthy v)) := by intro _; rfl) : PDT X W e (wTru we) :=
  PT.imp (pt_truth h he) fun σ H Q ⟨env, st, Kn, Kx, hold, er, hw, hn, hx⟩ => ⟨env, st, _, Kx, hold, er, hw, fun d st' v H' k t dn => by
    cases d with
    | non => rw [dn_non dn]; exact ⟨false, rfl, hn _ _ _ k t⟩
    | bl b => rw [dn_bl dn]; exact ⟨b, rfl, hn _ _ _ k t⟩
    | int i => rw [dn_int dn]; exact ⟨_, rfl, hn _ _ _ k t⟩
    | str x => rw [dn_str dn]; exact ⟨_, ⟨k.1, rfl⟩, hn _ _ _ k.2 t⟩
    | lst ds =>
      obtain ⟨p, o, xs, rfl, hp, r⟩ := dn_lst dn
      exact ⟨_, .inl ⟨xs, SqL.frz hp, rfl⟩, hn _ _ _ (by rw [← dns_empty r]; exact k) t⟩
    | tup ds =>
      obtain ⟨p, xs, rfl, hp, r⟩ := dn_tup dn
      exact ⟨_, .inr (.inl ⟨xs, SqT.of hp, rfl⟩), hn _ _ _ (by rw [← dns_empty r]; exact k) t⟩
    | ref p =>
      rw [dn_ref dn]
      have k : (match st'.lookup p with | some (.lst ds) => Kn (!ds.isEmpty) st' | _ => False) := k
      split at k
      · rename_i ds l
        obtain ⟨xs, hp, r⟩ := t.hold.at l
        exact ⟨_, .inl ⟨xs, SqL.of hp, rfl⟩, hn _ _ _ (by rw [← dns_empty r]; exact k) t⟩
      · exact k.elim
    | _ => exact (show False from k).elim, hx⟩
def wNot (w : WT) : WT := fun env st Kn Kx => w env st (fun b st' => Kn (!b) st') Kx
def wAnd (w u : WT) : WT := fun env st Kn Kx => w env st (fun b st' => match b with
  | true => u env st' Kn Kx
  | false => Kn false st') Kx
def wOr (w u : WT) : WT := fun env st Kn Kx => w env st (fun b st' => match b with
  | true => Kn true st'
  | false => u env st' Kn Kx) Kx
abbrev PDW (X : Cx) (W : WX) (e : Expr) (w : WT) : Prop := PW X e (lfT W w)
variable {wt wu : WT} {rest : List Expr}
theorem pdt_not (h : PDT X W e wt) : PDT X W (.UnaryOp .Not e pos) (wNot wt) :=
  PT.imp (pt_not h) fun σ H Q ⟨env, st, Kn, Kx, hold, er, hw, hn, hx⟩ => ⟨env, st, _, Kx, hold, er, hw, fun d st' H' k t => hn _ _ _ k t, hx⟩
theorem pdw_and1 (h : PDT X W e wt) : PDW X W (.BoolOp .And [e] pos) wt := pw_and1 h
theorem pdw_or1 (h : PDT X W e wt) : PDW X W (.BoolOp .Or [e] pos) wt := pw_or1 h
theorem pdw_and (h : PDT X W a wt) (hb : PDW X W (.BoolOp .And (b :: rest) pos) wu) : PDW X W (.BoolOp .And (a :: b :: rest) pos) (wAnd wt wu) :=
  PW.imp (pw_and h hb) fun σ H Q ⟨env, st, Kn, Kx, hold, er, hw, hn, hx⟩ => ⟨env, st, _, Kx, hold, er, hw, fun d st' H' k t => by
    cases d with
    | true => rw [if_pos rfl]; exact ⟨env, st', Kn, Kx, t.hold, er.le t, k, fun d st2 H2 k2 t2 => hn _ _ _ k2 (t.trans t2), fun x st2 cls dd H2 k2 t2 xr => hx _ _ _ _ _ k2 (t.trans t2) xr⟩
    | false => rw [if_neg Bool.false_ne_true]; exact hn _ _ _ k t, hx⟩
theorem pdw_or (h : PDT X W a wt) (hb : PDW X W (.BoolOp .Or (b :: rest) pos) wu) : PDW X W (.BoolOp .Or (a :: b :: rest) pos) (wOr wt wu) :=
  PW.imp (pw_or h hb) fun σ H Q ⟨env, st, Kn, Kx, hold, er, hw, hn, hx⟩ => ⟨env, st, _, Kx, hold, er, hw, fun d st' H' k t => by
    cases d with
    | false => rw [if_neg Bool.false_ne_true]; exact ⟨env, st', Kn, Kx, t.hold, er.le t, k, fun d st2 H2 k2 t2 => hn _ _ _ k2 (t.trans t2), fun x st2 cls dd H2 k2 t2 xr => hx _ _ _ _ _ k2 (t.trans t2) xr⟩
    | true => rw [if_pos rfl]; exact hn _ _ _ k t, hx⟩
theorem pdt_w (h : PDW X W e wt) : PDT X W e wt := PW.pt h
/-! bools as values -/
def wAndV (w u : WE) : WE := fun env st Kn Kx => w env st (fun d st' => match d with
  | .bl true => u env st' Kn Kx
  | .bl false => Kn (.bl false) st'
  | _ => False) Kx
def wOrV (w u : WE) : WE := fun env st Kn Kx => w env st (fun d st' => match d with
  | .bl false => u env st' Kn Kx
  | .bl true => Kn (.bl true) st'
  | _ => False) Kx
def wNotV (w : WE) : WE := fun env st Kn Kx => w env st (fun d st' => match d with
  | .bl b => Kn (.bl (!b)) st'
  | _ => False) Kx
theorem pd_one {op} (h : PD X W a wa) : PD X W (.BoolOp op [a] pos) wa := pe_one h
theorem lfE_go {env : DEnv} {st st' : Sto} {Kn : KD} {Kx : KX} {σ : L2.St} {H H' : Hp} {Q : VK} {w : WE} (er : EnvR H env σ) (t : To H st H' st') (k : w env st' Kn Kx)
    (hn : ∀ d st' v H', Kn d st' → To H st H' st' → Dn H' d v → Q v H') (hx : ∀ x st' cls dd H', Kx x st' → To H st H' st' → XRel H' x cls dd → W cls dd σ H') : lfE W w σ H' Q :=
  ⟨env, st', Kn, Kx, t.hold, er.le t, k, fun d st2 v H2 k2 t2 dn => hn _ _ _ _ k2 (t.trans t2) dn, fun x st2 cls dd H2 k2 t2 xr => hx _ _ _ _ _ k2 (t.trans t2) xr⟩
theorem pd_and (h : PD X W a wa) (hb : PD X W (.BoolOp .And (b :: rest) pos) wb) : PD X W (.BoolOp .And (a :: b :: rest) pos) (wAndV wa wb) :=
  PE.imp (pe_and h hb) fun σ H Q ⟨env, st, Kn, Kx, hold, er, hw, hn, hx⟩ => ⟨env, st, _, Kx, hold, er, hw, fun d st' v H' k t dn => by
    split at k
    · exact ⟨true, dn_bl dn, by rw [if_pos rfl]; exact lfE_go er t k hn hx⟩
    · exact ⟨false, dn_bl dn, by rw [if_neg Bool.false_ne_true]; exact hn _ _ _ _ k t mk_bl⟩
    · exact k.elim, hx⟩
theorem pd_or (h : PD X W a wa) (hb : PD X W (.BoolOp .Or (b :: rest) pos) wb) : PD X W (.BoolOp .Or (a :: b :: rest) pos) (wOrV wa wb) :=
  PE.imp (pe_or h hb) fun σ H Q ⟨env, st, Kn, Kx, hold, er, hw, hn, hx⟩ => ⟨env, st, _, Kx, hold, er, hw, fun d st' v H' k t dn => by
    split at k
    · exact ⟨false, dn_bl dn, by rw [if_neg Bool.false_ne_true]; exact lfE_go er t k hn hx⟩
    · exact ⟨true, dn_bl dn, by rw [if_pos rfl]; exact hn _ _ _ _ k t mk_bl⟩
    · exact k.elim, hx⟩
theorem pd_not (h : PD X W a wa) : PD X W (.UnaryOp .Not a pos) (wNotV wa) :=
  PE.imp (pe_not h) fun σ H Q ⟨env, st, Kn, Kx, hold, er, hw, hn, hx⟩ => ⟨env, st, _, Kx, hold, er, hw, fun d st' v H' k t dn => by
    split at k
    · exact ⟨_, dn_bl dn, hn _ _ _ _ k t mk_bl⟩
    · exact k.elim, hx⟩
def wIfE (c : WT) (w u : WE) : WE := fun env st Kn Kx => c env st (fun b st' => match b with
  | true => w env st' Kn Kx
  | false => u env st' Kn Kx) Kx
theorem pd_if (hc : PDT X W c wt) (ha : PD X W a wa) (hb : PD X W b wb) : PD X W (.IfExp c a b pos) (wIfE wt wa wb) :=
  PE.imp (pe_ifExp hc ha hb) fun σ H Q ⟨env, st, Kn, Kx, hold, er, hw, hn, hx⟩ => ⟨env, st, _, Kx, hold, er, hw, fun d st' H' k t => by
    cases d with
    | true => rw [if_pos rfl]; exact lfE_go er t k hn hx
    | false => rw [if_neg Bool.false_ne_true]; exact lfE_go er t k hn hx, hx⟩

/-! ### argument lists, displays -/
def wNil : WA := fun _ st Kn _ => Kn [] st
def wCons (w : WE) (u : WA) : WA := fun env st Kn Kx => w env st (fun d st1 => u env st1 (fun ds st2 => Kn (d :: ds) st2) Kx) Kx
variable {ws : WA}
theorem pda_nil : PDA X W [] wNil := PA.imp pa_nil fun σ H Q ⟨env, st, Kn, Kx, hold, er, hw, hn, hx⟩ => hn [] st [] H hw (To.refl hold) .nil
theorem pda_cons (h : PD X W e we) (r : PDA X W es ws) (hs : starEach (e :: es) X.env = (false, eval e X.env) :: starEach es X.env := by rfl) : PDA X W (e :: es) (wCons we ws) :=
  PA.imp (pa_cons h r hs) fun σ H Q ⟨env, st, Kn, Kx, hold, er, hw, hn, hx⟩ => ⟨env, st, _, Kx, hold, er, hw, fun d st1 v H1 k1 t1 d1 =>
    ⟨env, st1, _, Kx, t1.hold, er.le t1, k1, fun ds st2 vs H2 k2 t2 d2 => hn _ _ _ _ k2 (t1.trans t2) (.cons (t2.dn d1) d2), fun x st2 cls dd H2 k2 t2 xr => hx _ _ _ _ _ k2 (t1.trans t2) xr⟩, hx⟩
def wTup (ws : WA) : WE := fun env st Kn Kx => ws env st (fun ds st' => ds.length ≤ sizeLine ∧ Kn (.tup ds) st') Kx
def wLst (ws : WA) : WE := fun env st Kn Kx => ws env st (fun ds st' => ds.length ≤ sizeLine ∧ Kn (.lst ds) st') Kx
/-- a list that will be changed -/
def wLstC (ws : WA) : WE := fun env st Kn Kx => ws env st (fun ds st' => ds.length ≤ sizeLine ∧ ∀ p, ¬ st'.on p → Kn (.ref p) ((p, .lst ds) :: st')) Kx
theorem Hold.ntup {H : Hp} {st : Sto} (h : Hold H st) {p : Addr} (hp : H p = none) {ds : List D} {xs : List V} (r : Dns H ds xs) : Dn (upd H p (.tup xs)) (.tup ds) (.ref p) :=
  mk_tup upd_same (Dns.ext (ext_laid hp) _ _ r)
theorem upd_lay {H : Hp} {p : Addr} {u w : HO} : upd (upd H p u) p w = upd H p w := upd_upd
/-- a list is made that changes no more -/
theorem Hold.nlst {H : Hp} {st : Sto} (h : Hold H st) {p : Addr} (hp : H p = none) {ds : List D} {xs : List V} (r : Dns H ds xs) {Q : VK} (k : ∀ H' v, To H st H' st → Dn H' (.lst ds) v → Q v H') : FO Q (.ref p) (upd H p (.lst xs)) :=
  .inr ⟨p, _, rfl, upd_same, trivial, fun o => by rw [upd_upd]; exact k _ _ (h.laid hp) (mk_lst upd_same (Dns.ext (ext_laid hp) _ _ r))⟩
theorem Hold.clst {H : Hp} {st : Sto} (h : Hold H st) {p : Addr} (hp : H p = none) {ds : List D} {xs : List V} (r : Dns H ds xs) : To H st (upd H p (.lst xs)) ((p, .lst ds) :: st) :=
  h.cell hp ⟨xs, upd_same, Dns.ext (ext_laid hp) _ _ r⟩
theorem pd_tup {x1} (h : PDA X W es ws) : PD X W (.Tuple es x1 pos) (wTup ws) :=
  PE.imp (pe_tup h) fun σ H Q ⟨env, st, Kn, Kx, hold, er, hw, hn, hx⟩ => ⟨env, st, _, Kx, hold, er, hw, fun ds st' vs H' k t dn =>
    ⟨by rw [dn.length]; exact k.1, fun p hp => hn _ _ _ _ k.2 (t.trans (t.hold.laid hp)) (t.hold.ntup hp dn)⟩, hx⟩
theorem pd_lst (h : PDA X W es ws) : PD X W (.List es pos) (wLst ws) :=
  PE.imp (PE.fo (pe_lst h)) fun σ H Q ⟨env, st, Kn, Kx, hold, er, hw, hn, hx⟩ => ⟨env, st, _, Kx, hold, er, hw, fun ds st' vs H' k t dn =>
    ⟨by rw [dn.length]; exact k.1, fun p hp => t.hold.nlst hp dn fun H2 v t2 d2 => hn _ _ _ _ k.2 (t.trans t2) d2⟩, hx⟩
theorem pd_lstC (h : PDA X W es ws) : PD X W (.List es pos) (wLstC ws) :=
  PE.imp (pe_lst h) fun σ H Q ⟨env, st, Kn, Kx, hold, er, hw, hn, hx⟩ => ⟨env, st, _, Kx, hold, er, hw, fun ds st' vs H' k t dn =>
    ⟨by rw [dn.length]; exact k.1, fun p hp => hn _ _ _ _ (k.2 p (t.hold.fresh hp)) (t.trans (t.hold.clst hp dn)) mk_ref⟩, hx⟩

/-! ### built-ins called by values -/
def CallL (r : List V → Hp → VK → Prop) (g : List D → Sto → KD → Prop) : Prop :=
  ∀ (ds : List D) (vs : List V) (H : Hp) (st : Sto) (Kn : KD) (Q : VK), g ds st Kn → Hold H st → Dns H ds vs →
    (∀ d st' v H', Kn d st' → To H st H' st' → Dn H' d v → Q v H') → r vs H (FO Q)
def wCB (g : List D → Sto → KD → Prop) (ws : WA) : WE := fun env st Kn Kx => ws env st (fun ds st' => g ds st' Kn) Kx
theorem lf_cb {r : List V → Hp → VK → Prop} {g : List D → Sto → KD → Prop} (hl : CallL r g) : ∀ σ H Q, lfE W (wCB g ws) σ H Q → tCB r (lfA W ws) σ H (FO Q) :=
  fun σ H Q ⟨env, st, Kn, Kx, hold, er, hw, hn, hx⟩ => ⟨env, st, _, Kx, hold, er, hw, fun ds st' vs H' k t dn => hl ds vs H' st' Kn Q k t.hold dn fun d st2 v H2 k2 t2 d2 => hn _ _ _ _ k2 (t.trans t2) d2, hx⟩
variable {x : Str} {p : Pos} {id T : String} {r : List V → Hp → VK → Prop} {g : List D → Sto → KD → Prop}
theorem pd_callB (hc : CallR X (.builtin id) r) (hl : CallL r g) (hg : Gl X x) (hm : X.mg x = none) (hv : bootBuiltins x = some (.builtin id)) (ha : PDA X W (e :: es) ws) (hn : x ≠ "__name__" := by decide) (hdb : (x == ("__debug__" : Str)) = false := by decide)
    (he : starEach (e :: es) X.env = (false, eval e X.env) :: starEach es X.env := by rfl) (hpl : (backTo pos (starEach es X.env)).any (·.1) = false := by rfl) : PD X W (.Call (.Name x p) (e :: es) [] pos) (wCB g ws) :=
  PE.imp (PE.fo <| pe_callB hc hg hm hv ha hn hdb he hpl) (lf_cb hl)
theorem pd_callT (hc : CallR X (.type T) r) (hl : CallL r g) (hg : Gl X x) (hm : X.mg x = none) (hv : bootBuiltins x = some (.type T)) (ha : PDA X W (e :: es) ws) (hn : x ≠ "__name__" := by decide) (hdb : (x == ("__debug__" : Str)) = false := by decide)
    (he : starEach (e :: es) X.env = (false, eval e X.env) :: starEach es X.env := by rfl) (hpl : (backTo pos (starEach es X.env)).any (·.1) = false := by rfl) : PD X W (.Call (.Name x p) (e :: es) [] pos) (wCB g ws) :=
  PE.imp (PE.fo <| pe_callTy hc hg hm hv ha hn hdb he hpl) (lf_cb hl)

/-! ### statements -/
theorem lfS_go {env : DEnv} {st st' : Sto} {DD : DEnds} {Ed : Ends} {σ : L2.St} {H H' : Hp} {w : WS} (er : EnvR H' env σ) (t : To H st H' st') (k : w DD env st')
    (h1 : ∀ env' st' σ' H', DD.nx env' st' → To H st H' st' → EnvR H' env' σ' → Ed.nx σ' H')
    (h2 : ∀ d st' v H', DD.rt d st' → To H st H' st' → Dn H' d v → Ed.rt v H')
    (h3 : ∀ env' st' σ' H', DD.bk env' st' → To H st H' st' → EnvR H' env' σ' → Ed.bk σ' H')
    (h4 : ∀ env' st' σ' H', DD.ct env' st' → To H st H' st' → EnvR H' env' σ' → Ed.ct σ' H')
    (h5 : ∀ x env' st' cls dd σ' H', DD.ex x env' st' → To H st H' st' → EnvR H' env' σ' → XRel H' x cls dd → W cls dd σ' H') : lfS W w Ed σ H' :=
  ⟨env, st', DD, t.hold, er, k, fun _ _ _ _ k' t' e' => h1 _ _ _ _ k' (t.trans t') e', fun _ _ _ _ k' t' e' => h2 _ _ _ _ k' (t.trans t') e', fun _ _ _ _ k' t' e' => h3 _ _ _ _ k' (t.trans t') e', fun _ _ _ _ k' t' e' => h4 _ _ _ _ k' (t.trans t') e',
    fun _ _ _ _ _ _ _ k' t' e' x' => h5 _ _ _ _ _ _ _ k' (t.trans t') e' x'⟩
def wNext : WS := fun D env st => D.nx env st
def wSeq (w u : WS) : WS := fun D env st => w { D with nx := u D } env st
def wDrop (w : WE) : WS := fun D env st => w env st (fun _ st' => D.nx env st') (fun x st' => D.ex x env st')
def wRet (w : WE) : WS := fun D env st => w env st D.rt (fun x st' => D.ex x env st')
def wRetN : WS := fun D _ st => D.rt .non st
def wIf (c : WT) (w u : WS) : WS := fun D env st => c env st (fun b st' => match b with
  | true => w D env st'
  | false => u D env st') (fun x st' => D.ex x env st')
variable {s : Stmt} {sts ss : List Stmt} {w u : WS}
theorem pds_nil : PDSs X W [] wNext := PSs.imp pss_nil fun D σ H ⟨env, st, DD, hold, er, hw, h1, _⟩ => h1 _ _ _ _ hw (To.refl hold) er
theorem pds_cons (h : PDS X W s w) (t : PDSs X W sts u) : PDSs X W (s :: sts) (wSeq w u) :=
  PSs.imp (pss_cons h t) fun D σ H ⟨env, st, DD, hold, er, hw, h1, h2, h3, h4, h5⟩ => ⟨env, st, _, hold, er, hw, fun env' st' σ' H' k t e => lfS_go e t k h1 h2 h3 h4 h5, h2, h3, h4, h5⟩
theorem pds_one (h : PDS X W s w) : PDSs X W [s] w := pss_one h
theorem pds_pass : PDS X W (.Pass pos) wNext := PS.imp ps_pass fun D σ H ⟨env, st, DD, hold, er, hw, h1, _⟩ => h1 _ _ _ _ hw (To.refl hold) er
theorem pds_doc {x j pos pos'} : PDS X W (.Expr (.Constant (.str x) j pos) pos') wNext := PS.imp ps_doc fun D σ H ⟨env, st, DD, hold, er, hw, h1, _⟩ => h1 _ _ _ _ hw (To.refl hold) er
theorem lfE_s {env : DEnv} {st : Sto} {DD : DEnds} {σ : L2.St} {H : Hp}
    (er : EnvR H env σ) (h5 : ∀ x env' st' cls dd σ' H', DD.ex x env' st' → To H st H' st' → EnvR H' env' σ' → XRel H' x cls dd → W cls dd σ' H') :
    ∀ x st' cls dd H', DD.ex x env st' → To H st H' st' → XRel H' x cls dd → W cls dd σ H' := fun x st' cls dd H' k t xr => h5 _ _ _ _ _ _ _ k t (er.le t) xr
theorem pds_expr (h : PD X W e we) (hs : swapsWith e none pos.line X.env = pure false := by rfl) : PDS X W (.Expr e pos) (wDrop we) :=
  PS.imp (ps_expr h hs) fun D σ H ⟨env, st, DD, hold, er, hw, h1, h2, h3, h4, h5⟩ => ⟨env, st, _, _, hold, er, hw, fun d st' v H' k t dn => h1 _ _ _ _ k t (er.le t), lfE_s er h5⟩
theorem pds_ret (h : PD X W e we) : PDS X W (.Return (some e) pos) (wRet we) :=
  PS.imp (ps_ret h) fun D σ H ⟨env, st, DD, hold, er, hw, h1, h2, h3, h4, h5⟩ => ⟨env, st, _, _, hold, er, hw, fun d st' v H' k t dn => h2 _ _ _ _ k t dn, lfE_s er h5⟩
theorem pds_retN : PDS X W (.Return none pos) wRetN := PS.imp ps_retN fun D σ H ⟨env, st, DD, hold, er, hw, h1, h2, _⟩ => h2 _ _ _ _ hw (To.refl hold) mk_non
theorem pds_if (hc : PDT X W c wt) (ha : PDSs X W sts w) (hb : PDSs X W ss u) : PDS X W (.If c sts ss pos) (wIf wt w u) :=
  PS.imp (ps_if hc ha hb) fun D σ H ⟨env, st, DD, hold, er, hw, h1, h2, h3, h4, h5⟩ => ⟨env, st, _, _, hold, er, hw, fun d st' H' k t => by
    cases d with
    | true => rw [if_pos rfl]; exact lfS_go (er.le t) t k h1 h2 h3 h4 h5
    | false => rw [if_neg Bool.false_ne_true]; exact lfS_go (er.le t) t k h1 h2 h3 h4 h5, lfE_s er h5⟩

/-! ### targets -/
abbrev WG := D → DEnv → Sto → (DEnv → Sto → Prop) → (XD → DEnv → Sto → Prop) → Prop
abbrev WGs := List D → DEnv → Sto → (DEnv → Sto → Prop) → (XD → DEnv → Sto → Prop) → Prop
def lfG (W : WX) (g : WG) : TG := fun v σ H Q => ∃ (d : D) (env : DEnv) (st : Sto) (Kn : DEnv → Sto → Prop) (Kx : XD → DEnv → Sto → Prop), Hold H st ∧ EnvR H env σ ∧ Dn H d v ∧ g d env st Kn Kx ∧
  (∀ env' st' σ' H', Kn env' st' → To H st H' st' → EnvR H' env' σ' → Q σ' H') ∧ (∀ x env' st' cls dd σ' H', Kx x env' st' → To H st H' st' → EnvR H' env' σ' → XRel H' x cls dd → W cls dd σ' H')
def lfGs (W : WX) (g : WGs) : TGs := fun v σ H Q => ∃ (d : List D) (env : DEnv) (st : Sto) (Kn : DEnv → Sto → Prop) (Kx : XD → DEnv → Sto → Prop), Hold H st ∧ EnvR H env σ ∧ Dns H d v ∧ g d env st Kn Kx ∧
  (∀ env' st' σ' H', Kn env' st' → To H st H' st' → EnvR H' env' σ' → Q σ' H') ∧ (∀ x env' st' cls dd σ' H', Kx x env' st' → To H st H' st' → EnvR H' env' σ' → XRel H' x cls dd → W cls dd σ' H')
abbrev PDG (X : Cx) (W : WX) (e : Expr) (g : WG) : Prop := PG X e (lfG W g)
abbrev PDGs (X : Cx) (W : WX) (e : List Expr) (g : WGs) : Prop := PGs X e (lfGs W g)
theorem PG.imp {t t' : TG} (h : PG X e t) (i : ∀ v σ H Q, t' v σ H Q → t v σ H Q) : PG X e t' := by
  cases h with
  | mk h => exact ⟨by intros; first | (apply h <;> first | assumption | (apply i; assumption)) | skip⟩
theorem PGs.imp {t t' : TGs} (h : PGs X es t) (i : ∀ v σ H Q, t' v σ H Q → t v σ H Q) : PGs X es t' := by
  cases h with
  | mk h => exact ⟨by intros; first | (apply h <;> first | assumption | (apply i; assumption)) | skip⟩
def dgN (i : Nat) : WG := fun d env st Kn _ => Kn (env.set i (some d)) st
theorem pdg_name {i : Nat} {x : Str} (hN : X.N.Nodup) (hi : X.N[i]? = some x) (hx : Loc X.env.scope x) (hf : X.fn x = true ∨ X.env.scope.names.lookup x = some .local := by first | exact .inl rfl | exact .inr rfl | assumption) : PDG X W (.Name x pos) (dgN i) :=
  PG.imp (pg_name hN hi hx hf) fun v σ H Q ⟨d, env, st, Kn, Kx, hold, er, dn, hw, h1, _⟩ => h1 _ _ _ _ hw (To.refl hold) (er.set i dn)
def dgNil : WGs := fun ds env st Kn _ => match ds with
  | [] => Kn env st
  | _ => False
def dgCons (g : WG) (gs : WGs) : WGs := fun ds env st Kn Kx => match ds with
  | d :: r => g d env st (fun env' st' => gs r env' st' Kn Kx) Kx
  | _ => False
theorem pdgs_nil : PDGs X W [] dgNil := PGs.imp pgs_nil fun v σ H Q ⟨d, env, st, Kn, Kx, hold, er, dn, hw, h1, _⟩ => by
  cases d with
  | nil => exact ⟨dn.nil_inv, h1 _ _ _ _ hw (To.refl hold) er⟩
  | cons _ _ => exact (show False from hw).elim
theorem pdgs_cons {g : WG} {gs : WGs} (h : PDG X W e g) (t : PDGs X W es gs) (hs : (assignEach (e :: es) X.env).map (·.2) = assign e X.env :: (assignEach es X.env).map (·.2) := by rfl) : PDGs X W (e :: es) (dgCons g gs) := PGs.imp (pgs_cons h t hs) fun v σ H Q ⟨d, env, st, Kn, Kx, hold, er, dn, hw, h1, h2⟩ => by
  cases d with
  | nil => exact (show False from hw).elim
  | cons d ds =>
    obtain ⟨v0, r, rfl, d1, d2⟩ := dn.inv
    exact ⟨v0, r, rfl, d, env, st, _, Kx, hold, er, d1, hw, fun env' st' σ' H' k t e => ⟨ds, env', st', Kn, Kx, t.hold, e, t.dns d2, k, fun _ _ _ _ k2 t2 e2 => h1 _ _ _ _ k2 (t.trans t2) e2, fun _ _ _ _ _ _ _ k2 t2 e2 x2 => h2 _ _ _ _ _ _ _ k2 (t.trans t2) e2 x2⟩, h2⟩
def dgT (n : Nat) (gs : WGs) : WG := fun d env st Kn Kx => match d with
  | .tup ds => ds.length = n ∧ gs ds env st Kn Kx
  | _ => False
theorem pdg_tup {k : Nat} {gs : WGs} {n : Nat} (hc : X.calm = true) (h : PDGs X W es gs) (hn : (assignEach es X.env).length = n := by rfl) (hst : (assignEach es X.env).findIdx? (·.1) = none := by rfl) : PDG X W (.Tuple es k pos) (dgT n gs) :=
  PG.imp (pg_tup hc h hn hst) fun v σ H Q ⟨d, env, st, Kn, Kx, hold, er, dn, hw, h1, h2⟩ => by
    cases d with
    | tup ds =>
      obtain ⟨a, xs, rfl, ha, r⟩ := dn_tup dn
      exact ⟨a, xs, rfl, SqT.of ha, r.length.trans hw.1, ds, env, st, Kn, Kx, hold, er, r, hw.2, h1, h2⟩
    | _ => exact (show False from hw).elim
/-- o[i] = v by values -/
def SetL (r : V → V → V → Hp → (Hp → Prop) → Prop) (g : D → D → D → Sto → (Sto → Prop) → Prop) : Prop :=
  ∀ (dO dI dV : D) (o i v : V) (H : Hp) (st : Sto) (Kn : Sto → Prop) (Q : Hp → Prop), g dO dI dV st Kn → Hold H st → Dn H dO o → Dn H dI i → Dn H dV v →
    (∀ st' H', Kn st' → To H st H' st' → Q H') → r o i v H Q
def dgSub (wo wi : WE) (g : D → D → D → Sto → (Sto → Prop) → Prop) : WG := fun d env st Kn Kx => wo env st (fun o st1 => wi env st1 (fun i st2 => g o i d st2 fun st3 => Kn env st3) fun x st2 => Kx x env st2) fun x st1 => Kx x env st1
theorem pdg_sub {o i : Expr} {wo wi : WE} {r : V → V → V → Hp → (Hp → Prop) → Prop} {g : D → D → D → Sto → (Sto → Prop) → Prop} (hs : PSet X r) (hl : SetL r g) (ho : PD X W o wo) (hi : PD X W i wi)
    (ha : ∀ v, assign (.Subscript o i pos) X.env v = (do
      let ov ← holding [v] (eval o X.env)
      let iv ← holding [v, ov] (eval i X.env)
      standAt pos
      holding [v, ov, iv] (setItem ov iv v)
      release [v, ov, iv] []) := by intro _; rfl) : PDG X W (.Subscript o i pos) (dgSub wo wi g) :=
  PG.imp (pg_sub ho hi hs ha) fun v σ H Q ⟨d, env, st, Kn, Kx, hold, er, dn, hw, h1, h2⟩ =>
    ⟨env, st, _, _, hold, er, hw, fun o st1 ov H1 k1 t1 d1 => ⟨env, st1, _, _, t1.hold, er.le t1, k1, fun i st2 iv H2 k2 t2 d2 =>
      hl o i d ov iv v H2 st2 _ _ k2 t2.hold (t2.dn d1) d2 (t2.dn (t1.dn dn)) fun st3 H3 k3 t3 => h1 _ _ _ _ k3 (t1.trans (t2.trans t3)) (er.le (t1.trans (t2.trans t3))),
      fun x st2 cls dd H2 k2 t2 xr => h2 _ _ _ _ _ _ _ k2 (t1.trans t2) (er.le (t1.trans t2)) xr⟩, fun x st1 cls dd H1 k1 t1 xr => h2 _ _ _ _ _ _ _ k1 t1 (er.le t1) xr⟩
/-! assignments -/
def wAsg (w : WE) (g : WG) : WS := fun D env st => w env st (fun d st' => g d env st' D.nx D.ex) (fun x st' => D.ex x env st')
theorem pds_asg {tg : Expr} {g : WG} (he : PD X W e we) (hg : PDG X W tg g) (hs : swapsWithSole [tg] e pos.line X.env = pure false := by rfl) (hw : swappedStores [tg] e X.env = pure none := by rfl)
    (h1 : (assignEach [tg] X.env).map (·.2) = [assign tg X.env] := by rfl) : PDS X W (.Assign [tg] e pos) (wAsg we g) :=
  PS.imp (ps_asg he hg hs hw h1) fun D σ H ⟨env, st, DD, hold, er, hw, h1, h2, h3, h4, h5⟩ => ⟨env, st, _, _, hold, er, hw, fun d st' v H' k t dn =>
    ⟨d, env, st', _, _, t.hold, er.le t, dn, k, fun _ _ _ _ k2 t2 e2 => h1 _ _ _ _ k2 (t.trans t2) e2, fun _ _ _ _ _ _ _ k2 t2 e2 x2 => h5 _ _ _ _ _ _ _ k2 (t.trans t2) e2 x2⟩, lfE_s er h5⟩
theorem pds_set {i : Nat} {x : Str} {pos' : Pos} (hN : X.N.Nodup) (hi : X.N[i]? = some x) (hx : Loc X.env.scope x) (he : PD X W e we) (hs : swapsWith e (some (.Name x pos')) pos.line X.env = pure false := by rfl)
    (hf : X.fn x = true ∨ X.env.scope.names.lookup x = some .local := by first | exact .inl rfl | exact .inr rfl | assumption) : PDS X W (.Assign [.Name x pos'] e pos) (wAsg we (dgN i)) :=
  PS.imp (ps_set hN hi hx he hs hf) fun D σ H ⟨env, st, DD, hold, er, hw, h1, h2, h3, h4, h5⟩ => ⟨env, st, _, _, hold, er, hw, fun d st' v H' k t dn =>
    h1 _ _ _ _ k t ((er.le t).set i dn), lfE_s er h5⟩
def wPar (i j : Nat) (ws : WA) : WS := fun D env st => ws env st (fun ds st' => match ds with
  | [a, b] => D.nx ((env.set i (some a)).set j (some b)) st'
  | _ => False) (fun x st' => D.ex x env st')
theorem wpar_imp {i j : Nat} {ws : WA} {Ed : Ends} {σ : L2.St} {H : Hp} (h : lfS W (wPar i j ws) Ed σ H) : tPar i j (lfA W ws) Ed σ H := by
  obtain ⟨env, st, DD, hold, er, hw, h1, h2, h3, h4, h5⟩ := h
  refine ⟨env, st, _, _, hold, er, hw, fun ds st' vs H' k t dn => ?_, lfE_s er h5⟩
  split at k
  · obtain ⟨v, r, rfl, d1, dn⟩ := dn.inv
    obtain ⟨u, r, rfl, d2, dn⟩ := dn.inv
    cases dn.nil_inv
    exact ⟨v, u, rfl, h1 _ _ _ _ k t (((er.le t).set i d1).set j d2)⟩
  · exact k.elim
/-- a list that was changed changes no more -/
def wFrz (i : Nat) (w : WS) : WS := fun D env st => match env[i]? with
  | some (some (.ref a)) => match st.lookup a with
    | some (.lst ds) => w D (env.set i (some (.lst ds))) (st.less a)
    | _ => False
  | _ => False
theorem PSs.frozen {t : TS} (i : Nat) (h : PSs X ss t) : PSs X ss (fun D σ H => ∃ (a : Addr) (xs : List V), σ[i]? = some (some (.ref a)) ∧ H a = some (.lst xs) ∧ ∀ o, t D σ (upd H a (.frz o (.lst xs)))) := ⟨fun pins s σ H D I ⟨a, xs, _, e, q⟩ => by
  obtain ⟨o, J⟩ := Inv.frozen I e trivial
  exact h.run pins s σ _ D J (q o)⟩
theorem pdss_frz (i : Nat) (h : PDSs X W ss w) : PDSs X W ss (wFrz i w) :=
  PSs.imp (PSs.frozen i h) fun D σ H ⟨env, st, DD, hold, er, hw, h1, h2, h3, h4, h5⟩ => by
    unfold wFrz at hw
    split at hw
    · rename_i a e
      obtain ⟨v, ev, dv⟩ := er.2 _ _ e
      split at hw
      · rename_i ds l
        obtain ⟨xs, hx, r⟩ := hold.at l
        rw [dn_ref dv] at ev
        refine ⟨a, xs, ev, hx, fun o => ?_⟩
        have t := hold.freeze (o := .frz o (.lst xs)) (on_of l)
        have q := (er.le t).set i (mk_lst (o := o) (a := a) upd_same (t.dns r))
        have es : σ.set i (some (V.ref a)) = σ := by
          apply List.ext_getElem?
          intro j
          by_cases hj : j = i
          · subst hj
            rw [ev]
            exact List.getElem?_set_self (List.getElem?_eq_some_iff.mp ev).1
          · rw [List.getElem?_set_ne (Ne.symm hj)]
        rw [es] at q
        exact lfS_go q t hw h1 h2 h3 h4 h5
      · exact hw.elim
    · exact hw.elim
end
end DL

namespace DL
open PySem PySem.Spec PyProof.Rows L2
section
variable [Tb] {X : Cx} {W : WX} {e a b c tg iter elt : Expr} {es ifs : List Expr} {pos p : Pos} {wa wb wc we wi : WE} {ws : WA} {sts : List Stmt} {w : WS} {g : WG}
/-! ### for -/
def forL (g : WG) (b : WS) (DD : DEnds) : List D → DEnv → Sto → Prop
  | [], env, st => DD.nx env st
  | d :: ds, env, st => g d env st (fun env1 st1 => b { DD with nx := fun e s => forL g b DD ds e s, ct := fun e s => forL g b DD ds e s, bk := DD.nx } env1 st1) DD.ex
def rngD (lo : Int) (n : Nat) : List D := (List.range n).map fun (k : Nat) => D.int (lo + (k : Int))
theorem for_turn {DD : DEnds} {d : D} {ds : List D} {env : DEnv} {st st0 : Sto} {σ : L2.St} {H H0 : Hp} {x : V} {P : L2.St → Hp → Prop} {Ed : Ends} (t : To H0 st0 H st) (er : EnvR H env σ) (hw : forL g w DD (d :: ds) env st) (dn : Dn H d x)
    (hP : ∀ env' st' σ' H', forL g w DD ds env' st' → To H0 st0 H' st' → EnvR H' env' σ' → P σ' H')
    (h1 : ∀ env' st' σ' H', DD.nx env' st' → To H0 st0 H' st' → EnvR H' env' σ' → Ed.nx σ' H')
    (h2 : ∀ d st' v H', DD.rt d st' → To H0 st0 H' st' → Dn H' d v → Ed.rt v H')
    (h5 : ∀ x env' st' cls dd σ' H', DD.ex x env' st' → To H0 st0 H' st' → EnvR H' env' σ' → XRel H' x cls dd → W cls dd σ' H') :
    lfG W g x σ H fun σ2 H2 => lfS W w { Ed with nx := P, ct := P, bk := Ed.nx } σ2 H2 := by
  refine ⟨d, env, st, _, _, t.hold, er, dn, hw, fun env' st' σ' H' k t' e' => ?_, fun x env' st' cls dd σ' H' k t' e' xr => h5 _ _ _ _ _ _ _ k (t.trans t') e' xr⟩
  exact lfS_go (H := H0) (st := st0) e' (t.trans t') k (fun _ _ _ _ k2 t2 e2 => hP _ _ _ _ k2 t2 e2) h2 h1 (fun _ _ _ _ k2 t2 e2 => hP _ _ _ _ k2 t2 e2) h5
theorem drop_at {α : Type} {l : List α} {i : Nat} (h : i < l.length) : l.drop i = l[i] :: l.drop (i + 1) := List.drop_eq_getElem_cons h
def wForT (wi : WE) (g : WG) (b : WS) : WS := fun D env st => wi env st (fun d st' => match d with
  | .tup ds => forL g b D ds env st'
  | _ => False) fun x st' => D.ex x env st'
/-- what a loop over a tuple asks, from the tuple on -/
theorem lf_forT {K : PySem.W.Frag} {ds : List D} {xs : List V} {env : DEnv} {st st1 : Sto} {DD : DEnds} {Ed : Ends} {σ : L2.St} {H H1 : Hp} {p : Addr} (t : To H st H1 st1) (er : EnvR H1 env σ) (hx : H1 p = some (.tup xs)) (r : Dns H1 ds xs) (k : forL g w DD ds env st1)
    (h1 : ∀ env' st' σ' H', DD.nx env' st' → To H st H' st' → EnvR H' env' σ' → Ed.nx σ' H')
    (h2 : ∀ d st' v H', DD.rt d st' → To H st H' st' → Dn H' d v → Ed.rt v H')
    (h5 : ∀ x env' st' cls dd σ' H', DD.ex x env' st' → To H st H' st' → EnvR H' env' σ' → XRel H' x cls dd → W cls dd σ' H') :
    ∃ Wt : Nat → Nat → L2.St → Hp → Prop, (∃ m, Wt 0 m σ H1) ∧ ∀ i m σ H, Wt i m σ H →
      ((Itt K p).stop i H ∧ Ed.nx σ H) ∨ ((Itt K p).go i H ∧ ∃ N : L2.St → Hp → Prop, (∀ σ' H', N σ' H' → ∃ m', m' < m ∧ Wt (i + 1) m' σ' H') ∧ ∀ x H', (Itt K p).yld i H x H' → lfG W g x σ H' fun σ2 H2 => lfS W w { Ed with nx := N, ct := N, bk := Ed.nx } σ2 H2) := by
  have hl := r.length
  refine for_tup (K := K) (a := p) (xs := xs) (fun i σ' H' => ∃ env' st', To H1 st1 H' st' ∧ EnvR H' env' σ' ∧ forL g w DD (ds.drop i) env' st') ⟨env, st1, To.refl t.hold, er, k⟩
      (fun i σ' H' _ ⟨env', st', t', _⟩ => SqT.of (t'.le.ext p _ hx im_tup)) ?_ ?_
  · intro i x σ' H' hx' ⟨env', st', t', e', k'⟩
    have hi : i < ds.length := by rw [← hl]; exact (List.getElem?_eq_some_iff.mp hx').1
    rw [drop_at hi] at k'
    obtain ⟨u, hu, du⟩ := (t'.dns r).get (List.getElem?_eq_getElem hi)
    rw [hx'] at hu; cases hu
    exact for_turn t' e' k' du (fun env2 st2 σ2 H2 k2 t2 e2 => ⟨env2, st2, t2, e2, k2⟩) (fun _ _ _ _ k t' e => h1 _ _ _ _ k (t.trans t') e) (fun _ _ _ _ k t' e => h2 _ _ _ _ k (t.trans t') e) (fun _ _ _ _ _ _ _ k t' e x => h5 _ _ _ _ _ _ _ k (t.trans t') e x)
  · intro σ' H' ⟨env', st', t', e', k'⟩
    rw [hl, List.drop_length] at k'
    exact h1 _ _ _ _ k' (t.trans t') e'
theorem lf_forLs {K : PySem.W.Frag} {ds : List D} {xs : List V} {env : DEnv} {st st1 : Sto} {DD : DEnds} {Ed : Ends} {σ : L2.St} {H H1 : Hp} {p : Addr} (t : To H st H1 st1) (er : EnvR H1 env σ) {o : Obj} (hx : H1 p = some (.frz o (.lst xs))) (r : Dns H1 ds xs) (k : forL g w DD ds env st1)
    (h1 : ∀ env' st' σ' H', DD.nx env' st' → To H st H' st' → EnvR H' env' σ' → Ed.nx σ' H')
    (h2 : ∀ d st' v H', DD.rt d st' → To H st H' st' → Dn H' d v → Ed.rt v H')
    (h5 : ∀ x env' st' cls dd σ' H', DD.ex x env' st' → To H st H' st' → EnvR H' env' σ' → XRel H' x cls dd → W cls dd σ' H') :
    ∃ Wt : Nat → Nat → L2.St → Hp → Prop, (∃ m, Wt 0 m σ H1) ∧ ∀ i m σ H, Wt i m σ H →
      ((Itl K p).stop i H ∧ Ed.nx σ H) ∨ ((Itl K p).go i H ∧ ∃ N : L2.St → Hp → Prop, (∀ σ' H', N σ' H' → ∃ m', m' < m ∧ Wt (i + 1) m' σ' H') ∧ ∀ x H', (Itl K p).yld i H x H' → lfG W g x σ H' fun σ2 H2 => lfS W w { Ed with nx := N, ct := N, bk := Ed.nx } σ2 H2) := by
  have hl := r.length
  refine for_list (K := K) (a := p) (xs := xs) (fun i σ' H' => ∃ env' st', To H1 st1 H' st' ∧ EnvR H' env' σ' ∧ forL g w DD (ds.drop i) env' st') ⟨env, st1, To.refl t.hold, er, k⟩
      (fun i σ' H' _ ⟨env', st', t', _⟩ => SqL.frz (t'.le.ext p _ hx im_frz)) ?_ ?_
  · intro i x σ' H' hx' ⟨env', st', t', e', k'⟩
    have hi : i < ds.length := by rw [← hl]; exact (List.getElem?_eq_some_iff.mp hx').1
    rw [drop_at hi] at k'
    obtain ⟨u, hu, du⟩ := (t'.dns r).get (List.getElem?_eq_getElem hi)
    rw [hx'] at hu; cases hu
    exact for_turn t' e' k' du (fun env2 st2 σ2 H2 k2 t2 e2 => ⟨env2, st2, t2, e2, k2⟩) (fun _ _ _ _ k t' e => h1 _ _ _ _ k (t.trans t') e) (fun _ _ _ _ k t' e => h2 _ _ _ _ k (t.trans t') e) (fun _ _ _ _ _ _ _ k t' e x => h5 _ _ _ _ _ _ _ k (t.trans t') e x)
  · intro σ' H' ⟨env', st', t', e', k'⟩
    rw [hl, List.drop_length] at k'
    exact h1 _ _ _ _ k' (t.trans t') e'
theorem rngD_length (lo : Int) (n : Nat) : (rngD lo n).length = n := by unfold rngD; rw [List.length_map, List.length_range]
theorem rngD_at {lo : Int} {n i : Nat} (h : i < (rngD lo n).length) : (rngD lo n)[i] = .int (lo + i) := by simp [rngD]
theorem lf_forR {lo : Int} {n : Nat} {env : DEnv} {st st1 : Sto} {DD : DEnds} {Ed : Ends} {σ : L2.St} {H H1 : Hp} (t : To H st H1 st1) (er : EnvR H1 env σ) (k : forL g w DD (rngD lo n) env st1)
    (h1 : ∀ env' st' σ' H', DD.nx env' st' → To H st H' st' → EnvR H' env' σ' → Ed.nx σ' H')
    (h2 : ∀ d st' v H', DD.rt d st' → To H st H' st' → Dn H' d v → Ed.rt v H')
    (h5 : ∀ x env' st' cls dd σ' H', DD.ex x env' st' → To H st H' st' → EnvR H' env' σ' → XRel H' x cls dd → W cls dd σ' H') :
    ∃ Wt : Nat → Nat → L2.St → Hp → Prop, (∃ m, Wt 0 m σ H1) ∧ ∀ i m σ H, Wt i m σ H →
      ((Itr lo n).stop i H ∧ Ed.nx σ H) ∨ ((Itr lo n).go i H ∧ ∃ N : L2.St → Hp → Prop, (∀ σ' H', N σ' H' → ∃ m', m' < m ∧ Wt (i + 1) m' σ' H') ∧ ∀ x H', (Itr lo n).yld i H x H' → lfG W g x σ H' fun σ2 H2 => lfS W w { Ed with nx := N, ct := N, bk := Ed.nx } σ2 H2) := by
  refine for_range (lo := lo) (n := n) (fun i σ' H' => ∃ env' st', To H1 st1 H' st' ∧ EnvR H' env' σ' ∧ forL g w DD ((rngD lo n).drop i) env' st') ⟨env, st1, To.refl t.hold, er, k⟩ ?_ ?_
  · intro i σ' H' hi ⟨env', st', t', e', k'⟩
    have hi' : i < (rngD lo n).length := by rw [rngD_length]; exact hi
    rw [drop_at hi', rngD_at] at k'
    exact for_turn t' e' k' mk_int (fun env2 st2 σ2 H2 k2 t2 e2 => ⟨env2, st2, t2, e2, k2⟩) (fun _ _ _ _ k t' e => h1 _ _ _ _ k (t.trans t') e) (fun _ _ _ _ k t' e => h2 _ _ _ _ k (t.trans t') e) (fun _ _ _ _ _ _ _ k t' e x => h5 _ _ _ _ _ _ _ k (t.trans t') e x)
  · intro σ' H' ⟨env', st', t', e', k'⟩
    rw [List.drop_eq_nil_of_le (by rw [rngD_length]; exact Nat.le_refl _)] at k'
    exact h1 _ _ _ _ k' (t.trans t') e'
theorem pds_forT (hp : PassesOwn (model X.prog X.w) X.A X.env X.xe) (hc : X.calm = true) (hi : PD X W iter wi) (hg : PDG X W tg g) (hb : PDSs X W sts w) (hfs : ∀ x, foldedSetIterable iter X.env x = pure x := by intro _; rfl) : PDS X W (.For tg iter sts [] pos) (wForT wi g w) := by
  refine PS.imp (ps_for hp hc (pi_tup hi) hg hb hfs) fun Ed σ H ⟨env, st, DD, hold, er, hw, h1, h2, h3, h4, h5⟩ => ⟨env, st, _, _, hold, er, hw, fun d st1 v H1 k t dn => ?_, lfE_s er h5⟩
  split at k
  · obtain ⟨p, xs, rfl, hx, r⟩ := dn_tup dn
    exact ⟨p, rfl, ⟨xs, SqT.of hx⟩, lf_forT t (er.le t) hx r k h1 h2 h5⟩
  · exact k.elim
/-- over a list, or the script -/
def wForL (wi : WE) (g : WG) (b : WS) : WS := fun D env st => wi env st (fun d st' => match d with
  | .lst ds => forL g b D ds env st'
  | _ => False) fun x st' => D.ex x env st'
theorem pds_forL (hp : PassesOwn (model X.prog X.w) X.A X.env X.xe) (hc : X.calm = true) (hi : PD X W iter wi) (hg : PDG X W tg g) (hb : PDSs X W sts w) (hfs : ∀ x, foldedSetIterable iter X.env x = pure x := by intro _; rfl) : PDS X W (.For tg iter sts [] pos) (wForL wi g w) := by
  refine PS.imp (ps_for hp hc (pi_list hi) hg hb hfs) fun Ed σ H ⟨env, st, DD, hold, er, hw, h1, h2, h3, h4, h5⟩ => ⟨env, st, _, _, hold, er, hw, fun d st1 v H1 k t dn => ?_, lfE_s er h5⟩
  split at k
  · obtain ⟨p, o, xs, rfl, hx, r⟩ := dn_lst dn
    exact ⟨p, rfl, ⟨xs, SqL.frz hx⟩, lf_forLs t (er.le t) hx r k h1 h2 h5⟩
  · exact k.elim
def wForR1 (wi : WA) (g : WG) (b : WS) : WS := fun D env st => wi env st (fun ds st' => match ds with
  | [.int j] => (-(2 ^ 62) ≤ j ∧ j < 2 ^ 62) ∧ forL g b D (rngD 0 j.toNat) env st'
  | _ => False) fun x st' => D.ex x env st'
theorem pds_forR1 (hp : PassesOwn (model X.prog X.w) X.A X.env X.xe) (hc : X.calm = true) (hgr : Gl X "range") (hm : X.mg "range" = none) (ha : PDA X W [a] ws) (hg : PDG X W tg g) (hb : PDSs X W sts w) (hs : starEach [a] X.env = [(false, eval a X.env)] := by rfl)
    {cp : Pos} (hfs : ∀ x, foldedSetIterable (.Call (.Name "range" p) [a] [] cp) X.env x = pure x := by intro _; rfl) : PDS X W (.For tg (.Call (.Name "range" p) [a] [] cp) sts [] pos) (wForR1 ws g w) := by
  refine PS.imp (ps_for hp hc (pi_range1 hgr hm ha hs) hg hb hfs) fun Ed σ H ⟨env, st, DD, hold, er, hw, h1, h2, h3, h4, h5⟩ => ⟨env, st, _, _, hold, er, hw, fun d st1 v H1 k t dn => ?_, lfE_s er h5⟩
  split at k
  · obtain ⟨v, r, rfl, d1, dn⟩ := dn.inv
    cases dn.nil_inv
    rw [dn_int d1]
    exact ⟨_, rfl, k.1.1, k.1.2, lf_forR t (er.le t) k.2 h1 h2 h5⟩
  · exact k.elim
def wForR2 (wi : WA) (g : WG) (b : WS) : WS := fun D env st => wi env st (fun ds st' => match ds with
  | [.int i, .int j] => (-(2 ^ 62) ≤ i ∧ i < 2 ^ 62 ∧ -(2 ^ 62) ≤ j ∧ j < 2 ^ 62) ∧ forL g b D (rngD i (j - i).toNat) env st'
  | _ => False) fun x st' => D.ex x env st'
theorem pds_forR2 (hp : PassesOwn (model X.prog X.w) X.A X.env X.xe) (hc : X.calm = true) (hgr : Gl X "range") (hm : X.mg "range" = none) (ha : PDA X W [a, b] ws) (hg : PDG X W tg g) (hb : PDSs X W sts w) (hs : starEach [a, b] X.env = [(false, eval a X.env), (false, eval b X.env)] := by rfl)
    (hs2 : starEach [b] X.env = [(false, eval b X.env)] := by rfl) {cp : Pos} (hfs : ∀ x, foldedSetIterable (.Call (.Name "range" p) [a, b] [] cp) X.env x = pure x := by intro _; rfl) : PDS X W (.For tg (.Call (.Name "range" p) [a, b] [] cp) sts [] pos) (wForR2 ws g w) := by
  refine PS.imp (ps_for hp hc (pi_range2 hgr hm ha hs hs2) hg hb hfs) fun Ed σ H ⟨env, st, DD, hold, er, hw, h1, h2, h3, h4, h5⟩ => ⟨env, st, _, _, hold, er, hw, fun d st1 v H1 k t dn => ?_, lfE_s er h5⟩
  split at k
  · obtain ⟨v, r, rfl, d1, dn⟩ := dn.inv
    obtain ⟨v, r, rfl, d2, dn⟩ := dn.inv
    cases dn.nil_inv
    rw [dn_int d1, dn_int d2]
    exact ⟨_, _, rfl, k.1, lf_forR t (er.le t) k.2 h1 h2 h5⟩
  · exact k.elim
end
end DL

namespace DL
open PySem PySem.Spec PyProof.Rows L2
/-! ### a list that is being made -/
section
variable [Tb] {H H' : Hp} {st : Sto} {p : Addr}
theorem Hold.gwrite (h : Hold H st) {us vs : List V} (hp : H p = some (.lst us)) (n : ¬ st.on p) : Hold (upd H p (.lst vs)) st :=
  ⟨h.nd, fun q hq => (h.ok q hq).ext (ext_write hp trivial) fun u e => by
    rw [upd_ne fun z => n (by rw [← z]; exact List.mem_map.mpr ⟨q, hq, rfl⟩)]; exact e, fun q hq => tab_write hp trivial (h.tb q hq)⟩
theorem Hold.nch (h : Hold H st) {us : List V} (hp : H p = some (.lst us)) (n : ¬ st.on p) : ¬ st.ch p := fun z => z.elim n fun z => by
  obtain ⟨ps, e⟩ := h.tabAt z
  rw [hp] at e; cases e
end
/-! ### slots forgotten -/
theorem wipe_at (σ : L2.St) : ∀ (vs : List Nat) (j : Nat), (wipe σ vs)[j]? = if j ∈ vs then (if j < σ.length then some none else none) else σ[j]?
  | [], j => by simp [wipe]
  | v :: vs, j => by
    unfold wipe
    by_cases h : j = v
    · subst h
      by_cases hl : j < σ.length
      · rw [List.getElem?_set_self (by rw [wipe_length]; exact hl)]; simp [hl]
      · rw [List.getElem?_eq_none (by rw [List.length_set, wipe_length]; omega)]; simp [hl]
    · rw [List.getElem?_set_ne (Ne.symm h), wipe_at σ vs j]
      simp [h]
theorem wipe_wipe (σ : L2.St) (vs : List Nat) : wipe (wipe σ vs) vs = wipe σ vs := by
  apply List.ext_getElem?
  intro j
  rw [wipe_at, wipe_at]
  by_cases h : j ∈ vs
  · simp [h, wipe_length]
  · simp [h]
theorem wipe_set (σ : L2.St) (vs : List Nat) {i : Nat} (hi : i ∈ vs) (o : Option V) : wipe (σ.set i o) vs = wipe σ vs := by
  apply List.ext_getElem?
  intro j
  rw [wipe_at, wipe_at, List.length_set]
  by_cases h : j ∈ vs
  · simp [h]
  · simp only [h, if_false]
    rw [List.getElem?_set_ne (fun z => h (by rw [← z]; exact hi))]
def wipeD (env : DEnv) : List Nat → DEnv
  | [] => env
  | v :: vs => (wipeD env vs).set v none
theorem EnvR.wipe {H : Hp} {env : DEnv} {σ : L2.St} (h : EnvR H env σ) : ∀ vs : List Nat, EnvR H (wipeD env vs) (L2.wipe σ vs)
  | [] => h
  | v :: vs => (EnvR.wipe h vs).unset v none
/-! ### comprehensions -/
abbrev W0 : WX := fun _ _ _ _ => False
abbrev Tgt := D → DEnv → Option DEnv
/-- a target of a comprehension: one name, or names for the items of a tuple -/
structure TgtOk (K : PySem.W.Frag) (vs : List Nat) (g : TG) (tg : Tgt) : Prop where
  go : ∀ (H : Hp) (d : D) (v : V) (env env1 : DEnv) (σ : L2.St) (Q : L2.St → Hp → Prop), EnvR H env σ → Dn H d v → tg d env = some env1 →
    (∀ σ1, EnvR H env1 σ1 → L2.wipe σ1 vs = L2.wipe σ vs → Q σ1 H) → g v σ H Q
def tg1 (i : Nat) : Tgt := fun d env => some (env.set i (some d))
theorem tgt1 {K : PySem.W.Frag} {vs : List Nat} {i : Nat} (hi : i ∈ vs) : TgtOk K vs (gName i) (tg1 i) := ⟨fun H d v env env1 σ Q er dn e q => by
  cases e
  exact q _ (er.set i dn) (wipe_set σ vs hi _)⟩
def tg2 (i j : Nat) : Tgt := fun d env => match d with
  | .tup [x, y] => some ((env.set i (some x)).set j (some y))
  | _ => none
theorem tgt2 {K : PySem.W.Frag} {vs : List Nat} {i j : Nat} (hi : i ∈ vs) (hj : j ∈ vs) : TgtOk K vs (gTup K 2 (gCons (gName i) (gCons (gName j) gNil))) (tg2 i j) := ⟨fun H d v env env1 σ Q er dn e q => by
  unfold tg2 at e
  split at e
  · cases e
    obtain ⟨a, xs, rfl, ha, r⟩ := dn_tup dn
    obtain ⟨v1, r1, rfl, d1, r⟩ := r.inv
    obtain ⟨v2, r2, rfl, d2, r⟩ := r.inv
    cases r.nil_inv
    exact ⟨a, _, rfl, SqT.of ha, rfl, v1, _, rfl, v2, _, rfl, rfl, q _ ((er.set i d1).set j d2) (by rw [wipe_set _ _ hj, wipe_set _ _ hi])⟩
  · cases e⟩
def lcL (tg : Tgt) (t : WT) (el : WE) (env : DEnv) (Kn : List D → Sto → Prop) : List D → List D → Sto → Prop
  | [], acc, st => Kn acc st
  | d :: ds, acc, st => match tg d env with
    | none => False
    | some env1 => t env1 st (fun b st1 => match b with
      | true => el env1 st1 (fun x st2 => acc.length < sizeLine ∧ lcL tg t el env Kn ds (acc ++ [x]) st2) (fun _ _ => False)
      | false => lcL tg t el env Kn ds acc st1) (fun _ _ => False)
def wYes : WT := fun _ st Kn _ => Kn true st
section
variable [Tb] {tg : Tgt} {t : WT} {el : WE} {g : TG} {tt : TT} {vs : List Nat} {K : PySem.W.Frag}
/-- the state ahead of a turn -/
structure LcSt (tg : Tgt) (t : WT) (el : WE) (env : DEnv) (Kn : List D → Sto → Prop) (σ : L2.St) (vs : List Nat) (p : Addr) (H1 : Hp) (st1 : Sto) (H' : Hp) (ds : List D) : Prop where
  ex : ∃ (st' : Sto) (acc : List D) (us : List V), Hold H' st' ∧ Le st1 st' H1 H' ∧ EnvR H' env (L2.wipe σ vs) ∧ H' p = some (.lst us) ∧ ¬ st'.on p ∧ Dns H' acc us ∧ lcL tg t el env Kn ds acc st'
theorem lc_turn1 {env env1 : DEnv} {Kn : List D → Sto → Prop} {σ σ1 : L2.St} {p : Addr} {H1 H : Hp} {st1 st : Sto} {ds acc : List D} {us : List V} {N : Hp → Prop} (hp : H1 p = none) (ht : ∀ σ H Q, lfT W0 t σ H Q → tt σ H Q)
    (hold : Hold H st) (le : Le st1 st H1 H) (er : EnvR H env (L2.wipe σ vs)) (hp' : H p = some (.lst us)) (np : ¬ st.on p) (dn : Dns H acc us) (er1 : EnvR H env1 σ1)
    (k : t env1 st (fun b st1 => match b with
      | true => el env1 st1 (fun x st2 => acc.length < sizeLine ∧ lcL tg t el env Kn ds (acc ++ [x]) st2) (fun _ _ => False)
      | false => lcL tg t el env Kn ds acc st1) (fun _ _ => False)) (hN : ∀ H', LcSt tg t el env Kn σ vs p H1 st1 H' ds → N H') :
    tt σ1 H fun b H3 => if b = true then lfE W0 el σ1 H3 fun y H4 => ∃ acc, H4 p = some (.lst acc) ∧ acc.length < sizeLine ∧ N (upd H4 p (.lst (acc ++ [y]))) else N H3 := by
  refine ht _ _ _ ⟨env1, st, _, _, hold, er1, k, fun b st2 H3 k2 t2 => ?_, fun _ _ _ _ _ k _ _ => k⟩
  have keep : ∀ {st2 H3}, To H st H3 st2 → H3 p = some (.lst us) ∧ ¬ st2.on p := fun t2 => t2.le.keep p _ hp' (hold.nch hp' np)
  cases b with
  | true =>
    dsimp only
    rw [if_pos rfl]
    refine ⟨env1, st2, _, _, t2.hold, er1.le t2, k2, fun y st3 v H4 k3 t3 dy => ?_, fun _ _ _ _ _ k _ _ => k⟩
    have t4 := t2.trans t3
    obtain ⟨p4, n4⟩ := keep t4
    have x4 : Ext H4 (upd H4 p (.lst (us ++ [v]))) := ext_write p4 trivial
    refine ⟨us, p4, by rw [dn.length]; exact k3.1, hN _ ⟨st3, _, _, t3.hold.gwrite p4 n4, ⟨fun b u hb n => ?_, (le.ext.trans t4.le.ext).trans x4⟩, (er.le t4).ext x4, upd_same, n4, Dns.ext x4 _ _ ((t4.dns dn).append (.cons dy .nil)), k3.2⟩⟩
    have z := (le.trans t4.le).keep b u hb n
    exact ⟨by rw [upd_ne (ne_of_none hb hp)]; exact z.1, z.2⟩
  | false =>
    dsimp only
    rw [if_neg Bool.false_ne_true]
    obtain ⟨p3, n3⟩ := keep t2
    exact hN _ ⟨st2, acc, us, t2.hold, le.trans t2.le, er.le t2, p3, n3, t2.dns dn, k2⟩
theorem lc_turn {env : DEnv} {Kn : List D → Sto → Prop} {σ : L2.St} {p : Addr} {H1 H : Hp} {st1 : Sto} {d : D} {ds : List D} {x : V} {N : Hp → Prop} (hp : H1 p = none) (ho : TgtOk K vs g tg) (ht : ∀ σ H Q, lfT W0 t σ H Q → tt σ H Q)
    (s : LcSt tg t el env Kn σ vs p H1 st1 H (d :: ds)) (hd : ∀ st', Hold H st' → Le st1 st' H1 H → Dn H d x) (hN : ∀ H', LcSt tg t el env Kn σ vs p H1 st1 H' ds → N H') :
    g x (L2.wipe σ vs) H fun σ2 H2 => L2.wipe σ2 vs = L2.wipe σ vs ∧ tt σ2 H2 fun b H3 =>
      if b = true then lfE W0 el σ2 H3 fun y H4 => ∃ acc, H4 p = some (.lst acc) ∧ acc.length < sizeLine ∧ N (upd H4 p (.lst (acc ++ [y]))) else N H3 := by
  obtain ⟨st, acc, us, hold, le, er, hp', np, dn, k⟩ := s.ex
  unfold lcL at k
  split at k
  · exact k.elim
  · rename_i env1 e1
    exact ho.go _ d x env env1 _ _ er (hd st hold le) e1 fun σ1 er1 ew => ⟨by rw [ew, wipe_wipe], lc_turn1 hp ht hold le er hp' np dn er1 k hN⟩
theorem lc_start {env : DEnv} {Kn : List D → Sto → Prop} {σ : L2.St} {p : Addr} {H1 : Hp} {st1 : Sto} {ds : List D} (hold : Hold H1 st1) (er : EnvR H1 env σ) (hp : H1 p = none) (k : lcL tg t el (wipeD env vs) Kn ds [] st1) :
    LcSt tg t el (wipeD env vs) Kn σ vs p H1 st1 (upd H1 p (.lst [])) ds :=
  ⟨st1, [], [], (hold.laid hp).hold, (hold.laid hp).le, (er.wipe vs).ext (ext_laid hp), upd_same, hold.fresh hp, .nil, k⟩
theorem lc_end {env : DEnv} {Kn : List D → Sto → Prop} {σ : L2.St} {p : Addr} {H1 H' : Hp} {st1 : Sto} (hp : H1 p = none) (s : LcSt tg t el env Kn σ vs p H1 st1 H' []) {Q : VK} (hn : ∀ acc st' v H', Kn acc st' → To H1 st1 H' st' → Dn H' (.lst acc) v → Q v H') : FO Q (.ref p) H' := by
  obtain ⟨st, acc, us, h', le, er, hp', np, dn, k⟩ := s.ex
  refine .inr ⟨p, _, rfl, hp', trivial, fun o => ?_⟩
  have x : Ext H' (upd H' p (.frz o (.lst us))) := ext_write hp' trivial
  have q : Hold (upd H' p (.frz o (.lst us))) st := ⟨h'.nd, fun q hq => (h'.ok q hq).ext x fun u e => by
    rw [upd_ne fun z => np (by rw [← z]; exact List.mem_map.mpr ⟨q, hq, rfl⟩)]; exact e, fun q hq => tab_write hp' trivial (h'.tb q hq)⟩
  exact hn _ _ _ _ k ⟨q, ⟨fun b u hb n => by
    have z := le.keep b u hb n
    exact ⟨by rw [upd_ne (ne_of_none hb hp)]; exact z.1, z.2⟩, le.ext.trans x⟩⟩ (mk_lst upd_same (Dns.ext x _ _ dn))
end
section
variable [Tb] {X : Cx} {W : WX} {e a b tgE iter elt : Expr} {es ifs : List Expr} {pos p : Pos} {wi : WE} {ws : WA} {tg : Tgt} {t : WT} {el : WE} {g : TG} {tt : TT} {scope : Scope} {own : List (Str × Nat)}
/-- what a comprehension asks of its block -/
structure LcOk (X : Cx) (tgE elt : Expr) (ifs : List Expr) (scope : Scope) (own : List (Str × Nat)) (tg : Tgt) (t : WT) (el : WE) : Prop where
  ok : ∃ (g : TG) (tt : TT), BlkOk X.N X.env.scope scope own ∧ TgtOk X.K (own.map (·.2)) g tg ∧ (∀ σ H Q, lfT W0 t σ H Q → tt σ H Q) ∧
    (∀ (s : Shared) (H : Hp) (C : Addr) (cl : List (Str × Addr)) (fp : List Addr), PG (X.blk s H scope (compEnvC scope cl C X.env) fp) tgE g) ∧
    (∀ (s : Shared) (H : Hp) (C : Addr) (cl : List (Str × Addr)) (fp : List Addr), PTs (X.blk s H scope (compEnvC scope cl C X.env) fp) ifs tt) ∧
    (∀ (s : Shared) (H : Hp) (C : Addr) (cl : List (Str × Addr)) (fp : List Addr), PE (X.blk s H scope (compEnvC scope cl C X.env) fp) elt (lfE W0 el))
theorem lcOk0 (ok : BlkOk X.N X.env.scope scope own) (ho : TgtOk X.K (own.map (·.2)) g tg) (hg : ∀ (s : Shared) (H : Hp) (C : Addr) (cl : List (Str × Addr)) (fp : List Addr), PG (X.blk s H scope (compEnvC scope cl C X.env) fp) tgE g)
    (he : ∀ (s : Shared) (H : Hp) (C : Addr) (cl : List (Str × Addr)) (fp : List Addr), PD (X.blk s H scope (compEnvC scope cl C X.env) fp) W0 elt el) : LcOk X tgE elt [] scope own tg wYes el :=
  ⟨g, tYes, ok, ho, fun σ H Q ⟨env, st, Kn, Kx, hold, er, hw, hn, _⟩ => hn _ _ _ hw (To.refl hold), hg, fun _ _ _ _ _ => pts_nil, he⟩
theorem lcOk1 (ok : BlkOk X.N X.env.scope scope own) (ho : TgtOk X.K (own.map (·.2)) g tg) (hg : ∀ (s : Shared) (H : Hp) (C : Addr) (cl : List (Str × Addr)) (fp : List Addr), PG (X.blk s H scope (compEnvC scope cl C X.env) fp) tgE g)
    (ht : ∀ (s : Shared) (H : Hp) (C : Addr) (cl : List (Str × Addr)) (fp : List Addr), PDT (X.blk s H scope (compEnvC scope cl C X.env) fp) W0 e t)
    (he : ∀ (s : Shared) (H : Hp) (C : Addr) (cl : List (Str × Addr)) (fp : List Addr), PD (X.blk s H scope (compEnvC scope cl C X.env) fp) W0 elt el) : LcOk X tgE elt [e] scope own tg t el :=
  ⟨g, lfT W0 t, ok, ho, fun _ _ _ h => h, hg, fun _ _ _ _ _ => pts_one (ht _ _ _ _ _), he⟩
def lcGo (ds : List D) (tg : Tgt) (t : WT) (el : WE) (vs : List Nat) (env : DEnv) (st : Sto) (Kn : KD) : Prop := lcL tg t el (wipeD env vs) (fun acc st' => Kn (.lst acc) st') ds [] st
variable [Tb] {env : DEnv} {st1 : Sto} {Kn : KD} {σ : L2.St} {H1 : Hp} {Q : VK} {vs : List Nat} {K : PySem.W.Frag} {ds : List D}
theorem lf_lcT {q : Addr} {xs : List V} (ho : TgtOk K vs g tg) (ht : ∀ σ H Q, lfT W0 t σ H Q → tt σ H Q) (hold : Hold H1 st1) (er : EnvR H1 env σ) (hx : H1 q = some (.tup xs)) (r : Dns H1 ds xs) (k : lcGo ds tg t el vs env st1 Kn)
    (hn : ∀ d st' v H', Kn d st' → To H1 st1 H' st' → Dn H' d v → Q v H') (Dd : Addr) (hD : H1 Dd = none) :
    ∃ Wt : Nat → Nat → Hp → Prop, (∃ m, Wt 0 m (upd H1 Dd (.lst []))) ∧ ∀ i m H, Wt i m H →
      ((Itt K q).stop i H ∧ FO Q (.ref Dd) H) ∨ ((Itt K q).go i H ∧ ∃ Nx : Hp → Prop, (∀ H', Nx H' → ∃ m', m' < m ∧ Wt (i + 1) m' H') ∧ ∀ x H', (Itt K q).yld i H x H' → g x (L2.wipe σ vs) H' fun σ2 H2 => L2.wipe σ2 vs = L2.wipe σ vs ∧ tt σ2 H2 fun b H3 =>
        if b = true then lfE W0 el σ2 H3 fun y H4 => ∃ acc, H4 Dd = some (.lst acc) ∧ acc.length < sizeLine ∧ Nx (upd H4 Dd (.lst (acc ++ [y]))) else Nx H3) := by
  have hl := r.length
  refine lc_tup (K := K) (a := q) (xs := xs) (fun i H' => LcSt tg t el (wipeD env vs) (fun acc st' => Kn (.lst acc) st') σ vs Dd H1 st1 H' (ds.drop i)) (lc_start hold er hD k) (fun i H' _ s => ?_) (fun i x H' hx' s => ?_) fun H' s => ?_
  · obtain ⟨st, acc, us, h', le, _⟩ := s.ex
    exact SqT.of (le.ext q _ hx im_tup)
  · have hi : i < ds.length := by rw [← hl]; exact (List.getElem?_eq_some_iff.mp hx').1
    rw [drop_at hi] at s
    refine lc_turn hD ho ht s (fun st' h' le => ?_) fun _ z => z
    obtain ⟨u, hu, du⟩ := r.get (List.getElem?_eq_getElem hi)
    rw [hx'] at hu; cases hu
    exact Dn.le le _ _ du
  · rw [hl, List.drop_length] at s
    exact lc_end hD s fun acc st' v H' k' t' dn => hn _ _ _ _ k' t' dn
theorem lf_lcL {q : Addr} {o : Obj} {xs : List V} (ho : TgtOk K vs g tg) (ht : ∀ σ H Q, lfT W0 t σ H Q → tt σ H Q) (hold : Hold H1 st1) (er : EnvR H1 env σ) (hx : H1 q = some (.frz o (.lst xs))) (r : Dns H1 ds xs) (k : lcGo ds tg t el vs env st1 Kn)
    (hn : ∀ d st' v H', Kn d st' → To H1 st1 H' st' → Dn H' d v → Q v H') (Dd : Addr) (hD : H1 Dd = none) :
    ∃ Wt : Nat → Nat → Hp → Prop, (∃ m, Wt 0 m (upd H1 Dd (.lst []))) ∧ ∀ i m H, Wt i m H →
      ((Itl K q).stop i H ∧ FO Q (.ref Dd) H) ∨ ((Itl K q).go i H ∧ ∃ Nx : Hp → Prop, (∀ H', Nx H' → ∃ m', m' < m ∧ Wt (i + 1) m' H') ∧ ∀ x H', (Itl K q).yld i H x H' → g x (L2.wipe σ vs) H' fun σ2 H2 => L2.wipe σ2 vs = L2.wipe σ vs ∧ tt σ2 H2 fun b H3 =>
        if b = true then lfE W0 el σ2 H3 fun y H4 => ∃ acc, H4 Dd = some (.lst acc) ∧ acc.length < sizeLine ∧ Nx (upd H4 Dd (.lst (acc ++ [y]))) else Nx H3) := by
  have hl := r.length
  refine lc_list (K := K) (a := q) (xs := xs) (fun i H' => LcSt tg t el (wipeD env vs) (fun acc st' => Kn (.lst acc) st') σ vs Dd H1 st1 H' (ds.drop i)) (lc_start hold er hD k) (fun i H' _ s => ?_) (fun i x H' hx' s => ?_) fun H' s => ?_
  · obtain ⟨st, acc, us, h', le, _⟩ := s.ex
    exact SqL.frz (le.ext q _ hx im_frz)
  · have hi : i < ds.length := by rw [← hl]; exact (List.getElem?_eq_some_iff.mp hx').1
    rw [drop_at hi] at s
    refine lc_turn hD ho ht s (fun st' h' le => ?_) fun _ z => z
    obtain ⟨u, hu, du⟩ := r.get (List.getElem?_eq_getElem hi)
    rw [hx'] at hu; cases hu
    exact Dn.le le _ _ du
  · rw [hl, List.drop_length] at s
    exact lc_end hD s fun acc st' v H' k' t' dn => hn _ _ _ _ k' t' dn
theorem lf_lcR {lo : Int} {n : Nat} (ho : TgtOk K vs g tg) (ht : ∀ σ H Q, lfT W0 t σ H Q → tt σ H Q) (hold : Hold H1 st1) (er : EnvR H1 env σ) (k : lcGo (rngD lo n) tg t el vs env st1 Kn)
    (hn : ∀ d st' v H', Kn d st' → To H1 st1 H' st' → Dn H' d v → Q v H') (Dd : Addr) (hD : H1 Dd = none) :
    ∃ Wt : Nat → Nat → Hp → Prop, (∃ m, Wt 0 m (upd H1 Dd (.lst []))) ∧ ∀ i m H, Wt i m H →
      ((Itr lo n).stop i H ∧ FO Q (.ref Dd) H) ∨ ((Itr lo n).go i H ∧ ∃ Nx : Hp → Prop, (∀ H', Nx H' → ∃ m', m' < m ∧ Wt (i + 1) m' H') ∧ ∀ x H', (Itr lo n).yld i H x H' → g x (L2.wipe σ vs) H' fun σ2 H2 => L2.wipe σ2 vs = L2.wipe σ vs ∧ tt σ2 H2 fun b H3 =>
        if b = true then lfE W0 el σ2 H3 fun y H4 => ∃ acc, H4 Dd = some (.lst acc) ∧ acc.length < sizeLine ∧ Nx (upd H4 Dd (.lst (acc ++ [y]))) else Nx H3) := by
  refine lc_range (lo := lo) (n := n) (fun i H' => LcSt tg t el (wipeD env vs) (fun acc st' => Kn (.lst acc) st') σ vs Dd H1 st1 H' ((rngD lo n).drop i)) (lc_start hold er hD k) (fun i H' hi s => ?_) fun H' s => ?_
  · have hi' : i < (rngD lo n).length := by rw [rngD_length]; exact hi
    rw [drop_at hi', rngD_at] at s
    exact lc_turn hD ho ht s (fun st' h' le => mk_int) fun _ z => z
  · rw [List.drop_eq_nil_of_le (by rw [rngD_length]; exact Nat.le_refl _)] at s
    exact lc_end hD s fun acc st' v H' k' t' dn => hn _ _ _ _ k' t' dn
/-- the readings: over a tuple or a list; over a range -/
def wLc (wi : WE) (tg : Tgt) (t : WT) (el : WE) (vs : List Nat) : WE := fun env st Kn Kx => wi env st (fun d st' => match d with
  | .tup ds => lcGo ds tg t el vs env st' Kn
  | _ => False) Kx
def wLcL (wi : WE) (tg : Tgt) (t : WT) (el : WE) (vs : List Nat) : WE := fun env st Kn Kx => wi env st (fun d st' => match d with
  | .lst ds => lcGo ds tg t el vs env st' Kn
  | _ => False) Kx
def wLcR1 (wi : WA) (tg : Tgt) (t : WT) (el : WE) (vs : List Nat) : WE := fun env st Kn Kx => wi env st (fun ds st' => match ds with
  | [.int j] => (-(2 ^ 62) ≤ j ∧ j < 2 ^ 62) ∧ lcGo (rngD 0 j.toNat) tg t el vs env st' Kn
  | _ => False) Kx
def wLcR2 (wi : WA) (tg : Tgt) (t : WT) (el : WE) (vs : List Nat) : WE := fun env st Kn Kx => wi env st (fun ds st' => match ds with
  | [.int i, .int j] => (-(2 ^ 62) ≤ i ∧ i < 2 ^ 62 ∧ -(2 ^ 62) ≤ j ∧ j < 2 ^ 62) ∧ lcGo (rngD i (j - i).toNat) tg t el vs env st' Kn
  | _ => False) Kx
theorem lfw_lcT (ho : TgtOk K vs g tg) (ht : ∀ σ H Q, lfT W0 t σ H Q → tt σ H Q) : ∀ σ H Q, lfE W (wLc wi tg t el vs) σ H Q → tLc (iTup K (lfE W wi)) g tt (lfE W0 el) vs σ H (FO Q) :=
  fun σ H Q ⟨env, st, Kn, Kx, hold, er, hw, hn, hx⟩ => ⟨env, st, _, Kx, hold, er, hw, fun d st1 v H1 k t1 dn => by
    split at k
    · obtain ⟨q, xs, rfl, hq, r⟩ := dn_tup dn
      exact ⟨q, rfl, ⟨xs, SqT.of hq⟩, lf_lcT ho ht t1.hold (er.le t1) hq r k fun _ _ _ _ k2 t2 d2 => hn _ _ _ _ k2 (t1.trans t2) d2⟩
    · exact k.elim, hx⟩
theorem lfw_lcL (ho : TgtOk K vs g tg) (ht : ∀ σ H Q, lfT W0 t σ H Q → tt σ H Q) : ∀ σ H Q, lfE W (wLcL wi tg t el vs) σ H Q → tLc (iList K (lfE W wi)) g tt (lfE W0 el) vs σ H (FO Q) :=
  fun σ H Q ⟨env, st, Kn, Kx, hold, er, hw, hn, hx⟩ => ⟨env, st, _, Kx, hold, er, hw, fun d st1 v H1 k t1 dn => by
    split at k
    · obtain ⟨q, o, xs, rfl, hq, r⟩ := dn_lst dn
      exact ⟨q, rfl, ⟨xs, SqL.frz hq⟩, lf_lcL ho ht t1.hold (er.le t1) hq r k fun _ _ _ _ k2 t2 d2 => hn _ _ _ _ k2 (t1.trans t2) d2⟩
    · exact k.elim, hx⟩
theorem lfw_lcR1 (ho : TgtOk K vs g tg) (ht : ∀ σ H Q, lfT W0 t σ H Q → tt σ H Q) : ∀ σ H Q, lfE W (wLcR1 ws tg t el vs) σ H Q → tLc (iRng1 (lfA W ws)) g tt (lfE W0 el) vs σ H (FO Q) :=
  fun σ H Q ⟨env, st, Kn, Kx, hold, er, hw, hn, hx⟩ => ⟨env, st, _, Kx, hold, er, hw, fun d st1 v H1 k t1 dn => by
    split at k
    · obtain ⟨v, r, rfl, d1, dn⟩ := dn.inv
      cases dn.nil_inv
      rw [dn_int d1]
      exact ⟨_, rfl, k.1.1, k.1.2, lf_lcR ho ht t1.hold (er.le t1) k.2 fun _ _ _ _ k2 t2 d2 => hn _ _ _ _ k2 (t1.trans t2) d2⟩
    · exact k.elim, hx⟩
theorem lfw_lcR2 (ho : TgtOk K vs g tg) (ht : ∀ σ H Q, lfT W0 t σ H Q → tt σ H Q) : ∀ σ H Q, lfE W (wLcR2 ws tg t el vs) σ H Q → tLc (iRng2 (lfA W ws)) g tt (lfE W0 el) vs σ H (FO Q) :=
  fun σ H Q ⟨env, st, Kn, Kx, hold, er, hw, hn, hx⟩ => ⟨env, st, _, Kx, hold, er, hw, fun d st1 v H1 k t1 dn => by
    split at k
    · obtain ⟨v, r, rfl, d1, dn⟩ := dn.inv
      obtain ⟨v, r, rfl, d2, dn⟩ := dn.inv
      cases dn.nil_inv
      rw [dn_int d1, dn_int d2]
      exact ⟨_, _, rfl, k.1, lf_lcR ho ht t1.hold (er.le t1) k.2 fun _ _ _ _ k2 t2 d2 => hn _ _ _ _ k2 (t1.trans t2) d2⟩
    · exact k.elim, hx⟩
/-- as a value; and given to a name -/
theorem pd_lcT (hc : X.calm = true) (hN : X.N.Nodup) (hi : PD X W iter wi) (B : LcOk X tgE elt ifs scope own tg t el) (hs : ∀ x, foldedSetIterable iter X.env x = pure x := by intro _; rfl) : PD X W (.ListComp elt [⟨tgE, iter, ifs, 0⟩] scope pos) (wLc wi tg t el (own.map (·.2))) := by
  obtain ⟨g, tt, ok, ho, ht, hg, hts, he⟩ := B.ok
  exact PE.imp (PE.fo <| pe_lc hc hN (pi_tup hi) ok hg hts he hs) (lfw_lcT ho ht)
theorem pd_lcL (hc : X.calm = true) (hN : X.N.Nodup) (hi : PD X W iter wi) (B : LcOk X tgE elt ifs scope own tg t el) (hs : ∀ x, foldedSetIterable iter X.env x = pure x := by intro _; rfl) : PD X W (.ListComp elt [⟨tgE, iter, ifs, 0⟩] scope pos) (wLcL wi tg t el (own.map (·.2))) := by
  obtain ⟨g, tt, ok, ho, ht, hg, hts, he⟩ := B.ok
  exact PE.imp (PE.fo <| pe_lc hc hN (pi_list hi) ok hg hts he hs) (lfw_lcL ho ht)
theorem pd_lcR1 {cp : Pos} (hc : X.calm = true) (hN : X.N.Nodup) (hgr : Gl X "range") (hm : X.mg "range" = none) (ha : PDA X W [a] ws) (B : LcOk X tgE elt ifs scope own tg t el) (hs1 : starEach [a] X.env = [(false, eval a X.env)] := by rfl)
    (hs : ∀ x, foldedSetIterable (.Call (.Name "range" p) [a] [] cp) X.env x = pure x := by intro _; rfl) : PD X W (.ListComp elt [⟨tgE, .Call (.Name "range" p) [a] [] cp, ifs, 0⟩] scope pos) (wLcR1 ws tg t el (own.map (·.2))) := by
  obtain ⟨g, tt, ok, ho, ht, hg, hts, he⟩ := B.ok
  exact PE.imp (PE.fo <| pe_lc hc hN (pi_range1 hgr hm ha hs1) ok hg hts he hs) (lfw_lcR1 ho ht)
theorem pd_lcR2 {cp : Pos} (hc : X.calm = true) (hN : X.N.Nodup) (hgr : Gl X "range") (hm : X.mg "range" = none) (ha : PDA X W [a, b] ws) (B : LcOk X tgE elt ifs scope own tg t el) (hs1 : starEach [a, b] X.env = [(false, eval a X.env), (false, eval b X.env)] := by rfl) (hs2 : starEach [b] X.env = [(false, eval b X.env)] := by rfl)
    (hs : ∀ x, foldedSetIterable (.Call (.Name "range" p) [a, b] [] cp) X.env x = pure x := by intro _; rfl) : PD X W (.ListComp elt [⟨tgE, .Call (.Name "range" p) [a, b] [] cp, ifs, 0⟩] scope pos) (wLcR2 ws tg t el (own.map (·.2))) := by
  obtain ⟨g, tt, ok, ho, ht, hg, hts, he⟩ := B.ok
  exact PE.imp (PE.fo <| pe_lc hc hN (pi_range2 hgr hm ha hs1 hs2) ok hg hts he hs) (lfw_lcR2 ho ht)
end
end DL

namespace DL
open PySem PySem.Spec PyProof.Rows L2
variable [Tb]
/-! ### room, and no list or tuple being shown -/
section
omit [Tb]
structure Rm (k : Nat) (A : Around) : Prop where
  rm : Room k A
  gd : A.guards = some []
theorem Rm.hd {k : Nat} {A : Around} (r : Rm k A) : A.handled = none := r.rm.hd
theorem Rm.dp {k : Nat} {A : Around} (r : Rm k A) : A.depth + 3 * k + 5 < recursionLimit := r.rm.dp
theorem Rm.un {k : Nat} {A : Around} (r : Rm k A) : A.units + 16 * k + 200 < cLine := r.rm.un
theorem Rm.depth {k : Nat} {A : Around} (r : Rm k A) : A.depth < recursionLimit := r.rm.depth
theorem Rm.mono {j k : Nat} {A : Around} (r : Rm k A) (h : j ≤ k) : Rm j A := ⟨r.rm.mono h, r.gd⟩
theorem deeper_gd {A : Around} (env : PySem.Env) : (A.deeper env).guards = A.guards := by first | rfl | simp [Around.deeper]
theorem Rm.deeper {k : Nat} {A : Around} (r : Rm (k + 1) A) (env : PySem.Env) : Rm k (A.deeper env) := ⟨r.rm.deeper env, (deeper_gd env).trans r.gd⟩
theorem make_gd {A : Around} {C : Addr} {us : List Value} {kw : List (Str × Value)} : (A.under (.builtin "type.__call__" ⟨.ref C :: us, kw⟩)).guards = A.guards := by
  have e : Code.guards (.builtin "type.__call__" ⟨.ref C :: us, kw⟩) = [] := by first | rfl | (unfold Code.guards; rw [if_neg]; first | decide | simp [Code.isGuard, guardIds])
  have h : (A.under (.builtin "type.__call__" ⟨.ref C :: us, kw⟩)).guards = pushGuards (Code.guards (.builtin "type.__call__" ⟨.ref C :: us, kw⟩)) A.guards := rfl
  rw [h, e]
  cases A.guards <;> rfl
theorem Rm.make {k : Nat} {A : Around} (r : Rm (k + 1) A) (C : Addr) (us : List Value) (kw : List (Str × Value)) : Rm k (A.under (.builtin "type.__call__" ⟨.ref C :: us, kw⟩)) := ⟨r.rm.make C us kw, make_gd.trans r.gd⟩
theorem Rm.in1 {k : Nat} {A : Around} (r : Rm (k + 1) A) : Rm k A.in1 := ⟨r.rm.in1, r.gd⟩
end
/-! ### what a def promises, over data -/
def liftSp (n : Nat) (wf : WF) : Sp := fun vs H Q E => ∃ (ds : List D) (st : Sto) (Kn : KD) (Kx : KX), Hold H st ∧ Dns H ds vs ∧ ds.length = n ∧ wf ds st Kn Kx ∧
  (∀ d st' v H', Kn d st' → To H st H' st' → Dn H' d v → Q v H') ∧ (∀ x st' cls dd H', Kx x st' → To H st H' st' → XRel H' x cls dd → E cls dd H')
theorem liftSp_len {n : Nat} {wf : WF} {vs : List V} {H : Hp} {Q : VK} {E : XK} (h : liftSp n wf vs H Q E) : vs.length = n := by
  obtain ⟨ds, st, Kn, Kx, _, dn, e, _⟩ := h
  rw [dn.length, e]
theorem liftSp_imp {n : Nat} {wf wf' : WF} (i : ∀ ds st Kn Kx, ds.length = n → wf' ds st Kn Kx → wf ds st Kn Kx) : ∀ vs H Q E, liftSp n wf' vs H Q E → liftSp n wf vs H Q E :=
  fun vs H Q E ⟨ds, st, Kn, Kx, hold, dn, e, w, h1, h2⟩ => ⟨ds, st, Kn, Kx, hold, dn, e, i _ _ _ _ e w, h1, h2⟩
structure FnD (P : Program) (w : World) (K : PySem.W.Frag) (mg : Str → Option Value) (base : Heap) (k : Nat) (f : Addr) (fd : FuncData) (ps : List Str) (wf : WF) : Prop where
  run : ∀ (A : Around) (outer : List PySem.Env) (s : Shared) (H : Hp) (args : Args) (us : List Value) (vs : List V) (Q : VK) (E : XK), Rm k A → Env0 P w K mg base A outer s H → BindsTo s fd args (ps.zip us) → Vals vs us →
    liftSp ps.length wf vs H Q E → codeAny (model P w) A (.call (.ref f) args) (CR (L2.CX P w) outer P w H s Q E) s
def startD (N : List Str) (ds : List D) : DEnv := ds.map some ++ List.replicate (N.length - ds.length) none
theorem EnvR.start {H : Hp} {N : List Str} {ds : List D} {vs : List V} (h : Dns H ds vs) : EnvR H (startD N ds) (L2.start N vs) := by
  refine ⟨by unfold L2.start startD; simp [h.length], fun i d e => ?_⟩
  unfold startD at e
  by_cases hi : i < ds.length
  · rw [List.getElem?_append_left (by simpa using hi), List.getElem?_map, List.getElem?_eq_getElem hi] at e
    simp at e
    obtain ⟨v, h1, h2⟩ := h.get (List.getElem?_eq_getElem hi)
    refine ⟨v, ?_, by rw [← e]; exact h2⟩
    unfold L2.start
    rw [List.getElem?_append_left (by rw [List.length_map, h.length]; exact hi), List.getElem?_map, h1]
    rfl
  · rw [List.getElem?_append_right (by simpa using hi), List.getElem?_replicate] at e
    split at e <;> simp at e
/-- the ends of a def's body -/
def endsD (Kn : KD) (Kx : KX) : DEnds := { nx := fun _ st => Kn .non st, rt := Kn, ex := fun x _ st => Kx x st }
abbrev defX (P : Program) (w : World) (K : PySem.W.Frag) (mg : Str → Option Value) (base : Heap) (N : List Str) (qual : Str) (scope : Scope) (f : Addr) (cd : Value) (A : Around) (outer : List PySem.Env) (s : Shared) (H : Hp) (E : XK) : Cx := cxOf (L2.CX P w) P w K mg base N qual scope f cd A outer s H E
/-- THE RULE for a def -/
theorem fn_d {P : Program} {w : World} {K : PySem.W.Frag} {mg : Str → Option Value} {base : Heap} {x qual : Str} {params : Arguments} {body : List Stmt} {scope : Scope} {dvs : List V} {kws : List (Str × V)} {f : Addr} {fd : FuncData} {N ps : List Str} {k : Nat} {wb : WS} {wf : WF}
    (F : FunD K x qual params body scope dvs kws f fd) (S : FnScope N ps scope)
    (hbody : ∀ (cdv : Value) (A : Around) (outer : List PySem.Env) (s : Shared) (H : Hp) (E : XK), Rm k (A.deeper (envOfC qual scope s.heap.objs.size f cdv)) → Takes (defX P w K mg base N qual scope f cdv A outer s H E) (fun cls d _ H => E cls d H) → PDSs (defX P w K mg base N qual scope f cdv A outer s H E) (fun cls d _ H => E cls d H) body wb)
    (hsp : ∀ ds st Kn Kx, ds.length = ps.length → wf ds st Kn Kx → wb (endsD Kn Kx) (startD N ds) st) : FnD P w K mg base (k + 1) f fd ps wf := by
  obtain ⟨oc, od, dV, kV, doc, pm, an, cdv, ct, osl, rfl, lk, hcd, _, _⟩ := F.ex
  refine ⟨fun A outer s H args us vs Q E hr e0 hb r h => ?_⟩
  refine LamX.run_ofS lk hcd S hr.rm e0 hb r (liftSp_len h) fun _ => ⟨_, hbody cdv A outer s H E (hr.deeper _) (takes_of rfl rfl rfl rfl), ?_⟩
  obtain ⟨ds, st, Kn, Kx, hold, dn, e, hw, h1, h2⟩ := h
  exact ⟨startD N ds, st, endsD Kn Kx, hold, EnvR.start dn, hsp _ _ _ _ e hw, fun _ _ _ _ k t _ => h1 _ _ _ _ k t mk_non, fun _ _ _ _ k t d => h1 _ _ _ _ k t d, fun _ _ _ _ k _ _ => k.elim, fun _ _ _ _ k _ _ => k.elim, fun _ _ _ _ _ _ _ k t _ xr => h2 _ _ _ _ _ k t xr⟩
section
variable {X : Cx} {W : WX} {k : Nat} {f C : Addr} {fd : FuncData} {ps : List Str} {sp : Sp} {wf : WF} {x m : Str} {p pos apos : Pos} {e o : Expr} {es : List Expr} {we wo : WE} {ws wk : WA}
theorem run_fnD {pins : List (Addr × Obj)} {σ : L2.St} {H : Hp} {s : Shared} {Q : VK} {us bs : List Value} {kw : List (Str × Value)} {bv : List V} (F : FnD X.prog X.w X.K X.mg X.base k f fd ps wf) (hr : Rm k X.A) (tk : Takes X W) (I : Inv X pins σ H s)
    (hb : BindsTo s fd ⟨us, kw⟩ (ps.zip bs)) (r : Vals bv bs) (h : liftSp ps.length wf bv H Q (L2.WE W σ)) : wpAny (model X.prog X.w) X.A (call (.ref f) us kw) (EP X pins σ Q) X.xe s := by
  refine wpAny_call (codeAny_mono (F.run X.A X.stack s H ⟨us, kw⟩ bs bv Q (L2.WE W σ) hr I.env0 hb r h) fun r s' hq => ?_)
  cases r with
  | error e => exact passAt tk σ pins H s e s' I hq
  | ok fl =>
    cases fl with
    | ret u => exact I.after hq
    | next => exact False.elim hq
    | brk => exact False.elim hq
    | cont => exact False.elim hq
/-- a call's reading: the positional values -/
def wCall (wf : WF) (ws : WA) : WE := fun env st Kn Kx => ws env st (fun ds st' => wf ds st' Kn Kx) Kx
theorem lf_call {n : Nat} {st st' : Sto} {Kn : KD} {Kx : KX} {σ : L2.St} {H H' : Hp} {Q : VK} {ds : List D} {vs : List V} (t : To H st H' st') (dn : Dns H' ds vs) (el : ds.length = n) (k : wf ds st' Kn Kx)
    (hn : ∀ d st' v H', Kn d st' → To H st H' st' → Dn H' d v → Q v H') (hx : ∀ x st' cls dd H', Kx x st' → To H st H' st' → XRel H' x cls dd → W cls dd σ H') : liftSp n wf vs H' Q (L2.WE W σ) :=
  ⟨ds, st', Kn, Kx, t.hold, dn, el, k, fun _ _ _ _ k2 t2 d2 => hn _ _ _ _ k2 (t.trans t2) d2, fun _ _ _ _ _ k2 t2 x2 => hx _ _ _ _ _ k2 (t.trans t2) x2⟩
theorem pd_call (F : FnD X.prog X.w X.K X.mg X.base k f fd ps wf) (hr : Rm k X.A) (tk : Takes X W) (hg : Gl X x) (hm : X.mg x = some (.ref f)) (hk : PySem.W.keepIn X.K (.ref f) = true) (hb : Binds X.K fd ps [])
    (ha : PDA X W (e :: es) ws) (hl : (e :: es).length = ps.length := by rfl) (hdb : (x == ("__debug__" : Str)) = false := by decide) (he : starEach (e :: es) X.env = (false, eval e X.env) :: starEach es X.env := by rfl) (hpl : (backTo pos (starEach es X.env)).any (·.1) = false := by rfl) :
    PD X W (.Call (.Name x p) (e :: es) [] pos) (wCall (fun ds st Kn Kx => ds.length = ps.length ∧ wf ds st Kn Kx) ws) := by
  refine ⟨fun pins s σ H Q I ⟨env, st, Kn, Kx, hold, er, hw, hn, hx⟩ => ?_⟩
  refine wpAny_Call_Name_kw (ld_glob I hg hm ?_ hdb)
  have hA : wpAny (model X.prog X.w) X.A (spliced (backTo pos (starEach (e :: es) X.env))) (AP X pins σ fun vs H' => liftSp ps.length wf vs H' Q (L2.WE W σ)) X.xe s :=
    ha.run pos pins s σ H _ I ⟨env, st, _, Kx, hold, er, hw, fun ds st' vs H' kk t dn => lf_call t dn kk.1 kk.2 hn hx, hx⟩
  refine PySem.W.callWith_K (h₀ := X.base) I.ok.mod.kin hk (thn hA fun us s1 ⟨vs, H1, I1, r, q⟩ => ⟨I1.kIn, ?_⟩) he hpl
  have hlen : us.length = ps.length := by rw [← r.length]; exact liftSp_len q
  have b := hb s1 us I1.kIn (by rw [List.append_nil]; exact hlen)
  rw [List.append_nil] at b
  exact run_fnD F hr tk I1 b r q
theorem pd_call0 (F : FnD X.prog X.w X.K X.mg X.base k f fd ps wf) (hr : Rm k X.A) (tk : Takes X W) (hg : Gl X x) (hm : X.mg x = some (.ref f)) (hk : PySem.W.keepIn X.K (.ref f) = true) (hb : Binds X.K fd ps [])
    (hl : ps = []) (hdb : (x == ("__debug__" : Str)) = false := by decide) : PD X W (.Call (.Name x p) [] [] pos) (wCall wf wNil) := by
  subst hl
  refine ⟨fun pins s σ H Q I ⟨env, st, Kn, Kx, hold, er, hw, hn, hx⟩ => ?_⟩
  refine wpAny_Call_Name_kw (ld_glob I hg hm ?_ hdb)
  have b := hb s [] I.kIn rfl
  exact PySem.W.callWith_K0 I.kIn hk (run_fnD (us := []) F hr tk I b .nil (lf_call (To.refl hold) .nil rfl hw hn hx))
/-! keywords: the positional values first, then the keywords' values by their places among the parameters -/
def arr {α : Type} (us ws : List α) (perm : List Nat) : List α := us ++ perm.filterMap fun i => ws[i]?
theorem arr_rel {vs zs : List V} {us ws : List Value} (r : Vals vs us) (s : Vals zs ws) (perm : List Nat) : Vals (arr vs zs perm) (arr us ws perm) := by
  unfold arr
  refine r.append ?_
  induction perm with
  | nil => exact .nil
  | cons i perm ih =>
    cases e : zs[i]? with
    | none =>
      rw [List.filterMap_cons, List.filterMap_cons, e, s.none_of e]
      exact ih
    | some z =>
      obtain ⟨u, e2, r2⟩ := s.get e
      rw [List.filterMap_cons, List.filterMap_cons, e, e2]
      exact .cons r2 ih
theorem arr_dns {H : Hp} {ds es : List D} {vs us : List V} (r : Dns H ds vs) (s : Dns H es us) (perm : List Nat) : Dns H (arr ds es perm) (arr vs us perm) := by
  unfold arr
  refine r.append ?_
  induction perm with
  | nil => exact .nil
  | cons i perm ih =>
    cases e : es[i]? with
    | none =>
      have e2 : us[i]? = none := by
        rw [List.getElem?_eq_none_iff] at e ⊢
        rw [s.length]; exact e
      rw [List.filterMap_cons, List.filterMap_cons, e, e2]
      exact ih
    | some z =>
      obtain ⟨u, e2, r2⟩ := s.get e
      rw [List.filterMap_cons, List.filterMap_cons, e, e2]
      exact .cons r2 ih
/-- how a call with n positional values and keywords ks binds -/
def KwB (K : PySem.W.Frag) (fd : FuncData) (ps : List Str) (n : Nat) (ks : List Str) (perm : List Nat) : Prop :=
  ∀ (s : Shared) (us ws : List Value), K.In s.heap → us.length = n → ws.length = ks.length → BindsTo s fd ⟨us, ks.zip ws⟩ (ps.zip (arr us ws perm))
theorem kwb_of {K : PySem.W.Frag} {x qual : Str} {params : Arguments} {body : List Stmt} {scope : Scope} {kws : List (Str × V)} {n : Nat} {ks : List Str} {perm : List Nat} (F : FunD K x qual params body scope [] kws f fd)
    (h : ∀ (kV doc pm : Value) (an : Option Addr) (cdv ct : Value) (us ws : List Value), us.length = n → ws.length = ks.length → bindArgs (PySem.W.fnOf x qual params body scope .none kV doc pm an cdv ct) ⟨us, ks.zip ws⟩ = pure (ps.zip (arr us ws perm))) : KwB K fd ps n ks perm := by
  obtain ⟨oc, od, dV, kV, doc, pm, an, cdv, ct, osl, rfl, lk, hcd, hD, hK⟩ := F.ex
  rcases hD with ⟨_, rfl⟩ | ⟨e, _⟩
  · exact fun s us ws _ l1 l2 => .of_eq (h kV doc pm an cdv ct us ws l1 l2)
  · exact absurd rfl e
abbrev PDK (X : Cx) (W : WX) (kws : List Keyword) (w : WA) : Prop := PK X kws (lfA W w)
variable {kws : List Keyword} {nm : Option Str} {kpos : Pos}
theorem PK.imp {t t' : TA} (h : PK X kws t) (i : ∀ σ H Q, t' σ H Q → t σ H Q) : PK X kws t' := ⟨fun pos pins s σ H Q I q => h.run pos pins s σ H Q I (i _ _ _ q)⟩
theorem pdk_nil : PDK X W [] wNil := PK.imp pk_nil fun σ H Q ⟨env, st, Kn, Kx, hold, er, hw, hn, hx⟩ => hn [] st [] H hw (To.refl hold) .nil
theorem pdk_cons (h : PD X W e we) (r : PDK X W kws ws) : PDK X W (⟨nm, e, kpos⟩ :: kws) (wCons we ws) :=
  PK.imp (pk_cons h r) fun σ H Q ⟨env, st, Kn, Kx, hold, er, hw, hn, hx⟩ => ⟨env, st, _, Kx, hold, er, hw, fun d st1 v H1 k1 t1 d1 =>
    ⟨env, st1, _, Kx, t1.hold, er.le t1, k1, fun ds st2 vs H2 k2 t2 d2 => hn _ _ _ _ k2 (t1.trans t2) (.cons (t2.dn d1) d2), fun x st2 cls dd H2 k2 t2 xr => hx _ _ _ _ _ k2 (t1.trans t2) xr⟩, hx⟩
def wCallK (n m l : Nat) (perm : List Nat) (wf : WF) (ws wk : WA) : WE := fun env st Kn Kx => ws env st (fun ds st' => wk env st' (fun es st2 => (ds.length = n ∧ es.length = m ∧ (arr ds es perm).length = l) ∧ wf (arr ds es perm) st2 Kn Kx) Kx) Kx
theorem pd_callK0 {ks : List Str} {perm : List Nat} (F : FnD X.prog X.w X.K X.mg X.base k f fd ps wf) (hr : Rm k X.A) (tk : Takes X W) (hg : Gl X x) (hm : X.mg x = some (.ref f)) (hk : PySem.W.keepIn X.K (.ref f) = true) (hb : KwB X.K fd ps 0 ks perm)
    (hkw : PDK X W kws wk) (hall : (backToKw pos (keywordEach kws X.env)).all (·.1.isSome) = true := by rfl) (hks : (backToKw pos (keywordEach kws X.env)).filterMap (·.1) = ks := by rfl) (hdb : (x == ("__debug__" : Str)) = false := by decide)
    (hpl : ((backTo pos (starEach [] X.env)).any (·.1) || (backToKw pos (keywordEach kws X.env)).any (·.1.isNone)) = false := by rfl) :
    PD X W (.Call (.Name x p) [] kws pos) (wCallK 0 ks.length ps.length perm wf wNil wk) := by
  refine ⟨fun pins s σ H Q I ⟨env, st, Kn, Kx, hold, er, hw, hn, hx⟩ => ?_⟩
  refine wpAny_Call_Name_kw (ld_glob I hg hm ?_ hdb)
  refine PySem.W.callWith_KW0 (h₀ := X.base) I.ok.mod.kin hk hall ?_ hpl
  have hA : wpAny (model X.prog X.w) X.A (evalAll ((backToKw pos (keywordEach kws X.env)).map (·.2))) (AP X pins σ fun vs H' => vs.length = ks.length ∧ liftSp ps.length wf (arr [] vs perm) H' Q (L2.WE W σ)) X.xe s :=
    hkw.run pos pins s σ H _ I ⟨env, st, _, Kx, hold, er, hw, fun ds st' vs H' kk t dn => ⟨dn.length.trans kk.1.2.1, lf_call t (arr_dns .nil dn perm) kk.1.2.2 kk.2 hn hx⟩, hx⟩
  refine thn hA fun us s2 ⟨zs, H2, I2, rz, l2, q2⟩ => ⟨I2.kIn, ?_⟩
  rw [hks]
  exact run_fnD F hr tk I2 (hb s2 [] us I2.kIn rfl (rz.length.symm.trans l2)) (arr_rel .nil rz perm) q2
theorem pd_callK {n : Nat} {ks : List Str} {perm : List Nat} (F : FnD X.prog X.w X.K X.mg X.base k f fd ps wf) (hr : Rm k X.A) (tk : Takes X W) (hg : Gl X x) (hm : X.mg x = some (.ref f)) (hk : PySem.W.keepIn X.K (.ref f) = true) (hb : KwB X.K fd ps n ks perm)
    (ha : PDA X W (e :: es) ws) (hkw : PDK X W kws wk) (hall : (backToKw pos (keywordEach kws X.env)).all (·.1.isSome) = true := by rfl) (hks : (backToKw pos (keywordEach kws X.env)).filterMap (·.1) = ks := by rfl) (hdb : (x == ("__debug__" : Str)) = false := by decide)
    (he : starEach (e :: es) X.env = (false, eval e X.env) :: starEach es X.env := by rfl) (hpl : ((backTo pos (starEach (e :: es) X.env)).any (·.1) || (backToKw pos (keywordEach kws X.env)).any (·.1.isNone)) = false := by rfl) :
    PD X W (.Call (.Name x p) (e :: es) kws pos) (wCallK n ks.length ps.length perm wf ws wk) := by
  refine ⟨fun pins s σ H Q I ⟨env, st, Kn, Kx, hold, er, hw, hn, hx⟩ => ?_⟩
  refine wpAny_Call_Name_kw (ld_glob I hg hm ?_ hdb)
  have hA : wpAny (model X.prog X.w) X.A (spliced (backTo pos (starEach (e :: es) X.env))) (AP X pins σ fun vs H' => lfA W wk σ H' fun zs H2 => vs.length = n ∧ zs.length = ks.length ∧ liftSp ps.length wf (arr vs zs perm) H2 Q (L2.WE W σ)) X.xe s :=
    ha.run pos pins s σ H _ I ⟨env, st, _, Kx, hold, er, hw, fun ds st1 vs H1 k1 t1 d1 => ⟨env, st1, _, Kx, t1.hold, er.le t1, k1, fun es st2 zs H2 k2 t2 d2 =>
      ⟨d1.length.trans k2.1.1, d2.length.trans k2.1.2.1, lf_call (t1.trans t2) (arr_dns (t2.dns d1) d2 perm) k2.1.2.2 k2.2 hn hx⟩, fun _ _ _ _ _ k2 t2 xr => hx _ _ _ _ _ k2 (t1.trans t2) xr⟩, hx⟩
  refine PySem.W.callWith_KW (h₀ := X.base) I.ok.mod.kin hk hall (thn hA fun us s1 ⟨vs, H1, I1, r, q⟩ => ?_) hpl he
  refine thn (hkw.run pos pins s1 σ H1 _ I1 q) fun ws s2 ⟨zs, H2, I2, rz, l1, l2, q2⟩ => ⟨I2.kIn, ?_⟩
  rw [hks]
  exact run_fnD F hr tk I2 (hb s2 us ws I2.kIn (r.length.symm.trans l1) (rz.length.symm.trans l2)) (arr_rel r rz perm) q2

/-! ### instances -/
theorem Fs.lookup {H : Hp} : ∀ {fs : List (Str × D)} {vs : List (Str × V)}, Fs H fs vs → ∀ f : Str, match fs.lookup f with
    | some d => ∃ v, vs.lookup f = some v ∧ Dn H d v
    | none => vs.lookup f = none
  | [], _, h, f => by cases h; rfl
  | (g, d) :: r, _, h, f => by
    obtain ⟨v, s, rfl, h1, h2⟩ := h
    by_cases e : f = g
    · subst e
      simp only [List.lookup, beq_self_eq_true]
      exact ⟨v, rfl, h1⟩
    · have e' : (f == g) = false := by simpa using e
      simp only [List.lookup, e']
      exact Fs.lookup h2 f
theorem Fs.lookup_some {H : Hp} {fs : List (Str × D)} {vs : List (Str × V)} (h : Fs H fs vs) {f : Str} {d : D} (e : fs.lookup f = some d) : ∃ v, vs.lookup f = some v ∧ Dn H d v := by
  have q := h.lookup f
  rw [e] at q; exact q
theorem Fs.lookup_none {H : Hp} {fs : List (Str × D)} {vs : List (Str × V)} (h : Fs H fs vs) {f : Str} (e : fs.lookup f = none) : vs.lookup f = none := by
  have q := h.lookup f
  rw [e] at q; exact q
def putD (f : Str) (d : D) : List (Str × D) → List (Str × D)
  | [] => [(f, d)]
  | (g, x) :: r => if g = f then (g, d) :: r else (g, x) :: putD f d r
theorem Fs.put {H : Hp} {f : Str} {d : D} {v : V} (hd : Dn H d v) : ∀ {fs : List (Str × D)} {vs : List (Str × V)}, Fs H fs vs → Fs H (putD f d fs) (putF f v vs)
  | [], _, h => by cases h; exact ⟨v, [], rfl, hd, rfl⟩
  | (g, x) :: r, _, h => by
    obtain ⟨u, s, rfl, h1, h2⟩ := h
    unfold putD putF
    by_cases e : g = f
    · rw [if_pos e, if_pos e]; exact ⟨v, s, rfl, hd, h2⟩
    · rw [if_neg e, if_neg e]; exact ⟨u, _, rfl, h1, Fs.put hd h2⟩
theorem Fs.length {H : Hp} : ∀ {fs : List (Str × D)} {vs : List (Str × V)}, Fs H fs vs → vs.length = fs.length
  | [], _, h => by cases h; rfl
  | (g, x) :: r, _, h => by
    obtain ⟨u, s, rfl, h1, h2⟩ := h
    rw [List.length_cons, List.length_cons, Fs.length h2]
def wFld (K : PySem.W.Frag) (f : Str) (w : WE) : WE := fun env st Kn Kx => w env st (fun d st' => match d with
  | .ref a => match st'.lookup a with
    | some (.ins C fs) => (Cls K C ∧ NoAttr K C f) ∧ match fs.lookup f with
      | some d => Kn d st'
      | none => False
    | _ => False
  | _ => False) Kx
theorem pd_fld {f : Str} (h : PD X W e we) (hb : attributeBase e f X.env (eval e X.env) = eval e X.env := by rfl) : PD X W (.Attribute e f pos) (wFld X.K f we) :=
  PE.imp (pe_fld h hb) fun σ H Q ⟨env, st, Kn, Kx, hold, er, hw, hn, hx⟩ => ⟨env, st, _, Kx, hold, er, hw, fun d st' v H' k t dn => by
    split at k
    · rename_i a
      split at k
      · rename_i C fs l
        obtain ⟨⟨c1, c2⟩, k⟩ := k
        split at k
        · rename_i d' e'
          obtain ⟨dx, vs, ha, hf⟩ := t.hold.at l
          obtain ⟨u, e2, d2⟩ := hf.lookup_some e'
          exact ⟨a, C, dx, vs, u, dn_ref dn, ha, c1, c2, e2, hn _ _ _ _ k t d2⟩
        · exact k.elim
      · exact k.elim
    · exact k.elim, hx⟩
/-- o.f = e -/
def wSetF (K : PySem.W.Frag) (f : Str) (wv wo : WE) : WS := fun D env st => wv env st (fun d st1 => wo env st1 (fun o st2 => match o with
  | .ref a => match st2.lookup a with
    | some (.ins C fs) => ((Cls K C ∧ NoAttr K C f) ∧ fs.length < 1000) ∧ D.nx env (st2.put a (.ins C (putD f d fs)))
    | _ => False
  | _ => False) (fun x st' => D.ex x env st')) (fun x st' => D.ex x env st')
theorem pds_setF {f : Str} {pos' : Pos} (ho : PD X W o wo) (hv : PD X W e we) (hs : swapsWith e (some (.Attribute o f pos')) pos.line X.env = pure false := by rfl) : PDS X W (.Assign [.Attribute o f pos'] e pos) (wSetF X.K f we wo) :=
  PS.imp (ps_fld ho hv hs) fun D σ H ⟨env, st, DD, hold, er, hw, h1, h2, h3, h4, h5⟩ => ⟨env, st, _, _, hold, er, hw, fun d st1 v H1 k1 t1 d1 =>
    ⟨env, st1, _, _, t1.hold, er.le t1, k1, fun d0 st2 u H2 k t2 d2 => by
      have t := t1.trans t2
      split at k
      · rename_i a
        split at k
        · rename_i C fs l
          obtain ⟨⟨⟨c1, c2⟩, hl⟩, k⟩ := k
          obtain ⟨dx, vs, ha, hf⟩ := t.hold.at l
          have tw := t.hold.write (o := .ins C dx (putF f v vs)) (on_of l) (c := .ins C (putD f d fs)) ⟨dx, _, upd_same, (hf.put (t2.dn d1)).ext (ext_write ha trivial)⟩
          exact ⟨a, C, dx, vs, dn_ref d2, ha, c1, c2, by rw [hf.length]; exact hl, h1 _ _ _ _ k (t.trans tw) (er.le (t.trans tw))⟩
        · exact k.elim
      · exact k.elim, fun _ _ _ _ _ k2 t2 xr => h5 _ _ _ _ _ _ _ k2 (t1.trans t2) (er.le (t1.trans t2)) xr⟩, lfE_s er h5⟩
/-! the same, the class told ahead -/
def fldOf (C : Addr) (f : Str) (d : D) (st : Sto) : Option D := match d with
  | .ref a => match st.lookup a with
    | some (.ins C' fs) => if C' = C then fs.lookup f else none
    | _ => none
  | _ => none
def wFldC (C : Addr) (f : Str) (w : WE) : WE := fun env st Kn Kx => w env st (fun d st' => ∃ v, fldOf C f d st' = some v ∧ Kn v st') Kx
theorem pd_fldC {f : Str} (c1 : Cls X.K C) (c2 : NoAttr X.K C f) (h : PD X W e we) (hb : attributeBase e f X.env (eval e X.env) = eval e X.env := by rfl) : PD X W (.Attribute e f pos) (wFldC C f we) :=
  PE.imp (pe_fld h hb) fun σ H Q ⟨env, st, Kn, Kx, hold, er, hw, hn, hx⟩ => ⟨env, st, _, Kx, hold, er, hw, fun d st' v H' k t dn => by
    obtain ⟨d', ed, k⟩ := k
    unfold fldOf at ed
    split at ed
    · rename_i a
      split at ed
      · rename_i C' fs l
        split at ed
        · rename_i eC
          subst eC
          obtain ⟨dx, vs, ha, hf⟩ := t.hold.at l
          obtain ⟨u, e2, d2⟩ := hf.lookup_some ed
          exact ⟨a, C', dx, vs, u, dn_ref dn, ha, c1, c2, e2, hn _ _ _ _ k t d2⟩
        · cases ed
      · cases ed
    · exact (nomatch ed), hx⟩
/-- o.f = e -/
def wSetFC (C : Addr) (f : Str) (wv wo : WE) : WS := fun D env st => wv env st (fun d st1 => wo env st1 (fun o st2 => ∃ a fs, (o = .ref a ∧ st2.lookup a = some (.ins C fs) ∧ fs.length < 1000) ∧ D.nx env (st2.put a (.ins C (putD f d fs)))) (fun x st' => D.ex x env st')) (fun x st' => D.ex x env st')
theorem pds_setFC {f : Str} {pos' : Pos} (c1 : Cls X.K C) (c2 : NoAttr X.K C f) (ho : PD X W o wo) (hv : PD X W e we) (hs : swapsWith e (some (.Attribute o f pos')) pos.line X.env = pure false := by rfl) : PDS X W (.Assign [.Attribute o f pos'] e pos) (wSetFC C f we wo) :=
  PS.imp (ps_fld ho hv hs) fun D σ H ⟨env, st, DD, hold, er, hw, h1, h2, h3, h4, h5⟩ => ⟨env, st, _, _, hold, er, hw, fun d st1 v H1 k1 t1 d1 =>
    ⟨env, st1, _, _, t1.hold, er.le t1, k1, fun d0 st2 u H2 k t2 d2 => by
      have t := t1.trans t2
      obtain ⟨a, fs, ⟨rfl, l, hl⟩, k⟩ := k
      obtain ⟨dx, vs, ha, hf⟩ := t.hold.at l
      have tw := t.hold.write (o := .ins C dx (putF f v vs)) (on_of l) (c := .ins C (putD f d fs)) ⟨dx, _, upd_same, (hf.put (t2.dn d1)).ext (ext_write ha trivial)⟩
      exact ⟨a, C, dx, vs, dn_ref d2, ha, c1, c2, by rw [hf.length]; exact hl, h1 _ _ _ _ k (t.trans tw) (er.le (t.trans tw))⟩, fun _ _ _ _ _ k2 t2 xr => h5 _ _ _ _ _ _ _ k2 (t1.trans t2) (er.le (t1.trans t2)) xr⟩, lfE_s er h5⟩
/-- o.m(e, ..) -/
def wMeth (C : Addr) (m : Str) (wf : WF) (wo : WE) (ws : WA) : WE := fun env st Kn Kx => wo env st (fun o st1 => match o with
  | .ref a => match st1.lookup a with
    | some (.ins C' fs) => (C' = C ∧ fs.lookup m = none) ∧ ws env st1 (fun ds st2 => wf (.ref a :: ds) st2 Kn Kx) Kx
    | _ => False
  | _ => False) Kx
theorem wMeth_run {C : Addr} {m : Str} {n : Nat} {wf : WF} {env : DEnv} {st : Sto} {Kn : KD} {Kx : KX} {σ : L2.St} {H : Hp} {Q : VK} (hold : Hold H st) (er : EnvR H env σ) (hw : wMeth C m (fun ds st Kn Kx => ds.length = n ∧ wf ds st Kn Kx) wo ws env st Kn Kx)
    (hn : ∀ d st' v H', Kn d st' → To H st H' st' → Dn H' d v → Q v H') (hx : ∀ x st' cls dd H', Kx x st' → To H st H' st' → XRel H' x cls dd → W cls dd σ H') :
    lfE W wo σ H fun y H1 => ∃ a dx fs, y = .ref a ∧ H1 a = some (.ins C dx fs) ∧ fs.lookup m = none ∧ lfA W ws σ H1 fun vs H2 => liftSp n wf (.ref a :: vs) H2 Q (L2.WE W σ) := by
  refine ⟨env, st, _, Kx, hold, er, hw, fun d st1 v H1 k t1 d1 => ?_, hx⟩
  split at k
  · rename_i a
    split at k
    · rename_i C' fs l
      obtain ⟨⟨rfl, c2⟩, k⟩ := k
      obtain ⟨dx, vs, ha, hf⟩ := t1.hold.at l
      exact ⟨a, dx, vs, dn_ref d1, ha, hf.lookup_none c2, env, st1, _, Kx, t1.hold, er.le t1, k, fun ds st2 us H2 k2 t2 d2 => lf_call (t1.trans t2) (.cons mk_ref d2) k2.1 k2.2 hn hx, fun _ _ _ _ _ k2 t2 xr => hx _ _ _ _ _ k2 (t1.trans t2) xr⟩
    · exact k.elim
  · exact k.elim
theorem pd_meth {pl : Sem Bool} (c : Cls X.K C) (hm : Meth X.K C m f) (F : FnD X.prog X.w X.K X.mg X.base k f fd ps wf) (hr : Rm k X.A) (tk : Takes X W) (hb : Binds X.K fd ps []) (ho : PD X W o wo) (ha : PDA X W (e :: es) ws)
    (hst : starEach (e :: es) X.env = (false, eval e X.env) :: starEach es X.env := by rfl) (hpl : (backTo pos (starEach es X.env)).any (·.1) = false := by rfl)
    (ht : eval (.Call (.Attribute o m apos) (e :: es) [] pos) X.env = (do
      let ov ← eval o X.env
      standAt apos.atName
      let (f, first) ← holding [ov] (getMethod ov m pl)
      callWith pos f first (backTo pos (starEach (e :: es) X.env)) (backToKw pos (keywordEach [] X.env))) := by rfl) :
    PD X W (.Call (.Attribute o m apos) (e :: es) [] pos) (wMeth C m (fun ds st Kn Kx => ds.length = ps.length ∧ wf ds st Kn Kx) wo ws) := by
  refine ⟨fun pins s σ H Q I ⟨env, st, Kn, Kx, hold, er, hw, hn, hx⟩ => ?_⟩
  refine PySem.W.methodCall_KW (pl := pl) (thn (ho.run pins s σ H _ I (wMeth_run hold er hw hn hx)) fun u s1 ⟨y, H1, I1, rx, a, dx, fs, ex, ea, l, q⟩ => ?_) ht
  subst ex
  obtain rfl : u = Value.ref a := rx
  refine getmeth_ok I1 ea c hm l ?_
  refine PySem.W.callWith_K (first := [.ref a]) (h₀ := X.base) I.ok.mod.kin hm.kp (thn (ha.run pos pins s1 σ H1 _ I1 q) fun us s2 ⟨vs, H2, I2, r, q2⟩ => ⟨I2.kIn, ?_⟩) hst hpl
  have r2 : Vals (V.ref a :: vs) (Value.ref a :: us) := .cons rfl r
  have b := hb s2 (.ref a :: us) I2.kIn (by rw [List.append_nil, ← r2.length]; exact liftSp_len q2)
  rw [List.append_nil] at b
  exact run_fnD F hr tk I2 b r2 q2
theorem pd_meth0 {pl : Sem Bool} (c : Cls X.K C) (hm : Meth X.K C m f) (F : FnD X.prog X.w X.K X.mg X.base k f fd ps wf) (hr : Rm k X.A) (tk : Takes X W) (hb : Binds X.K fd ps []) (ho : PD X W o wo)
    (ht : eval (.Call (.Attribute o m apos) [] [] pos) X.env = (do
      let ov ← eval o X.env
      standAt apos.atName
      let (f, first) ← holding [ov] (getMethod ov m pl)
      callWith pos f first (backTo pos (starEach [] X.env)) (backToKw pos (keywordEach [] X.env))) := by rfl) :
    PD X W (.Call (.Attribute o m apos) [] [] pos) (wMeth C m (fun ds st Kn Kx => ds.length = ps.length ∧ wf ds st Kn Kx) wo wNil) := by
  refine ⟨fun pins s σ H Q I ⟨env, st, Kn, Kx, hold, er, hw, hn, hx⟩ => ?_⟩
  refine PySem.W.methodCall_KW (pl := pl) (thn (ho.run pins s σ H _ I (wMeth_run hold er hw hn hx)) fun u s1 ⟨y, H1, I1, rx, a, dx, fs, ex, ea, l, q⟩ => ?_) ht
  subst ex
  obtain rfl : u = Value.ref a := rx
  refine getmeth_ok I1 ea c hm l ?_
  obtain ⟨env2, st2, Kn2, Kx2, hold2, er2, hw2, hn2, hx2⟩ := q
  have q2 := hn2 [] st2 [] H1 hw2 (To.refl hold2) .nil
  have b := hb s1 [.ref a] I1.kIn (by rw [List.append_nil]; exact liftSp_len q2)
  rw [List.append_nil] at b
  exact PySem.W.callWith_K0 (first := [.ref a]) I1.kIn hm.kp (run_fnD (us := [.ref a]) F hr tk I1 b (bv := [V.ref a]) (.cons rfl .nil) q2)
/-- C(e, ..) -/
def wMake (C : Addr) (wf : WF) (ws : WA) : WE := fun env st Kn Kx => ws env st (fun ds st1 => ∀ a, ¬ st1.on a → wf (.ref a :: ds) ((a, .ins C []) :: st1) (fun d st2 => d = .non ∧ Kn (.ref a) st2) Kx) Kx
theorem pd_make (M : Mk X.K C f) (F : FnD X.prog X.w X.K X.mg X.base k f fd ps wf) (hr : Rm (k + 1) X.A) (tk : Takes X W) (hg : Gl X x) (hm : X.mg x = some (.ref C)) (hb : Binds X.K fd ps [])
    (ha : PDA X W (e :: es) ws) (hdb : (x == ("__debug__" : Str)) = false := by decide) (he : starEach (e :: es) X.env = (false, eval e X.env) :: starEach es X.env := by rfl) (hpl : (backTo pos (starEach es X.env)).any (·.1) = false := by rfl) :
    PD X W (.Call (.Name x p) (e :: es) [] pos) (wMake C (fun ds st Kn Kx => ds.length = ps.length ∧ wf ds st Kn Kx) ws) := by
  refine ⟨fun pins s σ H Q I ⟨env, st, Kn, Kx, hold, er, hw, hn, hx⟩ => ?_⟩
  refine wpAny_Call_Name_kw (ld_glob I hg hm ?_ hdb)
  have hA : wpAny (model X.prog X.w) X.A (spliced (backTo pos (starEach (e :: es) X.env))) (AP X pins σ fun vs H1 => ∀ a dx, H1 a = none → H1 dx = none → dx ≠ a → liftSp ps.length wf (.ref a :: vs) (upd (upd H1 dx (.own a)) a (.ins C dx [])) (fun v H2 => v = .non ∧ Q (.ref a) H2) (L2.WE W σ)) X.xe s :=
    ha.run pos pins s σ H _ I ⟨env, st, _, Kx, hold, er, hw, fun ds st1 vs H1 kk t dn a dx na nd ne => by
      have t1 := t.hold.laid (p := dx) (o := .own a) nd
      have na1 : upd H1 dx (.own a) a = none := by rw [upd_ne (Ne.symm ne)]; exact na
      have t2 := t1.hold.cell (p := a) (o := .ins C dx []) (c := .ins C []) na1 ⟨dx, [], upd_same, rfl⟩
      have q := kk a (t.hold.fresh na)
      refine ⟨_, _, _, Kx, t2.hold, .cons mk_ref ((t1.trans t2).dns dn), q.1, q.2, fun d st' v H' k2 t3 d3 => ⟨?_, hn _ _ _ _ k2.2 (t.trans ((t1.trans t2).trans t3)) mk_ref⟩, fun _ _ _ _ _ k2 t3 xr => hx _ _ _ _ _ k2 (t.trans ((t1.trans t2).trans t3)) xr⟩
      have e := k2.1
      subst e
      exact dn_non d3, hx⟩
  refine PySem.W.callWith_K (h₀ := X.base) I.ok.mod.kin M.kp (thn hA fun us s1 ⟨vs, H1, I1, r, h⟩ => ⟨I1.kIn, ?_⟩) he hpl
  have hq := h (s1.heap.objs.size + 1) s1.heap.objs.size (I1.hok.fresh (Nat.le_succ _)) (I1.hok.fresh (Nat.le_refl _)) (Nat.ne_of_lt (Nat.lt_succ_self _))
  have I2 := Inv.made (C := C) I1
  have r2 : Vals (V.ref (s1.heap.objs.size + 1) :: vs) (Value.ref (s1.heap.objs.size + 1) :: us) := .cons rfl r
  have b := hb { s1 with heap := (s1.heap.push PySem.W.emptyDict).push (PySem.W.instObj C s1.heap.objs.size) } (Value.ref (s1.heap.objs.size + 1) :: us) I2.kIn (by rw [List.append_nil, ← r2.length]; exact liftSp_len hq)
  rw [List.append_nil] at b
  refine wpAny_call (make_map (f := f) I1.kIn M.makes M.init (beq_iff_eq.mp M.fn) (codeAny_mono (F.run _ X.stack _ _ ⟨Value.ref (s1.heap.objs.size + 1) :: us, []⟩ (Value.ref (s1.heap.objs.size + 1) :: us) _ _ (L2.WE W σ) (hr.make C us []) (I2.env0.make C us []) b r2 hq) fun r s' hq' => ?_))
  cases r with
  | error e => exact passAt tk σ pins _ _ e s' I2 hq'
  | ok fl =>
    cases fl with
    | ret u =>
      obtain ⟨v, H', I3, rv, ev, q3⟩ := I2.after hq'
      subst ev
      exact ⟨rv, ⟨V.ref (s1.heap.objs.size + 1), H', I3, rfl, q3⟩⟩
    | next => exact False.elim hq'
    | brk => exact False.elim hq'
    | cont => exact False.elim hq'
end
end DL

namespace DL
open PySem PySem.Spec PyProof.Rows L2
variable [Tb]
/-! ### plain data -/
mutual
def D.py : D → Option PyData
  | .non => some .none
  | .bl b => some (.bool b)
  | .int i => some (.int i)
  | .str x => some (.str x)
  | .tup ds => match D.pys ds with
    | some l => some (.tuple l)
    | none => none
  | .lst ds => match D.pys ds with
    | some l => some (.list l)
    | none => none
  | .ty _ => none
  | .ref _ => none
  | .emp => none
  | .exc _ _ _ _ _ => none
def D.pys : List D → Option (List PyData)
  | [] => some []
  | d :: ds => match D.py d, D.pys ds with
    | some a, some b => some (a :: b)
    | _, _ => none
end
section
variable {H : Hp} {K : PySem.W.Frag}
mutual
theorem D.py_dp : ∀ (d : D) (p : PyData) (v : V), d.py = some p → Dn H d v → Dp K H v p
  | .non, p, v, e, h => by simp only [D.py] at e; cases e; rw [dn_non h]; exact .non
  | .bl b, p, v, e, h => by simp only [D.py] at e; cases e; rw [dn_bl h]; exact .bl b
  | .int i, p, v, e, h => by simp only [D.py] at e; cases e; rw [dn_int h]; exact .int i
  | .str x, p, v, e, h => by simp only [D.py] at e; cases e; rw [dn_str h]; exact .str x
  | .tup ds, p, v, e, h => by
    simp only [D.py] at e
    split at e
    · rename_i l el
      cases e
      obtain ⟨a, xs, rfl, ha, r⟩ := dn_tup h
      exact .tup (SqT.of ha) (D.pys_dp ds l xs el r)
    · cases e
  | .lst ds, p, v, e, h => by
    simp only [D.py] at e
    split at e
    · rename_i l el
      cases e
      obtain ⟨a, o, xs, rfl, ha, r⟩ := dn_lst h
      exact .lst (SqL.frz ha) (D.pys_dp ds l xs el r)
    · cases e
  | .ty _, p, v, e, h => by simp only [D.py] at e; cases e
  | .ref _, p, v, e, h => by simp only [D.py] at e; cases e
  | .emp, p, v, e, h => by simp only [D.py] at e; cases e
  | .exc _ _ _ _ _, p, v, e, h => by simp only [D.py] at e; cases e
theorem D.pys_dp : ∀ (ds : List D) (l : List PyData) (vs : List V), D.pys ds = some l → Dns H ds vs → DpAll K H vs l
  | [], l, vs, e, h => by simp only [D.pys] at e; cases e; rw [h.nil_inv]; exact .nil
  | d :: ds, l, vs, e, h => by
    simp only [D.pys] at e
    split at e
    · rename_i a b ea eb
      cases e
      obtain ⟨v, r, rfl, h1, h2⟩ := h.inv
      exact .cons (D.py_dp d a v ea h1) (D.pys_dp ds b r eb h2)
    · cases e
end
end
def strsOf : List D → Option (List Str)
  | [] => some []
  | .str x :: ds => match strsOf ds with
    | some l => some (x :: l)
    | none => none
  | _ :: _ => none
theorem strsOf_eq : ∀ {ds : List D} {l : List Str}, strsOf ds = some l → ds = l.map D.str
  | [], l, e => by simp only [strsOf] at e; cases e; rfl
  | .str x :: ds, l, e => by
    simp only [strsOf] at e
    split at e
    · rename_i m em
      cases e
      rw [strsOf_eq em]; rfl
    · cases e
  | .non :: _, l, e | .bl _ :: _, l, e | .int _ :: _, l, e | .ty _ :: _, l, e | .ref _ :: _, l, e | .tup _ :: _, l, e | .lst _ :: _, l, e | .emp :: _, l, e | .exc _ _ _ _ _ :: _, l, e => by simp [strsOf] at e
def blsOf : List D → Option (List Bool)
  | [] => some []
  | .bl x :: ds => match blsOf ds with
    | some l => some (x :: l)
    | none => none
  | _ :: _ => none
theorem blsOf_eq : ∀ {ds : List D} {l : List Bool}, blsOf ds = some l → ds = l.map D.bl
  | [], l, e => by simp only [blsOf] at e; cases e; rfl
  | .bl x :: ds, l, e => by
    simp only [blsOf] at e
    split at e
    · rename_i m em
      cases e
      rw [blsOf_eq em]; rfl
    · cases e
  | .non :: _, l, e | .str _ :: _, l, e | .int _ :: _, l, e | .ty _ :: _, l, e | .ref _ :: _, l, e | .tup _ :: _, l, e | .lst _ :: _, l, e | .emp :: _, l, e | .exc _ _ _ _ _ :: _, l, e => by simp [blsOf] at e
theorem strsOf_map : ∀ l : List Str, strsOf (l.map D.str) = some l
  | [] => rfl
  | x :: l => by simp only [List.map_cons, strsOf, strsOf_map l]
theorem blsOf_map : ∀ l : List Bool, blsOf (l.map D.bl) = some l
  | [] => rfl
  | x :: l => by simp only [List.map_cons, blsOf, blsOf_map l]
/-- scalars -/
def D.flat : D → Option V
  | .non => some .non
  | .bl b => some (.bl b)
  | .int i => some (.int i)
  | .str x => some (.str x)
  | _ => none
def flats : List D → Option (List V)
  | [] => some []
  | d :: ds => match d.flat, flats ds with
    | some a, some b => some (a :: b)
    | _, _ => none
theorem D.flat_eq {H : Hp} {d : D} {u v : V} (e : d.flat = some u) (h : Dn H d v) : v = u ∧ flatV u = true := by
  cases d with
  | non => cases e; exact ⟨dn_non h, rfl⟩
  | bl b => cases e; exact ⟨dn_bl h, rfl⟩
  | int i => cases e; exact ⟨dn_int h, rfl⟩
  | str x => cases e; exact ⟨dn_str h, rfl⟩
  | _ => cases e
theorem flats_eq {H : Hp} : ∀ {ds : List D} {us vs : List V}, flats ds = some us → Dns H ds vs → vs = us ∧ us.all flatV = true
  | [], us, vs, e, h => by simp only [flats] at e; cases e; exact ⟨h.nil_inv, rfl⟩
  | d :: ds, us, vs, e, h => by
    simp only [flats] at e
    split at e
    · rename_i a b ea eb
      cases e
      obtain ⟨v, r, rfl, h1, h2⟩ := h.inv
      obtain ⟨e1, f1⟩ := D.flat_eq ea h1
      obtain ⟨e2, f2⟩ := flats_eq eb h2
      rw [e1, e2]
      exact ⟨rfl, by rw [List.all_cons, f1, f2]; rfl⟩
    · cases e

/-- a list: by value, or one that may change -/
def lsOf (d : D) (st : Sto) : Option (List D) := match d with
  | .lst ds => some ds
  | .ref a => match st.lookup a with
    | some (.lst ds) => some ds
    | _ => none
  | _ => none
theorem lsOf_rd {H : Hp} {st : Sto} {d : D} {v : V} {ds : List D} (hold : Hold H st) (h : Dn H d v) (e : lsOf d st = some ds) : ∃ a xs, v = .ref a ∧ Rd H a (.lst xs) ∧ Dns H ds xs := by
  cases d with
  | lst es =>
    cases e
    obtain ⟨a, o, xs, rfl, ha, r⟩ := dn_lst h
    exact ⟨a, xs, rfl, .inr ⟨o, ha⟩, r⟩
  | ref a =>
    have e : (match st.lookup a with | some (.lst ds) => some ds | _ => none) = some ds := e
    split at e
    · rename_i es l
      cases e
      obtain ⟨xs, ha, r⟩ := hold.at l
      exact ⟨a, xs, dn_ref h, .inl ha, r⟩
    · cases e
  | _ => cases e
theorem SqL.rd {K : PySem.W.Frag} {H : Hp} {a : Addr} {xs : List V} (h : Rd H a (.lst xs)) : SqL K H a xs := .inl h
omit [Tb] in
theorem lstR {X : Cx} {pins : List (Addr × Obj)} {σ : L2.St} {H : Hp} {s : Shared} {a : Addr} {xs : List V} (I : Inv X pins σ H s) (h : Rd H a (.lst xs)) : xs.length ≤ sizeLine ∧ ∃ (its : List Value) (n : Nat), Vals xs its ∧ xs.length = its.length ∧ s.heap.get? a = some { cls := .type "list", data := .seq its.toArray n } := by
  obtain ⟨z, its, n, r, e⟩ := h.ok I.hok
  exact ⟨z, its, n, r, r.length, e⟩
def pyS (d : D) (st : Sto) : Option PyData := match d with
  | .ref a => match st.lookup a with
    | some (.lst ds) => match D.pys ds with
      | some l => some (.list l)
      | none => none
    | _ => none
  | d => d.py
theorem pyS_dp {H : Hp} {K : PySem.W.Frag} {st : Sto} {d : D} {v : V} {p : PyData} (hold : Hold H st) (h : Dn H d v) (e : pyS d st = some p) : Dp K H v p := by
  cases d with
  | ref a =>
    have e : (match st.lookup a with | some (.lst ds) => (match D.pys ds with | some l => some (PyData.list l) | none => none) | _ => none) = some p := e
    split at e
    · rename_i es l
      split at e
      · rename_i m em
        cases e
        obtain ⟨xs, ha, r⟩ := hold.at l
        rw [dn_ref h]
        exact .lst (SqL.of ha) (D.pys_dp es m xs em r)
      · cases e
    · cases e
  | _ => exact D.py_dp _ _ _ e h
/-! ### operators -/
def gI2 (C : Int → Int → Prop) (f : Int → Int → D) : D → D → Sto → KD → Prop := fun dx dy st Kn => match dx, dy with
  | .int i, .int j => C i j ∧ Kn (f i j) st
  | _, _ => False
theorem opl_rI {C : Int → Int → Prop} {f : Int → Int → D} {g : Int → Int → V} (e : ∀ i j H, Dn H (f i j) (g i j)) : OpL (rI C g) (gI2 C f) := fun dx dy x y H st Kn Q h hold d1 d2 k => by
  unfold gI2 at h
  split at h
  · exact ⟨_, _, dn_int d1, dn_int d2, h.1, .inl (k _ _ _ _ h.2 (To.refl hold) (e _ _ _))⟩
  · exact h.elim
def gI20 (f : Int → Int → D) : D → D → Sto → KD → Prop := fun dx dy st Kn => match dx, dy with
  | .int i, .int j => Kn (f i j) st
  | _, _ => False
theorem opl_rI0 {f : Int → Int → D} {g : Int → Int → V} (e : ∀ i j H, Dn H (f i j) (g i j)) : OpL (rI0 g) (gI20 f) := fun dx dy x y H st Kn Q h hold d1 d2 k => by
  unfold gI20 at h
  split at h
  · exact ⟨_, _, dn_int d1, dn_int d2, .inl (k _ _ _ _ h (To.refl hold) (e _ _ _))⟩
  · exact h.elim
theorem opc_rI0 {f : Int → Int → D} {g : Int → Int → V} (e : ∀ i j H, Dn H (f i j) (g i j)) : OpC (rI0 g) (gI20 f) := fun dx dy x y H st Kn Q h hold d1 d2 k => by
  unfold gI20 at h
  split at h
  · exact ⟨_, _, dn_int d1, dn_int d2, k _ _ _ _ h (To.refl hold) (e _ _ _)⟩
  · exact h.elim
def gAdd : D → D → Sto → KD → Prop := fun dx dy st Kn => match dx, dy with
  | .int i, .int j => Kn (.int (i + j)) st
  | .str x, .str y => x.length + y.length ≤ sizeLine ∧ Kn (.str (x ++ y)) st
  | .tup xs, .tup ys => xs.length + ys.length ≤ sizeLine ∧ Kn (.tup (xs ++ ys)) st
  | dx, dy => match lsOf dx st, lsOf dy st with
    | some xs, some ys => xs.length + ys.length ≤ sizeLine ∧ Kn (.lst (xs ++ ys)) st
    | _, _ => False
abbrev gSub := gI20 fun i j => .int (i - j)
abbrev gFdiv := gI2 CDiv fun i j => .int (i / j)
abbrev gMod := gI2 (fun _ j => 0 < j) fun i j => .int (i % j)
abbrev gPow := gI2 CPow fun i j => .int (i ^ j.toNat)
abbrev gLt := gI20 fun i j => .bl (decide (i < j))
abbrev gLe := gI20 fun i j => .bl (decide (i ≤ j))
abbrev gGt := gI20 fun i j => .bl (decide (j < i))
abbrev gGe := gI20 fun i j => .bl (decide (j ≤ i))
def gMul : D → D → Sto → KD → Prop := fun dx dy st Kn => match dx, dy with
  | .int i, .int j => CMul i j ∧ Kn (.int (i * j)) st
  | .lst xs, .int k => (-(2 ^ 63) ≤ k ∧ k < 2 ^ 63 ∧ xs.length * k.toNat ≤ sizeLine) ∧ Kn (.lst (List.replicate k.toNat xs).flatten) st
  | _, _ => False
section
variable {X : Cx}
def rCatR : R2 := fun x y H Q => ∃ l b xs zs, x = .ref l ∧ y = .ref b ∧ Rd H l (.lst xs) ∧ Rd H b (.lst zs) ∧ xs.length + zs.length ≤ sizeLine ∧ ∀ p, H p = none → Q (.ref p) (upd H p (.lst (xs ++ zs)))
omit [Tb] in
theorem op_catR : OpR X (binaryOp .Add) rCatR := by
  intro pins s σ H x y v u Q I rx ry h
  obtain ⟨l, b, xs, zs, rfl, rfl, hH, hB, hz, q⟩ := h
  cases rx
  cases ry
  obtain ⟨z, its, n, r, hl, e⟩ := lstR I hH
  obtain ⟨z2, its2, n2, r2, hl2, e2⟩ := lstR I hB
  refine PySem.P.add_list e e2 ?_ (by rw [List.size_toArray, List.size_toArray]; omega)
  have ea : its.toArray ++ its2.toArray = (its ++ its2).toArray := by simp
  rw [ea]
  exact ⟨.ref _, _, I.lnew (t' := s.toks) (r.append r2) (by rw [List.length_append]; omega), rfl, q _ I.fresh⟩
abbrev rAddX (X : Cx) : R2 := fun x y H Q => (rI0 (fun i j => .int (i + j)) x y H Q) ∨ (∃ i j, x = .str i ∧ y = .str j ∧ i.length + j.length ≤ sizeLine ∧ Q (.str (i ++ j)) H) ∨ rCatR x y H Q ∨ rCatA X.K x y H Q
omit [Tb] in
theorem op_addX : OpR X (binaryOp .Add) (rAddX X) := op_add.or (op_add_str.or (op_catR.or op_catA))
theorem opl_add : OpL (rAddX X) gAdd := fun dx dy x y H st Kn Q h hold d1 d2 k => by
  unfold gAdd at h
  split at h
  · exact .inl ⟨_, _, dn_int d1, dn_int d2, .inl (k _ _ _ _ h (To.refl hold) mk_int)⟩
  · exact .inr (.inl ⟨_, _, dn_str d1, dn_str d2, h.1, .inl (k _ _ _ _ h.2 (To.refl hold) mk_str)⟩)
  · rename_i xs' ys'
    obtain ⟨a, xs, rfl, ha, r⟩ := dn_tup d1
    obtain ⟨b, ys, rfl, hb, s⟩ := dn_tup d2
    refine .inr (.inr (.inr ⟨a, b, xs, ys, rfl, rfl, SqT.of ha, SqT.of hb, by rw [r.length, s.length]; exact h.1, fun e => ?_, fun _ e => ?_, fun _ _ p hp => .inl (k _ _ _ _ h.2 (hold.laid hp) (hold.ntup hp (r.append s)))⟩))
    · have e' : xs' = [] := by have := r.length; rw [e] at this; cases xs' with | nil => rfl | cons _ _ => cases this
      rw [e', List.nil_append] at h
      exact .inl (k _ _ _ _ h.2 (To.refl hold) (mk_tup hb s))
    · have e' : ys' = [] := by have := s.length; rw [e] at this; cases ys' with | nil => rfl | cons _ _ => cases this
      rw [e', List.append_nil] at h
      exact .inl (k _ _ _ _ h.2 (To.refl hold) (mk_tup ha r))
  · split at h
    · rename_i e1 e2
      obtain ⟨a, xs, rfl, ha, r⟩ := lsOf_rd hold d1 e1
      obtain ⟨b, ys, rfl, hb, s⟩ := lsOf_rd hold d2 e2
      exact .inr (.inr (.inl ⟨a, b, xs, ys, rfl, rfl, ha, hb, by rw [r.length, s.length]; exact h.1, fun p hp => hold.nlst hp (r.append s) fun H' v t d => k _ _ _ _ h.2 t d⟩))
    · exact h.elim
def rRepR : R2 := fun x y H Q => ∃ l k xs, x = .ref l ∧ y = .int k ∧ Rd H l (.lst xs) ∧ -(2 ^ 63) ≤ k ∧ k < 2 ^ 63 ∧ xs.length * k.toNat ≤ sizeLine ∧
  ∀ p, H p = none → Q (.ref p) (upd H p (.lst (List.replicate k.toNat xs).flatten))
omit [Tb] in
theorem op_repR : OpR X (binaryOp .Mult) rRepR := by
  intro pins s σ H x y v u Q I rx ry h
  obtain ⟨l, k, xs, rfl, rfl, hH, h1, h2, hz, q⟩ := h
  cases rx
  obtain ⟨t, rfl⟩ := ry
  obtain ⟨z, its, n, r, hl, e⟩ := lstR I hH
  have hlen : its.toArray.size * k.toNat ≤ sizeLine := by rw [List.size_toArray, ← hl]; exact hz
  have hcap : ¬ its.toArray.size * k.toNat > (2 ^ 63 - 1) / 8 := by
    have : (sizeLine : Nat) ≤ (2 ^ 63 - 1) / 8 := by decide
    omega
  have hfit : ¬ (!Builtin.List.listFitsIndex k) = true := by
    rw [fitsIndex_both h1 h2]
    exact Bool.false_ne_true
  have hlong : ¬ Builtin.List.listTooLong (its.toArray.size * k.toNat) = true := by
    rw [notLongL hlen]
    exact Bool.false_ne_true
  have hnew : List.foldl (fun x1 x2 => x1 ++ x2) #[] (List.replicate (if its.toArray.isEmpty = true then 0 else k.toNat) its.toArray) = (List.replicate k.toNat its).flatten.toArray := by
    have f0 : ∀ m : Nat, List.foldl (fun x1 x2 => x1 ++ x2) #[] (List.replicate m its.toArray) = (List.replicate m its).flatten.toArray := fun m => by
      have := foldl_rep its m []
      rw [List.nil_append] at this
      exact this
    rw [f0]
    cases its with
    | nil => simp
    | cons a r' => rw [if_neg (by simp)]
  refine wpAny_binaryOp_repeat_ref (T := "list") (U := "int") (by decide) ⟨_, e, rfl⟩ (fun s' => typeIs_int s' k t) noFill_list_mul F.fills_int_mul F.slot_int_rmul repeat_list F.slot_int_index.lookup
    (call_meets F.slot_int_rmul (typeIs_int s k t) F.entry_int_rmul (F.args_int_rmul_2 _ _) (int___rmul___int_list k t l its.toArray n)
      ⟨e, rfl, ⟨_, e, rfl⟩, call_meets F.slot_list_mul ⟨_, e, rfl⟩ F.entry_list_mul (F.args_list_mul_2 _ _) (AutoListH.list___mul___list_int_3 l its.toArray n k t hfit hcap hlong) ⟨e, ?_⟩⟩)
  rw [hnew]
  exact ⟨.ref _, _, I.lnew (t' := s.toks) (r.rep k.toNat) (by rw [PyProof.Rows.lm_len_rep_flat, Nat.mul_comm]; exact hz), rfl, q _ I.fresh⟩
abbrev rMulX : R2 := fun x y H Q => rI CMul (fun i j => .int (i * j)) x y H Q ∨ rRepR x y H Q
omit [Tb] in
theorem op_mulXX : OpR X (binaryOp .Mult) rMulX := op_mul.or op_repR
theorem opl_mul : OpL rMulX gMul := fun dx dy x y H st Kn Q h hold d1 d2 k => by
  unfold gMul at h
  split at h
  · exact .inl ⟨_, _, dn_int d1, dn_int d2, h.1, .inl (k _ _ _ _ h.2 (To.refl hold) mk_int)⟩
  · obtain ⟨a, o, xs, rfl, ha, r⟩ := dn_lst d1
    exact .inr ⟨a, _, xs, rfl, dn_int d2, .inr ⟨o, ha⟩, h.1.1, h.1.2.1, by rw [r.length]; exact h.1.2.2, fun p hp => hold.nlst hp (r.rep _) fun H' v t d => k _ _ _ _ h.2 t d⟩
  · exact h.elim
/-! comparisons -/
def gEqD : D → D → Sto → KD → Prop := fun dx dy st Kn => match pyS dx st, pyS dy st with
  | some p, some q => (SeqAt.shaped p = true ∧ SeqAt.shaped q = true) ∧ Kn (.bl (PyData.eqv p q)) st
  | _, _ => False
def gNeD : D → D → Sto → KD → Prop := fun dx dy st Kn => match pyS dx st, pyS dy st with
  | some p, some q => (SeqAt.shaped p = true ∧ SeqAt.shaped q = true) ∧ Kn (.bl (!PyData.eqv p q)) st
  | _, _ => False
def gEq : D → D → Sto → KD → Prop := fun dx dy st Kn => match dx, dy with
  | .str x, .str y => Kn (.bl (x == y)) st
  | dx, dy => gEqD dx dy st Kn
def gNe : D → D → Sto → KD → Prop := fun dx dy st Kn => match dx, dy with
  | .str x, .str y => Kn (.bl (!(x == y))) st
  | dx, dy => gNeD dx dy st Kn
abbrev rEqX (K : PySem.W.Frag) : R2 := fun x y H Q => rEq x y H Q ∨ rEqD K x y H Q
abbrev rNeX (K : PySem.W.Frag) : R2 := fun x y H Q => rNe x y H Q ∨ rNeD K x y H Q
section
omit [Tb]
theorem op_eqX {X : Cx} (hu : X.A.units + 64 < cLine) : OpR X (compareOp .Eq) (rEqX X.K) := op_eq.or (op_eqD hu)
theorem op_neX {X : Cx} (hu : X.A.units + 64 < cLine) : OpR X (compareOp .NotEq) (rNeX X.K) := op_ne.or (op_neD hu)
end
theorem opl_eq {K : PySem.W.Frag} : OpC (rEqX K) gEq := fun dx dy x y H st Kn Q h hold d1 d2 k => by
  unfold gEq at h
  split at h
  · rw [dn_str d1, dn_str d2]
    exact .inl ⟨rfl, by rw [dec_str]; exact k _ _ _ _ h (To.refl hold) mk_bl⟩
  · unfold gEqD at h
    split at h
    · rename_i p q e1 e2
      exact .inr ⟨p, q, pyS_dp hold d1 e1, pyS_dp hold d2 e2, h.1.1, h.1.2, k _ _ _ _ h.2 (To.refl hold) mk_bl⟩
    · exact h.elim
theorem opl_ne {K : PySem.W.Frag} : OpC (rNeX K) gNe := fun dx dy x y H st Kn Q h hold d1 d2 k => by
  unfold gNe at h
  split at h
  · rw [dn_str d1, dn_str d2]
    exact .inl ⟨rfl, by rw [dec_str]; exact k _ _ _ _ h (To.refl hold) mk_bl⟩
  · unfold gNeD at h
    split at h
    · rename_i p q e1 e2
      exact .inr ⟨p, q, pyS_dp hold d1 e1, pyS_dp hold d2 e2, h.1.1, h.1.2, k _ _ _ _ h.2 (To.refl hold) mk_bl⟩
    · exact h.elim
def D.isNon : D → Bool
  | .non => true
  | _ => false
theorem D.isNon_eq {H : Hp} {d : D} {v : V} (h : Dn H d v) : decide (v = V.non) = d.isNon := by
  cases d with
  | non => rw [dn_non h]; rfl
  | bl b => rw [dn_bl h]; rfl
  | int i => rw [dn_int h]; rfl
  | str x => rw [dn_str h]; rfl
  | ty n => rw [dn_ty h]; rfl
  | ref a => rw [dn_ref h]; rfl
  | tup ds => obtain ⟨a, xs, rfl, _⟩ := dn_tup h; rfl
  | lst ds => obtain ⟨a, o, xs, rfl, _⟩ := dn_lst h; rfl
  | emp => simp only [Dn] at h; obtain ⟨a, o, rfl, _⟩ := h; rfl
  | exc a C dd ks ds => simp only [Dn] at h; rw [h.1]; rfl
def gIsN : D → D → Sto → KD → Prop := fun dx dy st Kn => match dy with
  | .non => Kn (.bl dx.isNon) st
  | _ => False
def gNotN : D → D → Sto → KD → Prop := fun dx dy st Kn => match dy with
  | .non => Kn (.bl (!dx.isNon)) st
  | _ => False
theorem opl_isN : OpC (fun x y H Q => y = .non ∧ Q (.bl (decide (x = .non))) H) gIsN := fun dx dy x y H st Kn Q h hold d1 d2 k => by
  unfold gIsN at h
  split at h
  · exact ⟨dn_non d2, by rw [D.isNon_eq d1]; exact k _ _ _ _ h (To.refl hold) mk_bl⟩
  · exact h.elim
theorem opl_notN : OpC (fun x y H Q => y = .non ∧ Q (.bl (!decide (x = .non))) H) gNotN := fun dx dy x y H st Kn Q h hold d1 d2 k => by
  unfold gNotN at h
  split at h
  · exact ⟨dn_non d2, by rw [D.isNon_eq d1]; exact k _ _ _ _ h (To.refl hold) mk_bl⟩
  · exact h.elim
def gIn (neg : Bool) : D → D → Sto → KD → Prop := fun dx dy st Kn => match dy with
  | .tup ds => match dx.flat, flats ds with
    | some u, some us => Kn (.bl (if neg then !inV u us else inV u us)) st
    | _, _ => False
  | dy => match lsOf dy st with
    | some ds => match dx.flat, flats ds with
      | some u, some us => Kn (.bl (if neg then !inV u us else inV u us)) st
      | _, _ => False
    | none => False
theorem opl_in {K : PySem.W.Frag} {neg : Bool} : OpC (rIn K neg) (gIn neg) := fun dx dy x y H st Kn Q h hold d1 d2 k => by
  unfold gIn at h
  split at h
  · obtain ⟨a, xs, rfl, ha, r⟩ := dn_tup d2
    split at h
    · rename_i u us e1 e2
      obtain ⟨rfl, f1⟩ := D.flat_eq e1 d1
      obtain ⟨rfl, f2⟩ := flats_eq e2 r
      exact ⟨a, _, rfl, .inr (SqT.of ha), f1, f2, k _ _ _ _ h (To.refl hold) mk_bl⟩
    · exact h.elim
  · split at h
    · rename_i ds el
      obtain ⟨a, xs, rfl, ha, r⟩ := lsOf_rd hold d2 el
      split at h
      · rename_i u us e1 e2
        obtain ⟨rfl, f1⟩ := D.flat_eq e1 d1
        obtain ⟨rfl, f2⟩ := flats_eq e2 r
        exact ⟨a, _, rfl, .inl (SqL.rd ha), f1, f2, k _ _ _ _ h (To.refl hold) mk_bl⟩
      · exact h.elim
    · exact h.elim
/-! items -/
def gIx : D → D → Sto → KD → Prop := fun dx dy st Kn => match dx, dy with
  | .tup ds, .int i => match atI ds i with
    | some d => Kn d st
    | none => False
  | .str z, .int i => z.length ≤ sizeLine ∧ match atI z.cps.toList i with
    | some c => Kn (.str ⟨#[c]⟩) st
    | none => False
  | dx, .int i => match lsOf dx st with
    | some ds => match atI ds i with
      | some d => Kn d st
      | none => False
    | none => False
  | _, _ => False
theorem Dns.atI {H : Hp} {ds : List D} {vs : List V} {i : Int} {d : D} (h : Dns H ds vs) (e : L2.atI ds i = some d) : ∃ v, L2.atI vs i = some v ∧ Dn H d v := by
  unfold L2.atI at e ⊢
  rw [h.length]
  cases q : ixN ds.length i with
  | none => rw [q] at e; cases e
  | some j =>
    rw [q] at e
    exact h.get (i := j) e
theorem atI_map {α β : Type} {f : α → β} {xs : List α} {i : Int} {a : α} (e : L2.atI xs i = some a) : L2.atI (xs.map f) i = some (f a) := by
  unfold L2.atI at e ⊢
  rw [List.length_map]
  cases q : ixN xs.length i with
  | none => rw [q] at e; cases e
  | some j =>
    rw [q] at e
    have e : xs[j]? = some a := e
    show (xs.map f)[j]? = _
    rw [List.getElem?_map, e]; rfl
theorem opl_ix {K : PySem.W.Frag} : OpL (rIx K) gIx := fun dx dy x y H st Kn Q h hold d1 d2 k => by
  unfold gIx at h
  split at h
  · obtain ⟨a, xs, rfl, ha, r⟩ := dn_tup d1
    split at h
    · rename_i d e
      obtain ⟨v, e2, dv⟩ := r.atI e
      exact .inr (.inl ⟨a, xs, _, v, rfl, dn_int d2, SqT.of ha, e2, .inl (k _ _ _ _ h (To.refl hold) dv)⟩)
    · exact h.elim
  · obtain ⟨hz, h⟩ := h
    split at h
    · rename_i c e
      exact .inr (.inr ⟨_, _, c, dn_str d1, dn_int d2, hz, e, .inl (k _ _ _ _ h (To.refl hold) mk_str)⟩)
    · exact h.elim
  · split at h
    · rename_i ds el
      obtain ⟨a, xs, rfl, ha, r⟩ := lsOf_rd hold d1 el
      split at h
      · rename_i d e
        obtain ⟨v, e2, dv⟩ := r.atI e
        exact .inl ⟨a, xs, _, v, rfl, dn_int d2, SqL.rd ha, e2, .inl (k _ _ _ _ h (To.refl hold) dv)⟩
      · exact h.elim
    · exact h.elim
  · exact h.elim
/-! o[i] = v in a list that changes -/
def gSetL : D → D → D → Sto → (Sto → Prop) → Prop := fun dO dI dV st Kn => match dO, dI with
  | .ref a, .int k => match st.lookup a with
    | some (.lst ds) => match ixN ds.length k with
      | some j => Kn (st.put a (.lst (ds.set j dV)))
      | none => False
    | _ => False
  | _, _ => False
theorem setl_list : SetL rSetL gSetL := fun dO dI dV o i v H st Kn Q h hold d1 d2 d3 k => by
  unfold gSetL at h
  split at h
  · rename_i a kk
    split at h
    · rename_i ds l
      obtain ⟨xs, hp, r⟩ := hold.at l
      split at h
      · rename_i j e
        have tw := hold.write (o := .lst (xs.set j v)) (on_of l) (c := .lst (ds.set j dV)) ⟨_, upd_same, Dns.ext (ext_write hp trivial) _ _ (r.set j d3)⟩
        exact ⟨a, xs, kk, j, dn_ref d1, dn_int d2, hp, by rw [r.length]; exact e, k _ _ h tw⟩
      · exact h.elim
    · exact h.elim
  · exact h.elim
end
end DL

namespace DL
open PySem PySem.Spec PyProof.Rows L2
variable [Tb]
section
variable {X : Cx} {W : WX} {e o : Expr} {es : List Expr} {pos : Pos} {we wo : WE} {ws : WA}
/-! ### slices -/
abbrev WO := DEnv → Sto → (Option Int → Sto → Prop) → KX → Prop
def lfO (W : WX) (w : WO) : TO := fun σ H Q => ∃ (env : DEnv) (st : Sto) (Kn : Option Int → Sto → Prop) (Kx : KX), Hold H st ∧ EnvR H env σ ∧ w env st Kn Kx ∧
  (∀ d st' H', Kn d st' → To H st H' st' → Q d H') ∧ (∀ x st' cls dd H', Kx x st' → To H st H' st' → XRel H' x cls dd → W cls dd σ H')
abbrev PDO (X : Cx) (W : WX) (e : Option Expr) (w : WO) : Prop := PO X e (lfO W w)
theorem PO.imp {e : Option Expr} {t t' : TO} (h : PO X e t) (i : ∀ σ H Q, t' σ H Q → t σ H Q) : PO X e t' := by
  cases h with
  | mk h => exact ⟨by intros; first | (apply h <;> first | assumption | (apply i; assumption)) | skip⟩
def wNoPart : WO := fun _ st Kn _ => Kn none st
def wPart (w : WE) : WO := fun env st Kn Kx => w env st (fun d st' => match d with
  | .int i => Kn (some i) st'
  | _ => False) Kx
theorem pdo_none : PDO X W none wNoPart := PO.imp po_none fun σ H Q ⟨env, st, Kn, Kx, hold, er, hw, hn, hx⟩ => hn _ _ _ hw (To.refl hold)
theorem pdo_some (h : PD X W e we) : PDO X W (some e) (wPart we) := PO.imp (po_some h) fun σ H Q ⟨env, st, Kn, Kx, hold, er, hw, hn, hx⟩ => ⟨env, st, _, Kx, hold, er, hw, fun d st' v H' k t dn => by
  split at k
  · exact ⟨_, dn_int dn, hn _ _ _ k t⟩
  · exact k.elim, hx⟩
def cutD {α : Type} (xs : List α) (lo hi : Option Int) : List α := (xs.drop (HT.sIx xs.length 0 lo)).take (HT.sIx xs.length xs.length hi - HT.sIx xs.length 0 lo)
theorem Dns.cut {H : Hp} {ds : List D} {vs : List V} (h : Dns H ds vs) (lo hi : Option Int) : Dns H (cutD ds lo hi) (cutV vs lo hi) := by
  unfold cutD cutV
  rw [h.length]
  exact (h.drop _).take _
theorem cut_map {α β : Type} (f : α → β) (xs : List α) (lo hi : Option Int) : cutD (xs.map f) lo hi = (cutD xs lo hi).map f := by
  unfold cutD
  rw [List.length_map, List.map_take, List.map_drop]
def gSl : D → Option Int → Option Int → Sto → KD → Prop := fun dx lo hi st Kn => match dx with
  | .tup ds => Kn (.tup (cutD ds lo hi)) st
  | dx => match lsOf dx st with
    | some ds => Kn (.lst (cutD ds lo hi)) st
    | none => False
abbrev rSlX (X : Cx) : V → Option Int → Option Int → Hp → VK → Prop := fun x lo hi H Q => rSlL X.K x lo hi H Q ∨ rSlA X.K x lo hi H Q
theorem cutD_all {α : Type} {xs : List α} {lo hi : Option Int} (h : HT.sIx xs.length 0 lo = 0 ∧ HT.sIx xs.length xs.length hi = xs.length) : cutD xs lo hi = xs := by
  unfold cutD
  rw [h.1, h.2]; simp
def wSl (w : WE) (wl wh : WO) : WE := fun env st Kn Kx => w env st (fun d st1 => wl env st1 (fun lo st2 => wh env st2 (fun hi st3 => gSl d lo hi st3 Kn) Kx) Kx) Kx
theorem pd_slice {lo hi : Option Expr} {wl wh : WO} {p2 : Pos} (he : PD X W e we) (hl : PDO X W lo wl) (hh : PDO X W hi wh) : PD X W (.Subscript e (.Slice lo hi none p2) pos) (wSl we wl wh) :=
  PE.imp (PE.fo <| pe_slice (sl_list.or sl_tupA) he hl hh) fun σ H Q ⟨env, st, Kn, Kx, hold, er, hw, hn, hx⟩ => ⟨env, st, _, Kx, hold, er, hw, fun d st1 v H1 k1 t1 d1 =>
    ⟨env, st1, _, Kx, t1.hold, er.le t1, k1, fun lo st2 H2 k2 t2 => ⟨env, st2, _, Kx, t2.hold, er.le (t1.trans t2), k2, fun hi st3 H3 k3 t3 => by
      have t := (t1.trans t2).trans t3
      have d3 := (t2.trans t3).dn d1
      unfold gSl at k3
      split at k3
      · rename_i ds
        obtain ⟨a, xs, rfl, ha, r⟩ := dn_tup d3
        refine .inr ⟨a, xs, rfl, SqT.of ha, fun hw => ?_, fun _ p hp => .inl (hn _ _ _ _ k3 (t.trans (t3.hold.laid hp)) (t3.hold.ntup hp (r.cut _ _)))⟩
        rw [r.length] at hw
        have k4 := hn _ _ (.ref a) H3 k3 t (by rw [cutD_all hw]; exact mk_tup ha r)
        exact .inl k4
      · split at k3
        · rename_i ds el
          obtain ⟨a, xs, rfl, ha, r⟩ := lsOf_rd t3.hold d3 el
          exact .inl ⟨a, xs, rfl, SqL.rd ha, fun p hp => t3.hold.nlst hp (r.cut _ _) fun H' v t4 d4 => hn _ _ _ _ k3 (t.trans t4) d4⟩
        · exact k3.elim
      , fun _ _ _ _ _ k2 t2' xr => hx _ _ _ _ _ k2 ((t1.trans t2).trans t2') xr⟩, fun _ _ _ _ _ k2 t2 xr => hx _ _ _ _ _ k2 (t1.trans t2) xr⟩, hx⟩
/-! ### built-ins -/
def gLen : List D → Sto → KD → Prop := fun ds st Kn => match ds with
  | [.tup xs] => Kn (.int xs.length) st
  | [.str x] => x.length ≤ sizeLine ∧ Kn (.int x.length) st
  | [d] => match lsOf d st with
    | some xs => Kn (.int xs.length) st
    | none => False
  | _ => False
theorem calll_len : CallL (fun xs H Q => ∃ x n, xs = [x] ∧ LenV X.K x H n ∧ Q (.int n) H) gLen := fun ds vs H st Kn Q h hold dn k => by
  unfold gLen at h
  split at h
  · obtain ⟨v, r, rfl, d1, dn⟩ := dn.inv
    cases dn.nil_inv
    obtain ⟨a, xs, rfl, ha, r⟩ := dn_tup d1
    exact ⟨_, _, rfl, .inr ⟨xs, SqT.of ha, r.length.symm⟩, .inl (k _ _ _ _ h (To.refl hold) mk_int)⟩
  · obtain ⟨v, r, rfl, d1, dn⟩ := dn.inv
    cases dn.nil_inv
    rw [dn_str d1]
    exact ⟨_, _, rfl, ⟨h.1, rfl⟩, .inl (k _ _ _ _ h.2 (To.refl hold) mk_int)⟩
  · obtain ⟨v, r, rfl, d1, dn⟩ := dn.inv
    cases dn.nil_inv
    split at h
    · rename_i ds el
      obtain ⟨a, xs, rfl, ha, r⟩ := lsOf_rd hold d1 el
      exact ⟨_, _, rfl, .inl ⟨xs, SqL.rd ha, r.length.symm⟩, .inl (k _ _ _ _ h (To.refl hold) mk_int)⟩
    · exact h.elim
  · exact h.elim
/-- one int in -/
def g1I (C : Int → Prop) (f : Int → D) : List D → Sto → KD → Prop := fun ds st Kn => match ds with
  | [.int i] => C i ∧ Kn (f i) st
  | _ => False
def gInt : List D → Sto → KD → Prop := fun ds st Kn => match ds with
  | [.int i] => Kn (.int i) st
  | [.bl b] => Kn (.int (if b then 1 else 0)) st
  | _ => False
theorem calll_int : CallL (fun xs H Q => (∃ i, xs = [.int i] ∧ Q (.int i) H) ∨ ∃ k, xs = [.bl k] ∧ Q (.int (if k then 1 else 0)) H) gInt := fun ds vs H st Kn Q h hold dn k => by
  unfold gInt at h
  split at h
  · obtain ⟨v, r, rfl, d1, dn⟩ := dn.inv
    cases dn.nil_inv
    exact .inl ⟨_, by rw [dn_int d1], .inl (k _ _ _ _ h (To.refl hold) mk_int)⟩
  · obtain ⟨v, r, rfl, d1, dn⟩ := dn.inv
    cases dn.nil_inv
    exact .inr ⟨_, by rw [dn_bl d1], .inl (k _ _ _ _ h (To.refl hold) mk_int)⟩
  · exact h.elim
theorem calll_str : CallL (fun xs H Q => ∃ i : Int, xs = [.int i] ∧ i.natAbs.log2 < 1920 ∧ Q (.str (toString i)) H) (g1I (fun i => i.natAbs.log2 < 1920) fun i => .str (toString i)) := fun ds vs H st Kn Q h hold dn k => by
  unfold g1I at h
  split at h
  · obtain ⟨v, r, rfl, d1, dn⟩ := dn.inv
    cases dn.nil_inv
    exact ⟨_, by rw [dn_int d1], h.1, .inl (k _ _ _ _ h.2 (To.refl hold) mk_str)⟩
  · exact h.elim
theorem calll_abs : CallL (fun xs H Q => ∃ i : Int, xs = [.int i] ∧ Q (.int (if i < 0 then -i else i)) H) (g1I (fun _ => True) fun i => .int (if i < 0 then -i else i)) := fun ds vs H st Kn Q h hold dn k => by
  unfold g1I at h
  split at h
  · obtain ⟨v, r, rfl, d1, dn⟩ := dn.inv
    cases dn.nil_inv
    exact ⟨_, by rw [dn_int d1], .inl (k _ _ _ _ h.2 (To.refl hold) mk_int)⟩
  · exact h.elim
def g2I (f : Int → Int → D) : List D → Sto → KD → Prop := fun ds st Kn => match ds with
  | [.int i, .int j] => Kn (f i j) st
  | _ => False
theorem calll_2I {f : Int → Int → D} {g : Int → Int → V} (e : ∀ i j H, Dn H (f i j) (g i j)) : CallL (fun xs H Q => ∃ i j, xs = [.int i, .int j] ∧ Q (g i j) H) (g2I f) := fun ds vs H st Kn Q h hold dn k => by
  unfold g2I at h
  split at h
  · obtain ⟨v, r, rfl, d1, dn⟩ := dn.inv
    obtain ⟨v, r, rfl, d2, dn⟩ := dn.inv
    cases dn.nil_inv
    exact ⟨_, _, by rw [dn_int d1, dn_int d2], .inl (k _ _ _ _ h (To.refl hold) (e _ _ _))⟩
  · exact h.elim
abbrev gMax2 := g2I fun i j => .int (if j > i then j else i)
abbrev gMin2 := g2I fun i j => .int (if j < i then j else i)
def gDivmod : List D → Sto → KD → Prop := fun ds st Kn => match ds with
  | [.int i, .int j] => CDiv i j ∧ Kn (.tup [.int (i / j), .int (i % j)]) st
  | _ => False
theorem calll_divmod : CallL (fun xs H Q => ∃ i j, xs = [.int i, .int j] ∧ CDiv i j ∧ ∀ p, H p = none → Q (.ref p) (upd H p (.tup [.int (i / j), .int (i % j)]))) gDivmod := fun ds vs H st Kn Q h hold dn k => by
  unfold gDivmod at h
  split at h
  · obtain ⟨v, r, rfl, d1, dn⟩ := dn.inv
    obtain ⟨v, r, rfl, d2, dn⟩ := dn.inv
    cases dn.nil_inv
    exact ⟨_, _, by rw [dn_int d1, dn_int d2], h.1, fun p hp => .inl (k _ _ _ _ h.2 (hold.laid hp) (hold.ntup hp (.cons mk_int (.cons mk_int .nil))))⟩
  · exact h.elim
def gTupOf : List D → Sto → KD → Prop := fun ds st Kn => match ds with
  | [.tup xs] => Kn (.tup xs) st
  | [d] => match lsOf d st with
    | some xs => Kn (.tup xs) st
    | none => False
  | _ => False
theorem calll_tupOf : CallL (fun xs H Q => ∃ p ys, xs = [.ref p] ∧ ((SqL X.K H p ys ∧ ∀ l, H l = none → Q (.ref l) (upd H l (.tup ys))) ∨ (SqT X.K H p ys ∧ Q (.ref p) H))) gTupOf := fun ds vs H st Kn Q h hold dn k => by
  unfold gTupOf at h
  split at h
  · obtain ⟨v, r, rfl, d1, dn⟩ := dn.inv
    cases dn.nil_inv
    obtain ⟨a, xs, rfl, ha, r⟩ := dn_tup d1
    exact ⟨a, xs, rfl, .inr ⟨SqT.of ha, .inl (k _ _ _ _ h (To.refl hold) (mk_tup ha r))⟩⟩
  · obtain ⟨v, r, rfl, d1, dn⟩ := dn.inv
    cases dn.nil_inv
    split at h
    · rename_i xs el
      obtain ⟨a, vs, rfl, ha, r⟩ := lsOf_rd hold d1 el
      exact ⟨a, vs, rfl, .inl ⟨SqL.rd ha, fun p hp => .inl (k _ _ _ _ h (hold.laid hp) (hold.ntup hp r))⟩⟩
    · exact h.elim
  · exact h.elim
def gAll (f : List Bool → Bool) : List D → Sto → KD → Prop := fun ds st Kn => match ds with
  | [d] => match lsOf d st with
    | some xs => match blsOf xs with
      | some bs => Kn (.bl (f bs)) st
      | none => False
    | none => False
  | _ => False
theorem calll_all : CallL (rAll X.K) (gAll fun bs => bs.all id) := fun ds vs H st Kn Q h hold dn k => by
  unfold gAll at h
  split at h
  · obtain ⟨v, r, rfl, d1, dn⟩ := dn.inv
    cases dn.nil_inv
    split at h
    · rename_i xs el
      obtain ⟨a, us, rfl, ha, r⟩ := lsOf_rd hold d1 el
      split at h
      · rename_i bs e
        rw [blsOf_eq e] at r
        have e2 := r.bls_inv
        subst e2
        exact ⟨a, bs, rfl, SqL.rd ha, .inl (k _ _ _ _ h (To.refl hold) mk_bl)⟩
      · exact h.elim
    · exact h.elim
  · exact h.elim
/-! isinstance -/
/-- what K says of an own class whose instances are asked after -/
structure InsTy (K : PySem.W.Frag) (C : Addr) : Prop where
  cl : Cls K C
  ha : PySem.W.findIn K (.ref C) "__class__" = some (some (.builtin "object.__class__"))
  hn : PySem.W.specialIn K (.builtin "object.__class__") "__get__" = some (some (.builtin "getset_descriptor.__get__"))
  tk : PySem.W.takesIn K (.builtin "object.__class__") = some true
  mr : PySem.W.mroIn K C (.type "object") = some true
def TyD (K : PySem.W.Frag) (st : Sto) : D → Value → Prop
  | .non, t => t = .type "NoneType"
  | .bl _, t => t = .type "bool"
  | .int _, t => t = .type "int"
  | .str _, t => t = .type "str"
  | .tup _, t => t = .type "tuple"
  | .lst _, t => t = .type "list"
  | .emp, t => t = .type "dict"
  | .exc _ _ _ _ _, _ => False
  | .ty _, _ => False
  | .ref a, t => match st.lookup a with
    | some (.lst _) => t = .type "list"
    | some (.dT _ _) => t = .type "dict"
    | some (.dK _ _) => t = .type "dict"
    | some (.ins C _) => t = .ref C ∧ InsTy K C
    | none => False
theorem tyD_x {H : Hp} {st : Sto} {d : D} {v : V} {t : Value} (hold : Hold H st) (dn : Dn H d v) (h : TyD X.K st d t) : TyX X.K H v t := by
  cases d with
  | non => rw [dn_non dn, show t = _ from h]; exact .base .non
  | bl b => rw [dn_bl dn, show t = _ from h]; exact .base (.bl b)
  | int i => rw [dn_int dn, show t = _ from h]; exact .base (.int i)
  | str x => rw [dn_str dn, show t = _ from h]; exact .base (.str x)
  | tup ds => obtain ⟨a, xs, rfl, ha, _⟩ := dn_tup dn; rw [show t = _ from h]; exact .base (.tup ha)
  | lst ds => obtain ⟨a, o, xs, rfl, ha, _⟩ := dn_lst dn; rw [show t = _ from h]; exact .base (.frz ha)
  | emp => simp only [Dn] at dn; obtain ⟨a, o, rfl, ha⟩ := dn; rw [show t = _ from h]; exact .fDict ha
  | exc _ _ _ _ _ => exact (show False from h).elim
  | ty n => exact (show False from h).elim
  | ref a =>
    rw [dn_ref dn]
    have h : (match st.lookup a with
      | some (.lst _) => t = .type "list"
      | some (.dT _ _) => t = .type "dict"
      | some (.dK _ _) => t = .type "dict"
      | some (.ins C _) => t = .ref C ∧ InsTy X.K C
      | none => False) := h
    split at h
    · rename_i ds l
      obtain ⟨xs, hp, _⟩ := hold.at l
      rw [h]; exact .base (.lst hp)
    · rename_i ks ds l
      obtain ⟨xs, hp, _⟩ := hold.at l
      rw [h]; exact .base (.dT hp)
    · rename_i ks ds l
      obtain ⟨xs, hp, _⟩ := hold.at l
      rw [h]; exact .base (.dK hp)
    · rename_i C fs l
      obtain ⟨dx, vs, hp, _⟩ := hold.at l
      obtain ⟨rfl, T⟩ := h
      exact .base (.ins hp T.cl T.ha T.hn T.tk T.mr)
    · exact h.elim
def ClsD : D → Value → Prop
  | .ty n, u => u = .type n
  | .ref C, u => u = .ref C
  | _, _ => False
def gIsi (K : PySem.W.Frag) : List D → Sto → KD → Prop := fun ds st Kn => match ds with
  | [x, c] => ∃ (t u : Value) (b : Bool), TyD K st x t ∧ ClsD c u ∧ PySem.W.kitOne K t u = some b ∧ Kn (.bl b) st
  | _ => False
theorem calll_isi : CallL (rIsi X.K) (gIsi X.K) := fun ds vs H st Kn Q h hold dn k => by
  unfold gIsi at h
  split at h
  · rename_i x c
    obtain ⟨v1, r, rfl, d1, dn⟩ := dn.inv
    obtain ⟨v2, r, rfl, d2, dn⟩ := dn.inv
    cases dn.nil_inv
    obtain ⟨t, u, b, ht, hc, hk, h⟩ := h
    refine ⟨v1, v2, t, u, b, rfl, ?_, tyD_x hold d1 ht, hk, .inl (k _ _ _ _ h (To.refl hold) mk_bl)⟩
    cases c with
    | ty n => rw [dn_ty d2, show u = _ from hc]; exact .ty n
    | ref a => rw [dn_ref d2, show u = _ from hc]; exact .own a
    | _ => exact (show False from hc).elim
  · exact h.elim
/-! ### methods of built-in types -/
def gJoin : D → D → Sto → KD → Prop := fun dx dy st Kn => match dx with
  | .str a => match lsOf dy st with
    | some ds => match strsOf ds with
      | some ys => (ys.map (·.length)).sum + ys.length * a.length ≤ 16777216 ∧ Kn (.str (Txt.join a ys)) st
      | none => False
    | none => False
  | _ => False
def wJoin (wo we : WE) : WE := fun env st Kn Kx => wo env st (fun d st1 => (∃ a, d = .str a) ∧ we env st1 (fun y st2 => gJoin d y st2 Kn) Kx) Kx
theorem pd_join {apos : Pos} (ho : PD X W o wo) (he : PD X W e we) (hs : starEach [e] X.env = [(false, eval e X.env)] := by rfl) (hbase : attributeBase o "join" X.env (eval o X.env) = eval o X.env := by rfl) (hline : (apos.endLine == pos.line) = true := by rfl) :
    PD X W (.Call (.Attribute o "join" apos) [e] [] pos) (wJoin wo we) :=
  PE.imp (pe_join ho he hs hbase hline) fun σ H Q ⟨env, st, Kn, Kx, hold, er, hw, hn, hx⟩ => ⟨env, st, _, Kx, hold, er, hw, fun d st1 v H1 k1 t1 d1 => by
    obtain ⟨⟨a, rfl⟩, k1⟩ := k1
    refine ⟨⟨a, dn_str d1⟩, env, st1, _, Kx, t1.hold, er.le t1, k1, fun y st2 u H2 k2 t2 d2 => ?_, fun _ _ _ _ _ k2 t2 xr => hx _ _ _ _ _ k2 (t1.trans t2) xr⟩
    have k2 : (match lsOf y st2 with
      | some ds => match strsOf ds with
        | some ys => (ys.map (·.length)).sum + ys.length * a.length ≤ 16777216 ∧ Kn (.str (Txt.join a ys)) st2
        | none => False
      | none => False) := k2
    split at k2
    · rename_i ds el
      obtain ⟨p, xs, rfl, hp, r⟩ := lsOf_rd t2.hold d2 el
      split at k2
      · rename_i ys ey
        rw [strsOf_eq ey] at r
        have e2 := r.strs_inv
        subst e2
        exact ⟨_, p, ys, dn_str d1, rfl, .inl (SqL.rd hp), k2.1, hn _ _ _ _ k2.2 (t1.trans t2) mk_str⟩
      · exact k2.elim
    · exact k2.elim, hx⟩
end
end DL

/-! set(list of ints), sorted(set(list of ints)); the walk of the call is that of the library's set(tuple), turned to lists -/
namespace L2
open PySem PySem.Spec PyProof.Rows Calls
/-- a set just made -/
abbrev nob (w : World) : Obj := { cls := .type "set", dict := none, data := .set #[] 0 (.fresh 0 0 (!w.params.followText "set-order")) }
section
variable {P : Program} {w : World} {A : Around} {E : Value → Shared → Prop} {s : Shared}
theorem set_listI {l : Addr} {items : Array Value} (ns : List Int) {Q : Value → Shared → Prop} (hh : A.handled = none) (hl : s.heap.IsList l items) (hit : IntsAre items.toList ns) (hb : ns.length + 1 < scanBound)
    (h : ∀ (h' : Heap) (tk c : Nat), SetR w h' s.heap.objs.size (fun j => decide (j ∈ ns)) c → c ≤ ns.length → (∀ b o, s.heap.get? b = some o → h'.get? b = some o) → Q (.ref s.heap.objs.size) { s with heap := h', toks := tk }) :
    wpAny (model P w) A (call (.type "set") [.ref l]) Q E s := by
  have qj : items.size = ns.length := by
    have q := IntsAre.length hit
    rw [Array.length_toList] at q
    exact q
  obtain ⟨c, tl, qi⟩ := F.called_set.mro
  have qg := F.called_set.made
  have qh := F.called_set.sub
  refine wpAny_call (codeAny_of_tree ?_)
  show wpAny _ _ (callAny (.type "set") _) _ _ _
  refine wpAny_pure ⟨Code.quiet_builtin _ (by decide +kernel), codeAny_builtin F.entry_type_call ?_⟩
  rw [Around.under_plain (weight_type_call_type "set" [.ref l] []) rfl]
  have h1 := F.called_set.notType
  have h2 := F.called_set.canCreate
  have qs := F.typeCall_set_1 (.ref l)
  repeat (any_goals (first | assumption | wp_step))

  refine codeAny_mono (code_set_led1 (.ref l) (E := E) (Q₁ := fun obj s₁ => obj = .ref s.heap.objs.size ∧ s₁ = { s with heap := s.heap.push (nob w) }) ⟨rfl, rfl⟩) fun r s₁ hr => ?_
  cases r with
  | error e => exact hr
  | ok fl =>
    cases fl with
    | ret obj =>
      obtain ⟨rfl, rfl⟩ := hr
      have hS : (s.heap.push (nob w)).get? s.heap.objs.size = some (nob w) := Heap.get?_push_size _ rfl
      have hT : Shared.TypeIs { s with heap := s.heap.push (nob w) } (.ref s.heap.objs.size) "set" := ⟨_, hS, rfl⟩
      have qr := F.called_set.init.lookup
      have qq := F.called_set.init.bind (.ref s.heap.objs.size)
      repeat (any_goals (first | assumption | wp_step))

      refine codeAny_mono (codeAny_call_builtin (R := wants (fun r s₂ => r = .none ∧ ∃ h' tk c, s₂ = { s with heap := h', toks := tk } ∧ SetR w h' s.heap.objs.size (fun j => decide (j ∈ ns)) c ∧ c ≤ ns.length ∧
          (∀ b o, s.heap.get? b = some o → h'.get? b = some o)) E) F.called_set.init.plain F.entry_set_init (check_set_init_1 hT ?_)) fun r₂ s₂ qo => ?_
      · obtain ⟨ol, qx, qz, nl, qy⟩ := hl
        obtain ⟨ocls, odict, odata, oslots⟩ := ol
        simp only at qz qy
        subst qz; subst qy
        have qm : (s.heap.push (nob w)).get? l = some { cls := .type "list", dict := odict, data := .seq items nl, slots := oslots } := Heap.get?_push_of_some _ qx
        have qk := F.sub_list_set
        have ql := F.sub_list_frozenset
        have hne : (Value.type "list" == Value.type "dict") = false := by decide
        have qt : (s.heap.push (nob w)).IsList l items := ⟨_, qm, rfl, nl, rfl⟩
        unfold Builtin.«set.__init__» noKeywords Builtin.Frozenset.updateFrom
        generalize qp : pyIter = PI
        wp_walk
        subst qp

        refine wpAny_pyIter_list qt ?_
        refine wpAny_bind (wpAny_runValue ?_)
        have qc : l < s.heap.objs.size := Heap.lt_size qx
        have qn : A.in1.in1.in1.handled = none := by simp [hh]
        have qd : (s.heap.push (nob w)).objs.size = s.heap.objs.size + 1 := Heap.size_push ..
        have qa : l ≠ (s.heap.push (nob w)).objs.size := by
          rw [Heap.size_push]; exact Nat.ne_of_lt (Nat.lt_succ_of_lt qc)
        have qb : s.heap.objs.size ∉ [(s.heap.push (nob w)).objs.size, l] := by
          rw [Heap.size_push]; simp only [List.mem_cons, List.mem_singleton, List.not_mem_nil, or_false, not_or]
          exact ⟨Nat.ne_of_lt (Nat.lt_succ_self _), Nat.ne_of_gt qc⟩
        have qe : ∀ (i : Nat) (v : Value), items[i]? = some v → ∃ k t, ns[i]? = some k ∧ v = .int k t := fun i v hv => by
          have hi : i < ns.length := by rw [← qj]; exact (Array.getElem?_eq_some_iff.mp hv).1
          obtain ⟨t, e⟩ := PyProof.Rows.IntsAre.int_at hit i v (by rw [Array.getElem?_toList]; exact hv)
          refine ⟨ns[i], t, List.getElem?_eq_getElem hi, ?_⟩
          rw [e, List.getD_eq_getElem?_getD, List.getElem?_eq_getElem hi] <;> rfl
        refine set_update_ints ((Walks.list qn _ l qa items).toS) s.heap.objs.size
          qb ns qj hb qe (items.size - 0) 0 _ (by omega) (Nat.zero_le _)
          ⟨⟨_, Heap.get?_push_size _ rfl, rfl, rfl⟩, (qt.push _)⟩ ?hS0 ?hR
        case hS0 =>
          have qf : ((s.heap.push (nob w)).push { cls := .type "list_iterator", data := .fields #[.ref l, .int 0 0] }).get? s.heap.objs.size
              = some (nob w) := Heap.get?_push_of_some _ hS
          exact ⟨0, Nat.le_refl 0, setR_new_at qf⟩
        case hR =>
          intro s' c' hm rb ra
          obtain ⟨h', g2, d', tk', os'⟩ := s'
          have eg : g2 = s.gens := hm.gens
          have ed : d' = s.drawn := hm.drawn
          have eo : os' = s.os := hm.os
          subst eg; subst ed; subst eo
          show wpAny _ _ _ _ _ _
          refine wpAny_pure ?_
          show wpAny _ _ (ret Value.none) _ _ _
          rw [qj] at rb
          refine wpAny_pure ⟨rfl, h', tk', c', rfl, ra, rb, fun b o e => ?_⟩
          have qu : b < s.heap.objs.size := Heap.lt_size e
          have qv : b ≠ s.heap.objs.size := Nat.ne_of_lt qu
          have qw : b ≠ (s.heap.push (nob w)).objs.size := by
            rw [Heap.size_push]; exact Nat.ne_of_lt (Nat.lt_succ_of_lt qu)
          exact hm.heap b o (by simp only [List.mem_cons, List.mem_singleton, List.not_mem_nil, or_false, not_or]; exact ⟨qv, qw⟩) (Heap.get?_push_of_some _ (Heap.get?_push_of_some _ e))

      · cases r₂ with
        | error e => exact qo
        | ok fl₂ =>
          cases fl₂ with
          | ret r =>
            obtain ⟨rfl, h', tk, c', rfl, ra, rb, rc⟩ := qo
            repeat (any_goals (first | assumption | wp_step))
            exact h _ _ _ ra rb rc
          | _ => exact qo.elim
    | _ => exact hr.elim


end
end L2
namespace L2
open PySem PySem.Spec PyProof.Rows
section
variable {X : Cx}
/-- set(l), l a list of ints -/
def rSetOfL (K : PySem.W.Frag) (w : World) : List V → Hp → VK → Prop := fun xs H Q => ∃ (a : Addr) (ns : List Int), xs = [.ref a] ∧ SqL K H a (ns.map V.int) ∧ ns.length ≤ 1000 ∧
  ∀ (p : Addr) (n : Nat), n ≤ ns.length → H p = none → Q (.ref p) (upd H p (SetO w p (fun j => decide (j ∈ ns)) n))
theorem cr_setOfL (hc : X.calm = true) : CallR X (.type "set") (rSetOfL X.K X.w) := by
  intro pins s σ H xs us Q I r h
  obtain ⟨a, ns, rfl, hq, hl, q⟩ := h
  rw [Vals.ref1 r]
  obtain ⟨its, rv, pt, hz⟩ := I.list hq
  have hi : IntsAre its.toArray.toList ns := ints_of_vals rv
  refine set_listI ns (I.ok.hd hc) pt.isList hi (by unfold scanBound; omega) fun h' tk c R1 hcn k => ?_
  exact ⟨.ref _, upd H s.heap.objs.size (SetO X.w s.heap.objs.size (fun j => decide (j ∈ ns)) c), I.laid (t' := tk) k (Nat.le_refl _) (setO_new R1), rfl, q _ _ hcn (I.hok.fresh (Nat.le_refl _))⟩
end
end L2
namespace DL
open PySem PySem.Spec PyProof.Rows L2
variable [Tb]
def D.toI : D → Option Int
  | .int i => some i
  | _ => none
def intsOf : List D → Option (List Int)
  | [] => some []
  | .int i :: r => match intsOf r with
    | some l => some (i :: l)
    | none => none
  | _ :: _ => none
theorem intsOf_eq : ∀ {ds : List D} {ns : List Int}, intsOf ds = some ns → ds = ns.map D.int
  | [], _, h => by cases h; rfl
  | .int i :: r, ns, h => by
    simp only [intsOf] at h
    cases e : intsOf r with
    | none => rw [e] at h; cases h
    | some l => rw [e] at h; cases h; rw [intsOf_eq e]; rfl
  | .non :: _, _, h | .bl _ :: _, _, h | .str _ :: _, _, h | .ty _ :: _, _, h | .ref _ :: _, _, h | .tup _ :: _, _, h | .lst _ :: _, _, h | .emp :: _, _, h | .exc _ _ _ _ _ :: _, _, h => by simp [intsOf] at h
theorem intsOf_map : ∀ ns : List Int, intsOf (ns.map D.int) = some ns
  | [] => rfl
  | n :: ns => by rw [List.map_cons]; simp only [intsOf, intsOf_map ns]
section
variable {X : Cx} {W : WX} {e : Expr} {we : WE} {pos p p2 pos2 : Pos}
/-- sorted(set(l)) -/
def gSortSet : D → Sto → KD → Prop := fun d st Kn => match lsOf d st with
  | some ds => match intsOf ds with
    | some ns => ns.length < 64 ∧ ∀ ms : List Int, ms.Pairwise (· < ·) → (∀ k, k ∈ ms ↔ k ∈ ns) → ms.length ≤ ns.length → Kn (.lst (ms.map D.int)) st
    | none => False
  | none => False
def wSortSet (w : WE) : WE := fun env st Kn Kx => w env st (fun d st' => gSortSet d st' Kn) Kx
theorem pd_sortSet (hc : X.calm = true) (hg : Gl X "sorted") (hm : X.mg "sorted" = none) (hg2 : Gl X "set") (hm2 : X.mg "set" = none) (he : PD X W e we)
    (hs : starEach [Expr.Call (.Name "set" p2) [e] [] pos2] X.env = (false, eval (.Call (.Name "set" p2) [e] [] pos2) X.env) :: starEach [] X.env := by rfl) (hs2 : starEach [e] X.env = (false, eval e X.env) :: starEach [] X.env := by rfl) :
    PD X W (.Call (.Name "sorted" p) [.Call (.Name "set" p2) [e] [] pos2] [] pos) (wSortSet we) := by
  have h1 := pe_callTy (X := X) (p := p2) (pos := pos2) (cr_setOfL hc) hg2 hm2 PyProof.Rows.boot_set (pa_cons he pa_nil hs2) (by decide) (by decide) hs2 rfl
  have h2 := pe_callB (X := X) (p := p) (pos := pos) (cr_sortedSet hc) hg hm (by rfl) (pa_cons h1 pa_nil hs) (by decide) (by decide) hs rfl
  refine PE.imp (PE.fo h2) fun σ H Q ⟨env, st, Kn, Kx, hold, er, hw, hn, hx⟩ => ?_
  refine ⟨env, st, _, Kx, hold, er, hw, fun d st1 v H1 k t dn => ?_, hx⟩
  unfold gSortSet at k
  split at k
  · rename_i ds el
    split at k
    · rename_i ns en
      obtain ⟨a, xs, rfl, ha, r⟩ := lsOf_rd t.hold dn el
      rw [intsOf_eq en] at r
      have e2 := r.ints_inv
      subst e2
      refine ⟨a, ns, rfl, SqL.rd ha, by have := k.1; omega, fun b n hn' hb => ?_⟩
      have t1 := t.hold.laid (o := SetO X.w b (fun j => decide (j ∈ ns)) n) hb
      refine ⟨b, _, n, rfl, upd_same, by have := k.1; omega, fun ms q pw hm' hl hq => ?_⟩
      exact t1.hold.nlst hq (Dns.ints ms) fun H' v t2 d2 => hn _ _ _ _ (k.2 ms pw (fun j => by rw [hm' j, decide_eq_true_eq]) (by omega)) (t.trans (t1.trans t2)) d2
    · exact k.elim
  · exact k.elim
end
end DL

/-! enumerate over a tuple -/
namespace PySem
open Sem (wp)
theorem meets_enumT (l : Addr) (items : Array Value) (n : Nat) (dct : Option Addr) (sl : Array (Option Value)) :
    Meets (Builtin.«enumerate.__new__» ⟨[.type "enumerate", .ref l], []⟩) (fun _ R s => s.heap.get? l = some { cls := .type "tuple", dict := dct, data := .seq items n, slots := sl } ∧
      R (.ok (.ret (.ref (s.heap.push { cls := .type "tuple_iterator", data := .fields #[.ref l, .int 0 0] }).objs.size)))
        { s with heap := (s.heap.push { cls := .type "tuple_iterator", data := .fields #[.ref l, .int 0 0] }).push { cls := .type "enumerate", data := .fields #[.none, .bool false, .ref s.heap.objs.size, rawInt 0, .none, .none] } }) :=
  .of_wp fun prog w A R s h => by
    obtain ⟨hp, g, d, tk, os⟩ := s; obtain ⟨hl, h⟩ := h
    have q1 := sub_enumerate
    have q2 : Heap.IsTuple (Shared.heap ⟨hp, g, d, tk, os⟩) l items := ⟨_, hl, rfl, n, rfl⟩
    wp_walk using AutoSeq1.wpAny_loadPart' hl
    refine wpAny_stack_any fun st => wpAny_pure ?_
    split
    · rename_i c _ _ _ _ _
      cases (c == Value.type "enumerate") <;> (wp_walk using AutoSeq1.wpAny_loadPart' hl, wpAny_pyIter_tuple q2; exact ⟨_, rfl, h⟩)
    · wp_walk using AutoSeq1.wpAny_loadPart' hl, wpAny_pyIter_tuple q2
      exact ⟨_, rfl, h⟩
section
variable {prog : Program} {w : World} {A : Around} {E : Value → Shared → Prop} {s : Shared}
theorem call_enumT {l : Addr} {items : Array Value} {Q : Value → Shared → Prop} (hL : s.heap.IsTuple l items)
    (h : ∀ h', IsEnum h' (s.heap.objs.size + 1) s.heap.objs.size 0 .none → h'.IsTupleIter s.heap.objs.size l 0 → h'.objs.size = s.heap.objs.size + 2 →
      (∀ b o, s.heap.get? b = some o → h'.get? b = some o) → Q (.ref (s.heap.objs.size + 1)) { s with heap := h' }) :
    wpAny (model prog w) A (call (.type "enumerate") [.ref l]) Q E s := by
  obtain ⟨⟨c, dct, dt, sl⟩, hl, hc, n, hd⟩ := hL
  replace hc : c = .type "tuple" := hc
  replace hd : dt = .seq items n := hd
  subst hc hd
  refine callType_new F.called_enumerate (by decide) (F.typeCall_enumerate_1 _) (F.newCall_enumerate_1 _) (fun obj => F.args_object_init_2 obj _) F.entry_enumerate_new (meets_enumT l items n dct sl) ⟨hl, ?_⟩
  have hz : (s.heap.push { cls := .type "tuple_iterator", data := .fields #[.ref l, .int 0 0] }).objs.size = s.heap.objs.size + 1 := Heap.size_push ..
  show _ ∧ _
  rw [hz]
  have he : IsEnum ((s.heap.push { cls := .type "tuple_iterator", data := .fields #[.ref l, .int 0 0] }).push
      { cls := .type "enumerate", data := .fields #[.none, .bool false, .ref s.heap.objs.size, rawInt 0, .none, .none] }) (s.heap.objs.size + 1) s.heap.objs.size 0 .none := by
    have q := Heap.get?_push_size (s.heap.push { cls := .type "tuple_iterator", data := .fields #[.ref l, .int 0 0] }) (o := { cls := .type "enumerate", data := .fields #[.none, .bool false, .ref s.heap.objs.size, rawInt 0, .none, .none] }) rfl
    rw [hz] at q; exact q
  exact ⟨⟨_, he, rfl⟩, h _ he ⟨_, Heap.get?_push_of_some _ (Heap.get?_push_size _ rfl), rfl, rfl⟩ (by rw [Heap.size_push, hz]) fun b o x => Heap.get?_push_of_some _ (Heap.get?_push_of_some _ x)⟩
end
end PySem
namespace L2
open PySem PySem.Spec PyProof.Rows
def IteT (K : PySem.W.Frag) (a : Addr) : It :=
  ⟨fun i H => ∃ (xs : List V) (x : V), SqT K H a xs ∧ xs[i]? = some x, fun i H v H' => ∃ T x, v = .ref T ∧ H T = none ∧ H' = upd H T (.tup [.int (i : Nat), x]) ∧ ∀ xs, SqT K H a xs → xs[i]? = some x, fun i H => ∃ xs : List V, SqT K H a xs ∧ xs.length = i⟩
theorem turn_enumT {P : Program} {w : World} {K : PySem.W.Frag} {elts : List Expr} {kk : Nat} {tpos : Pos} (a e it : Addr) (hai : a ≠ it) (hae : a ≠ e) :
    Turn P w K (.Tuple elts kk tpos) (IteT K a) [e, it] e (fun i h => (∃ old, IsEnum h e it ((i : Nat) : Int) old) ∧ h.IsTupleIter it a i ∧ e ≠ it) where
  mem := by simp
  obj := fun i h st b hb => by
    obtain ⟨⟨old, he⟩, ⟨o, ho, hc, hd⟩, _⟩ := st
    rcases (show b = e ∨ b = it by simpa using hb) with z | z
    · rw [z]; exact ⟨_, he, fun v q => nomatch q⟩
    · rw [z]; exact ⟨o, ho, fun v q => by rw [hd] at q; cases q⟩
  keep := fun i h h' st k => let ⟨⟨old, he⟩, hi, hne⟩ := st; ⟨⟨old, k e (by simp) _ he⟩, hi.at fun o q => k it (by simp) o q, hne⟩
  item := by
    intro X hP hw hK hc i pins s σ H E I hf st hg
    subst hP hw hK
    obtain ⟨⟨old, he⟩, hit, hne⟩ := st
    obtain ⟨xs, x, hq, hx⟩ := hg
    obtain ⟨its, rv, p, hz⟩ := I.tuple hq
    obtain ⟨u, hu, ru⟩ := rv.get hx
    have hel : e < s.heap.objs.size := Heap.lt_size he
    have hil : it < s.heap.objs.size := by obtain ⟨_, q, _⟩ := hit; exact Heap.lt_size q
    have hlt : i < its.toArray.size := by
      have q := (List.getElem?_eq_some_iff.mp hu).1
      simpa using q
    refine wpAny_pyNext_enum_itemD (Draws.tuple (by simp [I.ok.hd hc]) it a hai its.toArray) he ⟨hit, (show s.heap.IsTuple a its.toArray from p)⟩ hlt hne (by simp [hne, Ne.symm hae]) fun u' h' tk hP ho hst hT hsz hk => ?_
    obtain ⟨hit', _⟩ := hst
    have eu : u' = u := by
      have q : its[i]? = some u' := by simpa using hP
      rw [hu] at q; exact (Option.some.inj q).symm
    subst eu
    refine ⟨_, rfl, wpAny_letOwnedTupleGo_enum (s := { s with heap := h', toks := tk + 1 }) ho fun h'' he' sb => ?_⟩
    have hT2 : h''.get? s.heap.objs.size = some { cls := .type "tuple", data := .seq #[.int i tk, u'] } := (sb.2 _ (Nat.ne_of_gt hel)).trans hT
    have new : ObjOk X.prog X.w (upd H s.heap.objs.size (.tup [.int (i : Nat), x])) h'' s.heap.objs.size (.tup [.int (i : Nat), x]) :=
      ⟨by show 2 ≤ sizeLine; decide, [.int i tk, u'], .cons ⟨_, rfl⟩ (.cons ru .nil), ⟨_, hT2, rfl, _, rfl⟩⟩
    have I1 : Inv X pins σ (upd H s.heap.objs.size (.tup [.int (i : Nat), x])) { s with heap := h'', toks := tk + 1 } :=
      I.turnedNew (ch := [e, it]) (fun b ob hb q => (sb.2 b (fun z => hb (by simp [z]))).trans (hk b ob (fun z => hb (by simp [z])) (fun z => hb (by simp [z])) q)) hf (Nat.le_refl _) new
    refine ⟨.ref s.heap.objs.size, _, I1, rfl, ⟨_, x, rfl, I.hok.fresh (Nat.le_refl _), rfl, fun ys hy => ?_⟩, ⟨⟨u', ?_⟩, hit'.at fun o q => (sb.2 it (Ne.symm hne)).trans q, hne⟩, fun b hb => ?_⟩
    · have e2 : ys = xs := by
        rcases hy with hy | hy <;> rcases hq with hq | hq
        all_goals (first | (rw [hy] at hq; cases hq; rfl) | skip)
        all_goals exact I.tuple_inj (by first | exact .inl hy | exact .inr hy) (by first | exact .inl hq | exact .inr hq)
      rw [e2]; exact hx
    · rw [show ((i + 1 : Nat) : Int) = (i : Int) + 1 by omega]; exact he'
    · have hb' : b < s.heap.objs.size := by
        rcases (show b = e ∨ b = it by simpa using hb) with z | z <;> rw [z] <;> assumption
      rw [upd_ne (Nat.ne_of_lt hb')]
      exact (hf b hb).1
  done := by
    intro X hP hw hK hc i pins s σ H E I hf st hg
    subst hP hw hK
    obtain ⟨⟨old, he⟩, hit, hne⟩ := st
    obtain ⟨xs, hq, hx⟩ := hg
    obtain ⟨its, rv, p, hz⟩ := I.tuple hq
    obtain ⟨f0, f1, f2, f3, f4, f5⟩ := hf it (by simp)
    have hl : i = its.toArray.size := by
      have q := rv.length
      simp; omega
    subst hl
    exact wpAny_pyNext_enum_endD (Draws.tuple (by simp [I.ok.hd hc]) it a hai its.toArray) he ⟨hit, (show s.heap.IsTuple a its.toArray from p)⟩ fun h' eb => ⟨rfl, I.turned (t' := s.toks) (fun b o hb q => eb b o hb q) f0 f1 f3 f4 f5⟩
  self := fun A i s Q E st h => let ⟨⟨_, he⟩, _⟩ := st; wpAny_pyIter_enum he h
def iEnumT (K : PySem.W.Frag) (ta : TA) : TI := fun σ H R => ta σ H fun vs H1 => ∃ a xs, vs = [.ref a] ∧ ((SqT K H1 a xs ∧ R (IteT K a) H1) ∨ (SqL K H1 a xs ∧ R (Ite K a) H1))
theorem pi_enumT {X : Cx} {e : Expr} {ta : TA} {p pos tpos : Pos} {elts : List Expr} {kk : Nat} (hg : Gl X "enumerate") (hm : X.mg "enumerate" = none) (ha : PA X [e] ta) (hs : starEach [e] X.env = [(false, eval e X.env)] := by rfl) :
    PI X (.Tuple elts kk tpos) (.Call (.Name "enumerate" p) [e] [] pos) (iEnumT X.K ta) := by
  refine ⟨fun pins s σ H R I h => ?_⟩
  refine Call_ (ld_blt I hg hm boot_enumerate (PyProof.Rows.callWith_type1 (thn (ha.run pos pins s σ H _ I h) fun us s1 ⟨vs, H1, I1, r1, q1⟩ => ?_) hs rfl))
  obtain ⟨a, xs, ex, q⟩ := q1
  subst ex
  cases r1 with
  | cons r rr =>
    cases rr
    cases r
    have own : ∀ b, b ∈ [s1.heap.objs.size + 1, s1.heap.objs.size] → s1.heap.objs.size ≤ b := fun b hb => by
      rcases (show b = s1.heap.objs.size + 1 ∨ b = s1.heap.objs.size by simpa using hb) with z | z
      · rw [z]; exact Nat.le_add_right _ _
      · rw [z]; exact Nat.le_refl _
    rcases q with ⟨hq, q⟩ | ⟨hq, q⟩
    · obtain ⟨its, rv, pt, hz⟩ := I1.tuple hq
      have hlt : a < s1.heap.objs.size := by obtain ⟨o, ho, _⟩ := (show s1.heap.IsTuple a its.toArray from pt); exact Heap.lt_size ho
      refine call_enumT (show s1.heap.IsTuple a its.toArray from pt) fun h' he hit hsz hk => wpAny_pyIter_enum he ?_
      have I2 : Inv X pins σ H1 { s1 with heap := h' } := I1.kept (t' := s1.toks) hk
      exact ⟨s1.heap.objs.size + 1, [s1.heap.objs.size + 1, s1.heap.objs.size], _, _, H1, rfl, I2, turn_enumT a (s1.heap.objs.size + 1) s1.heap.objs.size (Nat.ne_of_lt hlt) (Nat.ne_of_lt (Nat.lt_succ_of_lt hlt)), ⟨⟨.none, he⟩, hit, Nat.succ_ne_self _⟩, fun b hb => I1.fpOk (own b hb) (I1.hok.fresh (own b hb)), q⟩
    · obtain ⟨its, rv, p', hz⟩ := I1.list hq
      refine call_enumerate_list p'.isList fun h' he hit hsz hk => wpAny_pyIter_enum he ?_
      have I2 : Inv X pins σ H1 { s1 with heap := h' } := I1.kept (t' := s1.toks) hk
      exact ⟨s1.heap.objs.size + 1, [s1.heap.objs.size + 1, s1.heap.objs.size], _, _, H1, rfl, I2, turn_enum a (s1.heap.objs.size + 1) s1.heap.objs.size, ⟨⟨.none, he⟩, hit, Nat.succ_ne_self _⟩, fun b hb => I1.fpOk (own b hb) (I1.hok.fresh (own b hb)), q⟩
end L2
namespace DL
open PySem PySem.Spec PyProof.Rows L2
variable [Tb]
/-! ### any iterator over data -/
/-- J gives the things ds, one by one, whatever is laid or changed meanwhile -/
structure ItD (J : It) (H1 : Hp) (ds : List D) : Prop where
  go : ∀ i H', Ext H1 H' → i < ds.length → J.go i H'
  stop : ∀ H', Ext H1 H' → J.stop ds.length H'
  yld : ∀ i x H' H'', Ext H1 H' → (h : i < ds.length) → J.yld i H' x H'' → (H'' = H' ∧ Dn H' ds[i] x) ∨ ∃ p o, H' p = none ∧ H'' = upd H' p o ∧ Dn H'' ds[i] x
section
variable {X : Cx} {W : WX} {e a b c tg iter elt : Expr} {es ifs : List Expr} {pos p : Pos} {wa wb wc we wi : WE} {ws : WA} {sts : List Stmt} {w : WS} {g : WG}
theorem lf_forJ {J : It} {ds : List D} {env : DEnv} {st st1 : Sto} {DD : DEnds} {Ed : Ends} {σ : L2.St} {H H1 : Hp} (hJ : ItD J H1 ds) (t : To H st H1 st1) (er : EnvR H1 env σ) (k : forL g w DD ds env st1)
    (h1 : ∀ env' st' σ' H', DD.nx env' st' → To H st H' st' → EnvR H' env' σ' → Ed.nx σ' H')
    (h2 : ∀ d st' v H', DD.rt d st' → To H st H' st' → Dn H' d v → Ed.rt v H')
    (h5 : ∀ x env' st' cls dd σ' H', DD.ex x env' st' → To H st H' st' → EnvR H' env' σ' → XRel H' x cls dd → W cls dd σ' H') :
    ∃ Wt : Nat → Nat → L2.St → Hp → Prop, (∃ m, Wt 0 m σ H1) ∧ ∀ i m σ H, Wt i m σ H →
      (J.stop i H ∧ Ed.nx σ H) ∨ (J.go i H ∧ ∃ N : L2.St → Hp → Prop, (∀ σ' H', N σ' H' → ∃ m', m' < m ∧ Wt (i + 1) m' σ' H') ∧ ∀ x H', J.yld i H x H' → lfG W g x σ H' fun σ2 H2 => lfS W w { Ed with nx := N, ct := N, bk := Ed.nx } σ2 H2) := by
  refine ⟨fun i m σ' H' => m = ds.length - i ∧ i ≤ ds.length ∧ ∃ env' st', To H1 st1 H' st' ∧ EnvR H' env' σ' ∧ forL g w DD (ds.drop i) env' st', ⟨ds.length, by simp, Nat.zero_le _, env, st1, To.refl t.hold, er, k⟩, ?_⟩
  rintro i m σ' H' ⟨rfl, hi, env', st', t', e', k'⟩
  by_cases hlt : i < ds.length
  · refine .inr ⟨hJ.go i H' t'.le.ext hlt, fun σ2 H2 => ∃ env' st', To H1 st1 H2 st' ∧ EnvR H2 env' σ2 ∧ forL g w DD (ds.drop (i + 1)) env' st', fun σ2 H2 q => ⟨ds.length - (i + 1), by omega, rfl, hlt, q⟩, fun x H'' y => ?_⟩
    rw [drop_at hlt] at k'
    rcases hJ.yld i x H' H'' t'.le.ext hlt y with ⟨rfl, dn⟩ | ⟨q, o, hq, rfl, dn⟩
    · exact for_turn t' e' k' dn (fun env2 st2 σ2 H2 k2 t2 e2 => ⟨env2, st2, t2, e2, k2⟩) (fun _ _ _ _ k t' e => h1 _ _ _ _ k (t.trans t') e) (fun _ _ _ _ k t' e => h2 _ _ _ _ k (t.trans t') e) (fun _ _ _ _ _ _ _ k t' e x => h5 _ _ _ _ _ _ _ k (t.trans t') e x)
    · have tl := t'.hold.laid (o := o) hq
      exact for_turn (t'.trans tl) (e'.le tl) k' dn (fun env2 st2 σ2 H2 k2 t2 e2 => ⟨env2, st2, t2, e2, k2⟩) (fun _ _ _ _ k t' e => h1 _ _ _ _ k (t.trans t') e) (fun _ _ _ _ k t' e => h2 _ _ _ _ k (t.trans t') e) (fun _ _ _ _ _ _ _ k t' e x => h5 _ _ _ _ _ _ _ k (t.trans t') e x)
  · have e : i = ds.length := by omega
    subst e
    rw [List.drop_length] at k'
    exact .inl ⟨hJ.stop H' t'.le.ext, h1 _ _ _ _ k' (t.trans t') e'⟩
variable {K0 : PySem.W.Frag}
theorem lf_lcJ {J : It} {tg : Tgt} {t : WT} {el : WE} {g : TG} {tt : TT} {env : DEnv} {st1 : Sto} {Kn : KD} {σ : L2.St} {H1 : Hp} {Q : VK} {vs : List Nat} {K : PySem.W.Frag} {ds : List D} (hJ : ItD J H1 ds)
    (ho : TgtOk K vs g tg) (ht : ∀ σ H Q, lfT W0 t σ H Q → tt σ H Q) (hold : Hold H1 st1) (er : EnvR H1 env σ) (k : lcGo ds tg t el vs env st1 Kn)
    (hn : ∀ d st' v H', Kn d st' → To H1 st1 H' st' → Dn H' d v → Q v H') (Dd : Addr) (hD : H1 Dd = none) :
    ∃ Wt : Nat → Nat → Hp → Prop, (∃ m, Wt 0 m (upd H1 Dd (.lst []))) ∧ ∀ i m H, Wt i m H →
      (J.stop i H ∧ FO Q (.ref Dd) H) ∨ (J.go i H ∧ ∃ Nx : Hp → Prop, (∀ H', Nx H' → ∃ m', m' < m ∧ Wt (i + 1) m' H') ∧ ∀ x H', J.yld i H x H' → g x (L2.wipe σ vs) H' fun σ2 H2 => L2.wipe σ2 vs = L2.wipe σ vs ∧ tt σ2 H2 fun b H3 =>
        if b = true then lfE W0 el σ2 H3 fun y H4 => ∃ acc, H4 Dd = some (.lst acc) ∧ acc.length < sizeLine ∧ Nx (upd H4 Dd (.lst (acc ++ [y]))) else Nx H3) := by
  refine ⟨fun i m H' => m = ds.length - i ∧ i ≤ ds.length ∧ LcSt tg t el (wipeD env vs) (fun acc st' => Kn (.lst acc) st') σ vs Dd H1 st1 H' (ds.drop i), ⟨ds.length, by simp, Nat.zero_le _, lc_start hold er hD k⟩, ?_⟩
  rintro i m H' ⟨rfl, hi, s⟩
  obtain ⟨st', acc, us, h', le, e', hp', np, dna, k'⟩ := id s.ex
  by_cases hlt : i < ds.length
  · refine .inr ⟨hJ.go i H' le.ext hlt, fun H2 => LcSt tg t el (wipeD env vs) (fun acc st' => Kn (.lst acc) st') σ vs Dd H1 st1 H2 (ds.drop (i + 1)), fun H2 q => ⟨ds.length - (i + 1), by omega, rfl, hlt, q⟩, fun x H'' y => ?_⟩
    rw [drop_at hlt] at s k'
    unfold lcL at k'
    split at k'
    · exact k'.elim
    · rename_i env1 e1
      rcases hJ.yld i x H' H'' le.ext hlt y with ⟨rfl, dn⟩ | ⟨q, o, hq, rfl, dn⟩
      · exact ho.go _ _ x _ env1 _ _ e' dn e1 fun σ1 er1 ew => ⟨by rw [ew, wipe_wipe], lc_turn1 hD ht h' le e' hp' np dna er1 k' fun _ z => z⟩
      · have tl := h'.laid (o := o) hq
        exact ho.go _ _ x _ env1 _ _ (e'.le tl) dn e1 fun σ1 er1 ew => ⟨by rw [ew, wipe_wipe], lc_turn1 hD ht tl.hold (le.trans tl.le) (e'.le tl) (tl.le.keep Dd _ hp' (h'.nch hp' np)).1 np (tl.dns dna) er1 k' fun _ z => z⟩
  · have e : i = ds.length := by omega
    subst e
    rw [List.drop_length] at s
    exact .inl ⟨hJ.stop H' le.ext, lc_end hD s fun acc st' v H' k' t' dn => hn _ _ _ _ k' t' dn⟩

/-! enumerate -/
def enumD : Nat → List D → List D
  | _, [] => []
  | i, d :: ds => .tup [.int (i : Int), d] :: enumD (i + 1) ds
theorem enumD_length : ∀ (ds : List D) (i : Nat), (enumD i ds).length = ds.length
  | [], _ => rfl
  | d :: ds, i => by unfold enumD; rw [List.length_cons, List.length_cons, enumD_length ds]
theorem enumD_at : ∀ (ds : List D) (k i : Nat) (h : i < ds.length) (h' : i < (enumD k ds).length), (enumD k ds)[i] = .tup [.int ((k + i : Nat) : Int), ds[i]]
  | d :: ds, k, 0, h, h' => by simp [enumD]
  | d :: ds, k, i + 1, h, h' => by
    have q := enumD_at ds (k + 1) i (by simpa using h) (by rw [enumD_length]; simpa using h)
    simp only [enumD, List.getElem_cons_succ]
    rw [q]; simp; omega
theorem itD_enumT {K : PySem.W.Frag} {H1 : Hp} {ds : List D} {xs : List V} {a : Addr} (ha : H1 a = some (.tup xs)) (r : Dns H1 ds xs) : ItD (IteT K a) H1 (enumD 0 ds) := by
  have hl := r.length
  have hq : ∀ {H'}, Ext H1 H' → SqT K H' a xs := fun le => SqT.of (le a _ ha im_tup)
  refine ⟨fun i H' le h => ?_, fun H' le => ⟨xs, hq le, by rw [enumD_length]; exact hl⟩, fun i x H' H'' le h y => ?_⟩
  · rw [enumD_length] at h
    exact ⟨xs, xs[i]'(by omega), hq le, List.getElem?_eq_getElem _⟩
  · obtain ⟨T, v, rfl, hT, rfl, hv⟩ := y
    have h' : i < ds.length := by rw [enumD_length] at h; exact h
    have hx := hv xs (hq le)
    obtain ⟨u, e1, e2⟩ := r.get (List.getElem?_eq_getElem h')
    rw [hx] at e1; cases e1
    refine .inr ⟨T, _, hT, rfl, ?_⟩
    rw [enumD_at ds 0 i h' h, Nat.zero_add]
    have dx := Dn.ext le _ _ e2
    exact mk_tup upd_same (Dns.ext (ext_laid hT) _ _ (.cons mk_int (.cons dx .nil)))
theorem itD_enumL {K : PySem.W.Frag} {H1 : Hp} {ds : List D} {xs : List V} {a : Addr} {o : Obj} (ha : H1 a = some (.frz o (.lst xs))) (r : Dns H1 ds xs) : ItD (Ite K a) H1 (enumD 0 ds) := by
  have hl := r.length
  have hq : ∀ {H'}, Ext H1 H' → SqL K H' a xs := fun le => SqL.frz (le a _ ha im_frz)
  refine ⟨fun i H' le h => ?_, fun H' le => ⟨xs, hq le, by rw [enumD_length]; exact Nat.le_of_eq hl⟩, fun i x H' H'' le h y => ?_⟩
  · rw [enumD_length] at h
    exact ⟨xs, xs[i]'(by omega), hq le, List.getElem?_eq_getElem _⟩
  · obtain ⟨T, v, rfl, hT, rfl, hv⟩ := y
    have h' : i < ds.length := by rw [enumD_length] at h; exact h
    have hx := hv xs (hq le)
    obtain ⟨u, e1, e2⟩ := r.get (List.getElem?_eq_getElem h')
    rw [hx] at e1; cases e1
    refine .inr ⟨T, _, hT, rfl, ?_⟩
    rw [enumD_at ds 0 i h' h, Nat.zero_add]
    have dx := Dn.ext le _ _ e2
    exact mk_tup upd_same (Dns.ext (ext_laid hT) _ _ (.cons mk_int (.cons dx .nil)))
/-- what enumerate is given -/
def enumOf : List D → Option (List D)
  | [.tup ds] => some (enumD 0 ds)
  | [.lst ds] => some (enumD 0 ds)
  | _ => none
theorem enumOf_it {K : PySem.W.Frag} {H1 : Hp} {ds es : List D} {vs : List V} (h : enumOf ds = some es) (dn : Dns H1 ds vs) : ∃ a xs, vs = [.ref a] ∧ ((SqT K H1 a xs ∧ ItD (IteT K a) H1 es) ∨ (SqL K H1 a xs ∧ ItD (Ite K a) H1 es)) := by
  unfold enumOf at h
  split at h
  · cases h
    obtain ⟨v, r, rfl, d1, dn⟩ := dn.inv
    cases dn.nil_inv
    obtain ⟨a, xs, rfl, ha, r⟩ := dn_tup d1
    exact ⟨a, xs, rfl, .inl ⟨SqT.of ha, itD_enumT ha r⟩⟩
  · cases h
    obtain ⟨v, r, rfl, d1, dn⟩ := dn.inv
    cases dn.nil_inv
    obtain ⟨a, o, xs, rfl, ha, r⟩ := dn_lst d1
    exact ⟨a, xs, rfl, .inr ⟨SqL.frz ha, itD_enumL ha r⟩⟩
  · cases h
def wForE (wi : WA) (g : WG) (b : WS) : WS := fun D env st => wi env st (fun ds st' => match enumOf ds with
  | some es => forL g b D es env st'
  | none => False) fun x st' => D.ex x env st'
theorem pds_forE {elts : List Expr} {kk : Nat} {tpos ep : Pos} (hp : PassesOwn (model X.prog X.w) X.A X.env X.xe) (hc : X.calm = true) (hgr : Gl X "enumerate") (hm : X.mg "enumerate" = none) (ha : PDA X W [a] ws) (hg : PDG X W (.Tuple elts kk tpos) g) (hb : PDSs X W sts w) (hs : starEach [a] X.env = [(false, eval a X.env)] := by rfl)
    (hfs : ∀ x, foldedSetIterable (.Call (.Name "enumerate" p) [a] [] ep) X.env x = pure x := by intro _; rfl) : PDS X W (.For (.Tuple elts kk tpos) (.Call (.Name "enumerate" p) [a] [] ep) sts [] pos) (wForE ws g w) := by
  refine PS.imp (ps_for hp hc (pi_enumT hgr hm ha hs) hg hb hfs) fun Ed σ H ⟨env, st, DD, hold, er, hw, h1, h2, h3, h4, h5⟩ => ⟨env, st, _, _, hold, er, hw, fun d st1 v H1 k t dn => ?_, lfE_s er h5⟩
  split at k
  · rename_i es ee
    obtain ⟨q, xs, rfl, z⟩ := enumOf_it (K := X.K) ee dn
    rcases z with ⟨sq, J⟩ | ⟨sq, J⟩
    · exact ⟨q, xs, rfl, .inl ⟨sq, lf_forJ J t (er.le t) k h1 h2 h5⟩⟩
    · exact ⟨q, xs, rfl, .inr ⟨sq, lf_forJ J t (er.le t) k h1 h2 h5⟩⟩
  · exact k.elim
def wLcE (wi : WA) (tg : Tgt) (t : WT) (el : WE) (vs : List Nat) : WE := fun env st Kn Kx => wi env st (fun ds st' => match enumOf ds with
  | some es => lcGo es tg t el vs env st' Kn
  | none => False) Kx
theorem lfw_lcE {tg' : Tgt} {t : WT} {el : WE} {g : TG} {tt : TT} {vs : List Nat} (ho : TgtOk X.K vs g tg') (ht : ∀ σ H Q, lfT W0 t σ H Q → tt σ H Q) : ∀ σ H Q, lfE W (wLcE ws tg' t el vs) σ H Q → tLc (iEnumT X.K (lfA W ws)) g tt (lfE W0 el) vs σ H (FO Q) := by
  refine fun σ H Q ⟨env, st, Kn, Kx, hold, er, hw, hn, hx⟩ => ⟨env, st, _, Kx, hold, er, hw, fun d st1 v H1 k t1 dn => ?_, hx⟩
  split at k
  · rename_i es ee
    obtain ⟨q, xs, rfl, z⟩ := enumOf_it (K := X.K) ee dn
    rcases z with ⟨sq, J⟩ | ⟨sq, J⟩
    · exact ⟨q, xs, rfl, .inl ⟨sq, lf_lcJ J ho ht t1.hold (er.le t1) k fun _ _ _ _ k2 t2 d2 => hn _ _ _ _ k2 (t1.trans t2) d2⟩⟩
    · exact ⟨q, xs, rfl, .inr ⟨sq, lf_lcJ J ho ht t1.hold (er.le t1) k fun _ _ _ _ k2 t2 d2 => hn _ _ _ _ k2 (t1.trans t2) d2⟩⟩
  · exact k.elim
theorem pd_lcE {scope : Scope} {own : List (Str × Nat)} {tg' : Tgt} {t : WT} {el : WE} {elts : List Expr} {kk : Nat} {tpos ep : Pos} (hc : X.calm = true) (hN : X.N.Nodup) (hgr : Gl X "enumerate") (hm : X.mg "enumerate" = none) (ha : PDA X W [a] ws) (B : LcOk X (.Tuple elts kk tpos) elt ifs scope own tg' t el)
    (hs1 : starEach [a] X.env = [(false, eval a X.env)] := by rfl) (hs : ∀ x, foldedSetIterable (.Call (.Name "enumerate" p) [a] [] ep) X.env x = pure x := by intro _; rfl) :
    PD X W (.ListComp elt [⟨.Tuple elts kk tpos, .Call (.Name "enumerate" p) [a] [] ep, ifs, 0⟩] scope pos) (wLcE ws tg' t el (own.map (·.2))) := by
  obtain ⟨g, tt, ok, ho, ht, hg, hts, he⟩ := B.ok
  exact PE.imp (PE.fo <| pe_lc hc hN (pi_enumT hgr hm ha hs1) ok hg hts he hs) (lfw_lcE ho ht)
/-! range by a step of -1 -/
def downD (i : Int) (n : Nat) : List D := (List.range n).map fun (k : Nat) => D.int (i + (k : Int) * (-1))
theorem itD_down {H1 : Hp} (i : Int) (n : Nat) : ItD (Itc i (-1) n) H1 (downD i n) := by
  have hl : (downD i n).length = n := by unfold downD; rw [List.length_map, List.length_range]
  refine ⟨fun k H' le h => by rw [hl] at h; exact h, fun H' le => by rw [hl]; exact Nat.le_refl _, fun k x H' H'' le h y => ?_⟩
  obtain ⟨rfl, rfl⟩ := y
  refine .inl ⟨rfl, ?_⟩
  have e : (downD i n)[k] = .int (i + (k : Int) * (-1)) := by unfold downD; simp
  rw [e]; exact mk_int
def wForR3 (wi : WA) (g : WG) (b : WS) : WS := fun D env st => wi env st (fun ds st' => match ds with
  | [.int i, .int j, .int c] => (c = -1 ∧ -(2 ^ 62) ≤ i ∧ i < 2 ^ 62 ∧ -(2 ^ 62) ≤ j ∧ j < 2 ^ 62) ∧ forL g b D (downD i (i - j).toNat) env st'
  | _ => False) fun x st' => D.ex x env st'
theorem pds_forR3 (hp : PassesOwn (model X.prog X.w) X.A X.env X.xe) (hc : X.calm = true) (hgr : Gl X "range") (hm : X.mg "range" = none) (ha : PDA X W [a, b, c] ws) (hg : PDG X W tg g) (hb : PDSs X W sts w)
    {cp : Pos} (hs : starEach [a, b, c] X.env = (false, eval a X.env) :: starEach [b, c] X.env := by rfl) (hpl : (backTo cp (starEach [b, c] X.env)).any (·.1) = false := by rfl)
    (hfs : ∀ x, foldedSetIterable (.Call (.Name "range" p) [a, b, c] [] cp) X.env x = pure x := by intro _; rfl) : PDS X W (.For tg (.Call (.Name "range" p) [a, b, c] [] cp) sts [] pos) (wForR3 ws g w) := by
  refine PS.imp (ps_for hp hc (pi_range3 hgr hm ha hs hpl) hg hb hfs) fun Ed σ H ⟨env, st, DD, hold, er, hw, h1, h2, h3, h4, h5⟩ => ⟨env, st, _, _, hold, er, hw, fun d st1 v H1 k t dn => ?_, lfE_s er h5⟩
  split at k
  · obtain ⟨v, r, rfl, d1, dn⟩ := dn.inv
    obtain ⟨v, r, rfl, d2, dn⟩ := dn.inv
    obtain ⟨v, r, rfl, d3, dn⟩ := dn.inv
    cases dn.nil_inv
    rw [dn_int d1, dn_int d2, dn_int d3]
    obtain ⟨⟨rfl, a1, a2, a3, a4⟩, k⟩ := k
    exact ⟨_, _, _, _, rfl, RgC.neg a1 a2 a3 a4, lf_forJ (itD_down _ _) t (er.le t) k h1 h2 h5⟩
  · exact k.elim
/-! while -/
/-- a while loop: a word Pv and a measure μ -/
def wWhile (c : WT) (b : WS) : WS := fun D env st => ∃ W : Nat → DEnv → Sto → Prop, (∃ m, W m env st) ∧ ∀ m env st, W m env st →
  c env st (fun t st1 => match t with
    | true => b { D with nx := fun e s => ∃ m', m' < m ∧ W m' e s, ct := fun e s => ∃ m', m' < m ∧ W m' e s, bk := D.nx } env st1
    | false => D.nx env st1) fun x st' => D.ex x env st'
variable {tc : WT}
theorem pds_while (hp : PassesOwn (model X.prog X.w) X.A X.env X.xe) (hc : PDT X W c tc) (hb : PDSs X W sts w) : PDS X W (.While c sts [] pos) (wWhile tc w) := by
  refine PS.imp (ps_while hp hc hb) fun Ed σ H ⟨env, st, DD, hold, er, hw, h1, h2, h3, h4, h5⟩ => ?_
  obtain ⟨Wt, ⟨m0, w0⟩, turn⟩ := hw
  refine ⟨fun m σ' H' => ∃ env' st', To H st H' st' ∧ EnvR H' env' σ' ∧ Wt m env' st', ⟨m0, env, st, To.refl hold, er, w0⟩, ?_⟩
  rintro m σ' H' ⟨env', st', t, e', w'⟩
  refine ⟨env', st', _, _, t.hold, e', turn m env' st' w', fun b st2 H2 k t2 => ?_, fun x st2 cls dd H2 k t2 xr => h5 _ _ _ _ _ _ _ k (t.trans t2) (e'.le t2) xr⟩
  cases b with
  | true =>
    dsimp only
    rw [if_pos rfl]
    refine ⟨fun σ2 H2 => ∃ env2 st2, To H st H2 st2 ∧ EnvR H2 env2 σ2 ∧ ∃ m', m' < m ∧ Wt m' env2 st2, fun σ2 H2 ⟨env2, st2, t2, e2, m', l, w2⟩ => ⟨m', l, env2, st2, t2, e2, w2⟩, ?_⟩
    exact lfS_go (H := H) (st := st) (e'.le t2) (t.trans t2) k (fun _ _ _ _ k t e => ⟨_, _, t, e, k⟩) h2 h1 (fun _ _ _ _ k t e => ⟨_, _, t, e, k⟩) h5
  | false =>
    dsimp only
    rw [if_neg Bool.false_ne_true]
    exact h1 _ _ _ _ k (t.trans t2) (e'.le t2)
/-- a statement that is never reached -/
theorem pds_never {s : Stmt} : PDS X W s (fun _ _ _ => False) := ⟨fun pins s σ H D I h => by
  obtain ⟨_, _, _, _, _, z, _⟩ := h
  exact z.elim⟩
theorem pd_never {e : Expr} : PD X W e (fun _ _ _ _ => False) := ⟨fun pins s σ H D I h => by
  obtain ⟨_, _, _, _, _, _, z, _⟩ := h
  exact z.elim⟩
end
end DL

namespace L2
open PySem PySem.Spec PyProof.Rows
section
variable {prog : Program} {w : World} {A : Around} {E : Value → Shared → Prop} {s : Shared} {K : PySem.W.Frag} {a C f : Addr} {ox : Obj} {od : Option Obj}
/-- a special method of the class's own that is a def -/
theorem special_def {name : Str} {args : List Value} {Q : Option Value → Shared → Prop} (X : K.In s.heap) (I : PySem.W.InstAt s.heap a ox C od) (hf : PySem.W.findIn K (.ref C) name = some (some (.ref f))) (ht : PySem.W.typeIn K (.ref f) = some (.type "function"))
    (hc : wpAny (model prog w) A (call (.ref f) (.ref a :: args)) (fun v s' => Q (some v) s') E s) : wpAny (model prog w) A (callSpecial? (.ref a) name args) Q E s := by
  unfold callSpecial? specialOf
  refine wpAny_bind (wpAny_bind (I.type.here ((PySem.W.looks_findIn X hf).here ?_)))
  refine wpAny_holding (wpAny_bind ((PySem.W.bind_fn X (.ref a) ht).here ?_))
  exact wpAny_bind (wpAny_mono hc (fun v s' h => wpAny_pure h) fun _ _ z => z)
theorem special_none {name : Str} {args : List Value} {Q : Option Value → Shared → Prop} (X : K.In s.heap) (I : PySem.W.InstAt s.heap a ox C od) (hf : PySem.W.findIn K (.ref C) name = some none) (h : Q none s) : wpAny (model prog w) A (callSpecial? (.ref a) name args) Q E s := by
  unfold callSpecial? specialOf
  exact wpAny_bind (wpAny_bind (I.type.here ((PySem.W.looks_findIn X hf).here (wpAny_pure h))))
/-- the body of len(x), x an instance with an own __len__ -/
theorem len_of_def {Q : Value → Shared → Prop} (X : K.In s.heap) (I : PySem.W.InstAt s.heap a ox C od) (hf : PySem.W.findIn K (.ref C) "__len__" = some (some (.ref f))) (ht : PySem.W.typeIn K (.ref f) = some (.type "function"))
    (hc : wpAny (model prog w) A (call (.ref f) [.ref a]) (fun v s' => ∃ n u, v = .int n u ∧ 0 ≤ n ∧ n < 2 ^ 63 ∧ Q (.int n s'.toks) { s' with toks := s'.toks + 1 }) E s) :
    wpAny (model prog w) A (Builtin.«len» ⟨[.ref a], []⟩) (fun fin s' => ∃ r, fin = .done (.ret r) ∧ Q r s') E s := by
  unfold Builtin.«len»
  refine wpAny_bind (m := oneArg "len" _) (wpAny_pure ?_)
  refine wpAny_bind (m := callSpecial? (.ref a) (Str.ofString "__len__")) (special_def X I hf ht (wpAny_mono hc (fun r s' hr => ?_) fun _ _ y => y))
  obtain ⟨n, u, rfl, h0, h1, hq⟩ := hr
  refine wpAny_bind (wpAny_holding (wpAny_pure (wpAny_bind (wpAny_letGo ?_))))
  show wpAny _ _ (if n < 0 then _ else _) _ _ _
  rw [if_neg (by omega)]
  show wpAny _ _ (if n ≥ 2 ^ 63 then _ else _) _ _ _
  rw [if_neg (by omega)]
  exact wpAny_bind (wpAny_mkInt (wpAny_pure ⟨_, rfl, hq⟩))
theorem truthy_of_def {Q : Bool → Shared → Prop} (X : K.In s.heap) (I : PySem.W.InstAt s.heap a ox C od) (hb : PySem.W.findIn K (.ref C) "__bool__" = some none) (hf : PySem.W.findIn K (.ref C) "__len__" = some (some (.ref f))) (ht : PySem.W.typeIn K (.ref f) = some (.type "function"))
    (hc : wpAny (model prog w) A.in1 (call (.ref f) [.ref a]) (fun v s' => ∃ n u, v = .int n u ∧ 0 ≤ n ∧ n < 2 ^ 63 ∧ Q (n != 0) { s' with toks := s'.toks + 1 }) E s) :
    wpAny (model prog w) A (truthy (.ref a)) Q E s := by
  have key : wpAny (model prog w) A (runValue (.builtin "len" ⟨[.ref a], []⟩)) (fun r s' => ∃ n u, r = .int n u ∧ Q (n != 0) s') E s := by
    refine wpAny_runValue (codeAny_builtin entry_len ?_)
    rw [Around.under_plainId plain_len _]
    refine wpAny_mono (len_of_def (Q := fun r s' => ∃ n u, r = .int n u ∧ Q (n != 0) s') X I hf ht (wpAny_mono hc (fun v s' h => ?_) fun _ _ y => y)) (fun fin s' h' => by obtain ⟨r, rfl, hq⟩ := h'; exact hq) fun _ _ e => e
    obtain ⟨n, u, e, h0, h1, q⟩ := h
    exact ⟨n, u, e, h0, h1, n, _, rfl, q⟩
  have hsp : ∀ {Q' : Option Value → Shared → Prop}, Q' (some (.ref f)) s → wpAny (model prog w) A (specialOf (.ref a) "__len__") Q' E s := fun q => by
    unfold specialOf
    exact wpAny_bind (I.type.here ((PySem.W.looks_findIn X hf).here q))
  have fin : ∀ (r : Value) (s' : Shared), (∃ n u, r = .int n u ∧ Q (n != 0) s') → wpAny (model prog w) A (match r with
      | .int n _ => pure (n != 0)
      | _ => unsupported "internal:truth.len") Q E s' := fun r s' h => by
    obtain ⟨n, u, rfl, q⟩ := h
    exact wpAny_pure q
  unfold truthy
  first
    | refine wpAny_bind (special_none (name := Str.ofString "__bool__") X I hb ?_)
    | refine wpAny_bind (wpAny_pure (wpAny_bind (special_none (name := Str.ofString "__bool__") X I hb ?_)))
  first
    | refine wpAny_bind (hsp ?_)
    | refine wpAny_bind (wpAny_pure (wpAny_bind (hsp ?_)))
  first
    | exact wpAny_bind (wpAny_mono key (fun r s' h' => fin r s' h') fun _ _ e => e)
    | exact wpAny_bind (wpAny_pure (wpAny_bind (wpAny_mono key (fun r s' h' => fin r s' h') fun _ _ e => e)))
end
/-- o.f = .. as a target among others -/
def gFld (K : PySem.W.Frag) (f : Str) (to : TE) : TG := fun v σ H Q => to σ H fun x H1 => ∃ a C dx fs, x = .ref a ∧ H1 a = some (.ins C dx fs) ∧ Cls K C ∧ NoAttr K C f ∧ fs.length < 1000 ∧ Q σ (upd H1 a (.ins C dx (putF f v fs)))
theorem pg_fld {X : Cx} {o : Expr} {to : TE} {f : Str} {pos : Pos} (ho : PE X o to)
    (ha : ∀ v, assign (.Attribute o f pos) X.env v = (do
      let ov ← holding [v] (eval o X.env)
      standAt pos.atName
      holding [v, ov] (setAttr ov f v)
      release [v, ov] []) := by intro _; rfl) : PG X (.Attribute o f pos) (gFld X.K f to) := by
  refine ⟨fun pins s σ H v u Q I r h => ?_⟩
  rw [ha]
  refine wpAny_bind (wpAny_holding (thn (ho.run pins s σ H _ I h) fun ov s1 ⟨x, H1, I1, r1, a, C, dx, fs, ex, ea, c, n, l, q⟩ => ?_))
  subst ex
  obtain rfl : ov = Value.ref a := r1
  refine wpAny_bind (wpAny_standAt (wpAny_bind (wpAny_holding (setattr_ok I1 ea c n l r fun s2 I2 => ?_))))
  exact wpAny_release ⟨σ, _, I2, q⟩
end L2
namespace DL
open PySem PySem.Spec PyProof.Rows L2
variable [Tb]
section
variable {X : Cx} {W : WX} {k : Nat} {f C : Addr} {fd : FuncData} {ps : List Str} {wf : WF} {x m : Str} {p pos apos : Pos} {e o : Expr} {es : List Expr} {we wo : WE} {ws : WA}
/-! attribute targets -/
def dgFld (K : PySem.W.Frag) (f : Str) (wo : WE) : WG := fun d env st Kn Kx => wo env st (fun o st2 => match o with
  | .ref a => match st2.lookup a with
    | some (.ins C fs) => ((Cls K C ∧ NoAttr K C f) ∧ fs.length < 1000) ∧ Kn env (st2.put a (.ins C (putD f d fs)))
    | _ => False
  | _ => False) fun x st' => Kx x env st'
theorem pdg_fld {f : Str} (ho : PD X W o wo)
    (ha : ∀ v, assign (.Attribute o f pos) X.env v = (do
      let ov ← holding [v] (eval o X.env)
      standAt pos.atName
      holding [v, ov] (setAttr ov f v)
      release [v, ov] []) := by intro _; rfl) : PDG X W (.Attribute o f pos) (dgFld X.K f wo) :=
  PG.imp (pg_fld ho ha) fun v σ H Q ⟨d, env, st, Kn, Kx, hold, er, dn, hw, h1, h2⟩ => ⟨env, st, _, _, hold, er, hw, fun d0 st2 u H2 k t d2 => by
    split at k
    · rename_i a
      split at k
      · rename_i C fs l
        obtain ⟨⟨⟨c1, c2⟩, hl⟩, k⟩ := k
        obtain ⟨dx, vs, ha, hf⟩ := t.hold.at l
        have tw := t.hold.write (o := .ins C dx (putF f v vs)) (on_of l) (c := .ins C (putD f d fs)) ⟨dx, _, upd_same, (hf.put (t.dn dn)).ext (ext_write ha trivial)⟩
        exact ⟨a, C, dx, vs, dn_ref d2, ha, c1, c2, by rw [hf.length]; exact hl, h1 _ _ _ _ k (t.trans tw) (er.le (t.trans tw))⟩
      · exact k.elim
    · exact k.elim, fun x st1 cls dd H1 k1 t1 xr => h2 _ _ _ _ _ _ _ k1 t1 (er.le t1) xr⟩
def dgFldC (C : Addr) (f : Str) (wo : WE) : WG := fun d env st Kn Kx => wo env st (fun o st2 => ∃ a fs, (o = .ref a ∧ st2.lookup a = some (.ins C fs) ∧ fs.length < 1000) ∧ Kn env (st2.put a (.ins C (putD f d fs)))) fun x st' => Kx x env st'
theorem pdg_fldC {f : Str} (c1 : Cls X.K C) (c2 : NoAttr X.K C f) (ho : PD X W o wo)
    (ha : ∀ v, assign (.Attribute o f pos) X.env v = (do
      let ov ← holding [v] (eval o X.env)
      standAt pos.atName
      holding [v, ov] (setAttr ov f v)
      release [v, ov] []) := by intro _; rfl) : PDG X W (.Attribute o f pos) (dgFldC C f wo) :=
  PG.imp (pg_fld ho ha) fun v σ H Q ⟨d, env, st, Kn, Kx, hold, er, dn, hw, h1, h2⟩ => ⟨env, st, _, _, hold, er, hw, fun d0 st2 u H2 k t d2 => by
    obtain ⟨a, fs, ⟨rfl, l, hl⟩, k⟩ := k
    obtain ⟨dx, vs, ha, hf⟩ := t.hold.at l
    have tw := t.hold.write (o := .ins C dx (putF f v vs)) (on_of l) (c := .ins C (putD f d fs)) ⟨dx, _, upd_same, (hf.put (t.dn dn)).ext (ext_write ha trivial)⟩
    exact ⟨a, C, dx, vs, dn_ref d2, ha, c1, c2, by rw [hf.length]; exact hl, h1 _ _ _ _ k (t.trans tw) (er.le (t.trans tw))⟩, fun x st1 cls dd H1 k1 t1 xr => h2 _ _ _ _ _ _ _ k1 t1 (er.le t1) xr⟩
/-! a starred item -/
def wStar (w : WE) (ws : WA) : WA := fun env st Kn Kx => w env st (fun d st1 => match d with
  | .tup ds => ws env st1 (fun es st2 => Kn (ds ++ es) st2) Kx
  | d => match lsOf d st1 with
    | some ds => ws env st1 (fun es st2 => Kn (ds ++ es) st2) Kx
    | none => False) Kx
theorem pda_star (h : PD X W e we) (r : PDA X W es ws) (hs : starEach (.Starred e p :: es) X.env = (true, eval e X.env) :: starEach es X.env := by rfl) : PDA X W (.Starred e p :: es) (wStar we ws) :=
  PA.imp (StX.pa_star h r hs) fun σ H Q ⟨env, st, Kn, Kx, hold, er, hw, hn, hx⟩ => ⟨env, st, _, Kx, hold, er, hw, fun d st1 v H1 k1 t1 d1 => by
    split at k1
    · obtain ⟨a, xs, rfl, ha, r⟩ := dn_tup d1
      exact ⟨a, xs, rfl, .inl (SqT.of ha), env, st1, _, Kx, t1.hold, er.le t1, k1, fun ds st2 vs H2 k2 t2 d2 => hn _ _ _ _ k2 (t1.trans t2) ((t2.dns r).append d2), fun _ _ _ _ _ k2 t2 xr => hx _ _ _ _ _ k2 (t1.trans t2) xr⟩
    · split at k1
      · rename_i ds el
        obtain ⟨a, xs, rfl, ha, r⟩ := lsOf_rd t1.hold d1 el
        exact ⟨a, xs, rfl, .inr (SqL.rd ha), env, st1, _, Kx, t1.hold, er.le t1, k1, fun ds st2 vs H2 k2 t2 d2 => hn _ _ _ _ k2 (t1.trans t2) ((t2.dns r).append d2), fun _ _ _ _ _ k2 t2 xr => hx _ _ _ _ _ k2 (t1.trans t2) xr⟩
      · exact k1.elim, hx⟩
/-! len(x) and the truth of x by an own __len__ -/
structure LenC (K : PySem.W.Frag) (C f : Addr) : Prop where
  len : PySem.W.findIn K (.ref C) "__len__" = some (some (.ref f))
  fn : PySem.W.typeIn K (.ref f) = some (.type "function")
  nob : PySem.W.findIn K (.ref C) "__bool__" = some none
theorem run_lenD {A : Around} {pins : List (Addr × Obj)} {σ : L2.St} {H : Hp} {s : Shared} {a : Addr} {R : Value → Shared → Prop} {Q : VK} (F : FnD X.prog X.w X.K X.mg X.base k f fd ps wf) (hr : Rm k A) (hA : A.frames = X.A.frames) (tk : Takes X W) (I : Inv X pins σ H s) (hb : Binds X.K fd ps [])
    (h : liftSp ps.length wf [.ref a] H Q (L2.WE W σ)) (hR : ∀ v u H' s', Inv X pins σ H' s' → RelV v u → Q v H' → R u s') : wpAny (model X.prog X.w) A (call (.ref f) [.ref a]) R X.xe s := by
  have e0 : Env0 X.prog X.w X.K X.mg X.base A X.stack s H := by
    have e := I.env0
    exact ⟨by rw [hA]; exact e.frames, e.mod, e.bs, e.bsz, e.funs, e.frf, e.hok, e.bare⟩
  have hl := liftSp_len h
  have b := hb s [.ref a] I.kIn (by rw [List.append_nil]; exact hl)
  rw [List.append_nil] at b
  refine wpAny_call (codeAny_mono (F.run A X.stack s H ⟨[.ref a], []⟩ [.ref a] [.ref a] Q (L2.WE W σ) hr e0 b (.cons rfl .nil) h) fun r s' hq => ?_)
  cases r with
  | error e => exact passAt tk σ pins H s e s' I hq
  | ok fl =>
    cases fl with
    | ret u =>
      obtain ⟨v, H', I', rv, q⟩ := I.after hq
      exact hR _ _ _ _ I' rv q
    | next => exact False.elim hq
    | brk => exact False.elim hq
    | cont => exact False.elim hq
def wLenO (C : Addr) (wf : WF) (ws : WA) : WE := fun env st Kn Kx => ws env st (fun ds st1 => match ds with
  | [.ref a] => match st1.lookup a with
    | some (.ins C' _) => C' = C ∧ wf [.ref a] st1 (fun r st2 => match r with
      | .int n => (0 ≤ n ∧ n < 2 ^ 63) ∧ Kn (.int n) st2
      | _ => False) Kx
    | _ => False
  | _ => False) Kx
def wTruO (C : Addr) (wf : WF) (w : WE) : WT := fun env st Kn Kx => w env st (fun d st1 => match d with
  | .ref a => match st1.lookup a with
    | some (.ins C' _) => C' = C ∧ wf [.ref a] st1 (fun r st2 => match r with
      | .int n => (0 ≤ n ∧ n < 2 ^ 63) ∧ Kn (n != 0) st2
      | _ => False) Kx
    | _ => False
  | _ => False) Kx
theorem pd_lenO (L : LenC X.K C f) (F : FnD X.prog X.w X.K X.mg X.base k f fd ps wf) (hl1 : ps.length = 1) (hr : Rm (k + 1) X.A) (tk : Takes X W) (hb : Binds X.K fd ps []) (hg : Gl X "len") (hm : X.mg "len" = none) (ha : PDA X W [e] ws) (hs : starEach [e] X.env = (false, eval e X.env) :: starEach [] X.env := by rfl) :
    PD X W (.Call (.Name "len" p) [e] [] pos) (wLenO C wf ws) := by
  refine ⟨fun pins s σ H Q I ⟨env, st, Kn, Kx, hold, er, hw, hn, hx⟩ => ?_⟩
  refine wpAny_Call_Name_kw (ld_blt I hg hm (by rfl : bootBuiltins "len" = some (.builtin "len")) ?_ (by decide) (by decide))
  have hA : wpAny (model X.prog X.w) X.A (spliced (backTo pos (starEach [e] X.env))) (AP X pins σ fun vs H1 => ∃ a dx fs, vs = [.ref a] ∧ H1 a = some (.ins C dx fs) ∧ liftSp ps.length wf [.ref a] H1 (fun v H' => ∃ n : Int, v = .int n ∧ 0 ≤ n ∧ n < 2 ^ 63 ∧ Q (.int n) H') (L2.WE W σ)) X.xe s :=
    ha.run pos pins s σ H _ I ⟨env, st, _, Kx, hold, er, hw, fun ds st1 vs H1 kk t dn => by
      split at kk
      · rename_i a
        obtain ⟨v, r, rfl, d1, dn⟩ := dn.inv
        cases dn.nil_inv
        split at kk
        · rename_i C' fs l
          obtain ⟨rfl, kk⟩ := kk
          obtain ⟨dx, vs, ha, hf⟩ := t.hold.at l
          refine ⟨a, dx, vs, by rw [dn_ref d1], ha, [.ref a], st1, _, Kx, t.hold, .cons mk_ref .nil, hl1.symm, kk, fun d st2 v H2 k2 t2 d2 => ?_, fun _ _ _ _ _ k2 t2 x2 => hx _ _ _ _ _ k2 (t.trans t2) x2⟩
          split at k2
          · exact ⟨_, dn_int d2, k2.1.1, k2.1.2, hn _ _ _ _ k2.2 (t.trans t2) mk_int⟩
          · exact k2.elim
        · exact kk.elim
      · exact kk.elim, hx⟩
  refine PyProof.Rows.callWith_builtin1 (thn hA fun us s1 ⟨vs, H1, I1, r1, a, dx, fs, ev, ha1, q⟩ => ?_) hs rfl
  subst ev
  rw [Vals.ref1 r1]
  obtain ⟨mA, O, _⟩ := ins_get I1.hok ha1
  obtain ⟨od, J, _⟩ := O.look
  refine Calls.call_function_entry kind_len plain_len entry_len (args_len1 _) ?_
  refine len_of_def I1.kIn J L.len L.fn (run_lenD F hr.in1 rfl tk I1 hb q fun v u H' s' I' rv ⟨n, ev, h0, h1, q2⟩ => ?_)
  subst ev
  obtain ⟨t', rfl⟩ := rv
  exact ⟨n, t', rfl, h0, h1, .int n, H', I'.tok _, ⟨_, rfl⟩, q2⟩
theorem pdt_truO (L : LenC X.K C f) (F : FnD X.prog X.w X.K X.mg X.base k f fd ps wf) (hl1 : ps.length = 1) (hr : Rm (k + 1) X.A) (tk : Takes X W) (hb : Binds X.K fd ps []) (he : PD X W e we)
    (hi : ∀ whole, isTrue e X.env whole = (do let v ← whole; standAt e.pos; holding [v] (truthy v)) := by intro _; rfl) : PDT X W e (wTruO C wf we) := by
  refine ⟨fun pins s σ H Q I ⟨env, st, Kn, Kx, hold, er, hw, hn, hx⟩ => ?_⟩
  have hA : wpAny (model X.prog X.w) X.A (eval e X.env) (EP X pins σ fun v H1 => ∃ a dx fs, v = .ref a ∧ H1 a = some (.ins C dx fs) ∧ liftSp ps.length wf [.ref a] H1 (fun v H' => ∃ n : Int, v = .int n ∧ 0 ≤ n ∧ n < 2 ^ 63 ∧ Q (n != 0) H') (L2.WE W σ)) X.xe s :=
    he.run pins s σ H _ I ⟨env, st, _, Kx, hold, er, hw, fun d st1 v H1 kk t dn => by
      split at kk
      · rename_i a
        split at kk
        · rename_i C' fs l
          obtain ⟨rfl, kk⟩ := kk
          obtain ⟨dx, vs, ha, hf⟩ := t.hold.at l
          refine ⟨a, dx, vs, dn_ref dn, ha, [.ref a], st1, _, Kx, t.hold, .cons mk_ref .nil, hl1.symm, kk, fun d st2 v H2 k2 t2 d2 => ?_, fun _ _ _ _ _ k2 t2 x2 => hx _ _ _ _ _ k2 (t.trans t2) x2⟩
          split at k2
          · exact ⟨_, dn_int d2, k2.1.1, k2.1.2, hn _ _ _ k2.2 (t.trans t2)⟩
          · exact k2.elim
        · exact kk.elim
      · exact kk.elim, hx⟩
  refine isTrue_plain (thn hA fun v s1 ⟨y, H1, I1, r1, a, dx, fs, ev, ha1, q⟩ => ?_) (hi _)
  subst ev
  obtain rfl : v = Value.ref a := r1
  obtain ⟨mA, O, _⟩ := ins_get I1.hok ha1
  obtain ⟨od, J, _⟩ := O.look
  refine truthy_of_def I1.kIn J L.nob L.len L.fn (run_lenD F hr.in1 rfl tk I1 hb q fun v u H' s' I' rv ⟨n, ev, h0, h1, q2⟩ => ?_)
  subst ev
  obtain ⟨t', rfl⟩ := rv
  exact ⟨n, t', rfl, h0, h1, H', I'.tok _, q2⟩
/-! tuple * n, list(x), values -/
def gMulT : D → D → Sto → KD → Prop := fun x y st Kn => match x, y with
  | .tup ds, .int k => 0 ≤ k ∧ ds.length * k.toNat ≤ sizeLine ∧ Kn (.tup (List.replicate k.toNat ds).flatten) st
  | _, _ => False
end
end DL

namespace L2
open PySem PySem.Spec PyProof.Rows
theorem tuple_mul_one (l : Addr) (items : Array Value) (n : Nat) (dd : Option Addr) (sl : Array (Option Value)) (u : Tok) (hi : items.isEmpty = false) :
    Meets (Builtin.«tuple.__mul__» ⟨[.ref l, .int 1 u], []⟩) (fun _ R s => s.heap.get? l = some { cls := .type "tuple", dict := dd, data := .seq items n, slots := sl } ∧ R (.ok (.ret (Value.ref l))) s) :=
  .of_wp fun prog w A R s h => by
    obtain ⟨hp, g, d, tk, os⟩ := s
    obtain ⟨hl, h⟩ := h
    have f1 := AutoSeq1.idx_int
    wp_walk using AutoSeq1.wpAny_loadPart' hl
    exact ⟨_, rfl, h⟩
section
variable {X : Cx}
def rRepT1 (K : PySem.W.Frag) : R2 := fun x y H Q => ∃ l xs, x = .ref l ∧ y = .int 1 ∧ SqT K H l xs ∧ xs ≠ [] ∧ Q (.ref l) H
theorem op_repT1 : OpR X (binaryOp .Mult) (rRepT1 X.K) := by
  intro pins s σ H x y v u Q I rx ry h
  obtain ⟨l, xs, rfl, rfl, hT, hne, q⟩ := h
  cases rx
  obtain ⟨t, rfl⟩ := ry
  obtain ⟨its, r, ⟨⟨cls, dd, data, sl⟩, ho, hc, n, hd⟩, hs⟩ := I.tuple hT
  simp only at hc hd
  subst hc hd
  have hi : its.toArray.isEmpty = false := by
    cases its with
    | nil => exact absurd (List.eq_nil_of_length_eq_zero r.length) hne
    | cons a b => rfl
  exact wpAny_binaryOp_repeat_ref (T := "tuple") (U := "int") (by decide) ⟨_, ho, rfl⟩ (fun s' => typeIs_int s' 1 t) noFill_tuple_mul F.fills_int_mul F.slot_int_rmul repeat_tuple F.slot_int_index.lookup
    (call_meets F.slot_int_rmul (typeIs_int s 1 t) F.entry_int_rmul (F.args_int_rmul_2 _ _) (int_rmul_tuple 1 t l its.toArray n dd sl)
      ⟨ho, rfl, ⟨_, ho, rfl⟩, call_meets F.slot_tuple_mul ⟨_, ho, rfl⟩ F.entry_tuple_mul (F.args_tuple_mul_2 _ _) (tuple_mul_one l its.toArray n dd sl t hi) ⟨ho, ⟨.ref l, H, I, rfl, q⟩⟩⟩)
end
end L2
namespace DL
open PySem PySem.Spec PyProof.Rows L2
variable [Tb]
section
variable {X : Cx}
def gMulTup : D → D → Sto → KD → Prop := fun x y st Kn => match x, y with
  | .tup ds, .int k => (ds ≠ [] ∧ ds.length ≤ 1000 ∧ 1 ≤ k ∧ k ≤ 1000) ∧ Kn (.tup (List.replicate k.toNat ds).flatten) st
  | _, _ => False
theorem op_mulTup : OpR X (binaryOp .Mult) (fun x y H Q => rRepT X.K x y H Q ∨ rRepT1 X.K x y H Q) := op_repT.or op_repT1
theorem opl_mulTup : OpL (fun x y H Q => rRepT X.K x y H Q ∨ rRepT1 X.K x y H Q) gMulTup := fun d1 d2 v1 v2 H st Kn Q h hold n1 n2 k => by
  unfold gMulTup at h
  split at h
  · obtain ⟨⟨hne, hz, h1, h2⟩, h⟩ := h
    rename_i ds j
    obtain ⟨a, xs, rfl, ha, r⟩ := dn_tup n1
    rw [dn_int n2]
    have hx : xs ≠ [] := fun z => hne (by subst z; exact List.eq_nil_of_length_eq_zero r.length.symm)
    by_cases e : j = 1
    · subst e
      refine .inr ⟨a, xs, rfl, rfl, SqT.of ha, hx, .inl (k _ _ _ _ h (To.refl hold) ?_)⟩
      have e : (List.replicate (1 : Int).toNat ds).flatten = ds := by simp
      rw [e]; exact mk_tup ha r
    · exact .inl ⟨a, j, xs, rfl, rfl, SqT.of ha, hx, by omega, h2, by rw [r.length]; exact hz, fun p hp => .inl (k _ _ _ _ h (hold.laid hp) (hold.ntup hp (r.rep _)))⟩
  · exact h.elim
/-- list(x) -/
def gListOf : List D → Sto → KD → Prop := fun ds st Kn => match ds with
  | [.tup xs] => Kn (.lst xs) st
  | [d] => match lsOf d st with
    | some xs => Kn (.lst xs) st
    | none => False
  | _ => False
theorem calll_listOf : CallL (fun xs H Q => ∃ p ys, xs = [.ref p] ∧ (SqL X.K H p ys ∨ SqT X.K H p ys) ∧ ∀ l, H l = none → Q (.ref l) (upd H l (.lst ys))) gListOf := fun ds vs H st Kn Q h hold dn k => by
  unfold gListOf at h
  split at h
  · obtain ⟨v, r, rfl, d1, dn⟩ := dn.inv
    cases dn.nil_inv
    obtain ⟨a, xs, rfl, ha, r⟩ := dn_tup d1
    exact ⟨a, xs, rfl, .inr (SqT.of ha), fun p hp => hold.nlst hp r fun H' v t d => k _ _ _ _ h t d⟩
  · obtain ⟨v, r, rfl, d1, dn⟩ := dn.inv
    cases dn.nil_inv
    split at h
    · rename_i xs el
      obtain ⟨a, us, rfl, ha, r⟩ := lsOf_rd hold d1 el
      exact ⟨a, us, rfl, .inl (SqL.rd ha), fun p hp => hold.nlst hp r fun H' v t d => k _ _ _ _ h t d⟩
    · exact h.elim
  · exact h.elim
end
end DL

namespace DL
open PySem PySem.Spec PyProof.Rows L2
variable [Tb]
theorem hu64 {k : Nat} {A : Around} (h : Rm k A) : A.units + 64 < cLine := by have := h.un; omega
theorem hu0 {k : Nat} {A : Around} (h : Rm k A) : A.units < cLine := by have := h.un; omega
section
variable {X : Cx} {W : WX} {a b c e o tgE iter elt : Expr} {es ifs : List Expr} {pos p apos : Pos} {wa wb wc we wo : WE} {ws : WA}
theorem pdt_chain {op op' : CmpOp} {r r' : R2} {g g' : D → D → Sto → KD → Prop} (ho : OpR X (compareOp op) r) (ho' : OpR X (compareOp op') r') (hl : OpC r g) (hl' : OpC r' g') (ha : PD X W a wa) (hb : PD X W b wb) (hc : PD X W c wc)
    (hm : lastMarks [op, op'] [b, c] = false := by with_unfolding_all rfl) : PDT X W (.Compare a [op, op'] [b, c] pos) (wTv (wChain g g' wa wb wc)) := by
  refine pdt_of (PT.tst (pt_chain ho ho' ha hb hc hm) ?_)
  rintro σ H Q ⟨env, st, Kn, Kx, hold, er, hw, hn, hx⟩
  refine ⟨env, st, _, Kx, hold, er, hw, fun x st1 v H1 h1 t1 d1 => ?_, hx⟩
  refine ⟨env, st1, _, Kx, t1.hold, er.le t1, h1, fun y st2 u H2 h2 t2 d2 => ?_, fun z st2 cls dd H2 k t2 xr => hx z st2 cls dd H2 k (t1.trans t2) xr⟩
  refine hl x y v u H2 st2 _ _ h2 t2.hold (t2.dn d1) d2 fun z st3 v3 H3 k t3 dn3 => ?_
  split at k
  · rw [dn_bl dn3]
    refine ⟨true, rfl, ?_⟩
    rw [if_pos rfl]
    have t := (t1.trans t2).trans t3
    refine ⟨env, st3, _, Kx, t3.hold, er.le t, k, fun w st4 v4 H4 h4 t4 d4 => ?_, fun z st4 cls dd H4 k t4 xr => hx z st4 cls dd H4 k (t.trans t4) xr⟩
    exact hl' y w u v4 H4 st4 Kn Q h4 t4.hold (t4.dn (t3.dn d2)) d4 fun d st' v' H' k t' dn' => hn d st' v' H' k ((t.trans t4).trans t') dn'
  · rw [dn_bl dn3]
    refine ⟨false, rfl, ?_⟩
    rw [if_neg Bool.false_ne_true]
    exact hn _ _ _ _ k ((t1.trans t2).trans t3) mk_bl
  · exact k.elim
def gNeg : D → Sto → KD → Prop := fun d st Kn => match d with
  | .int i => Kn (.int (-i)) st
  | _ => False
theorem unl_neg : UnL (rU fun i => .int (-i)) gNeg := fun dx x H st Kn Q h hold dn k => by
  unfold gNeg at h
  split at h
  · exact ⟨_, dn_int dn, k _ _ _ _ h (To.refl hold) mk_int⟩
  · exact h.elim
abbrev wCallN (n : Nat) (wf : WF) (ws : WA) : WE := wCall (fun ds st Kn Kx => ds.length = n ∧ wf ds st Kn Kx) ws
abbrev wMakeN (C : Addr) (n : Nat) (wf : WF) (ws : WA) : WE := wMake C (fun ds st Kn Kx => ds.length = n ∧ wf ds st Kn Kx) ws
abbrev wMethN (C : Addr) (m : Str) (n : Nat) (wf : WF) (wo : WE) (ws : WA) : WE := wMeth C m (fun ds st Kn Kx => ds.length = n ∧ wf ds st Kn Kx) wo ws
/-- l.append(x), l a list that changes -/
def gApp : D → List D → Sto → KD → Prop := fun l xs st Kn => match l, xs with
  | .ref a, [x] => match st.lookup a with
    | some (.lst ds) => ds.length < sizeLine ∧ Kn .non (st.put a (.lst (ds ++ [x])))
    | _ => False
  | _, _ => False
def wApp (wo : WE) (ws : WA) : WE := fun env st Kn Kx => wo env st (fun l st1 => (∃ a ds, l = .ref a ∧ st1.lookup a = some (.lst ds)) ∧ ws env st1 (fun xs st2 => gApp l xs st2 Kn) Kx) Kx
theorem pd_app (ho : PD X W o wo) (ha : PDA X W [e] ws) (hbase : attributeBase o "append" X.env (eval o X.env) = eval o X.env := by rfl)
    (hfew : ((backTo pos (starEach [e] X.env)).all (fun x => !x.1) && (backToKw pos (keywordEach [] X.env)).all (fun x => x.1.isSome)
      && decide ([e].length + ([] : List Keyword).length + (if ([] : List Keyword).isEmpty then 0 else 1) < 30)) = true := by rfl)
    (hline : (apos.endLine == pos.line) = true := by rfl) (hs : starEach [e] X.env = (false, eval e X.env) :: starEach [] X.env := by rfl) (hplain : (backTo pos (starEach [] X.env)).any (·.1) = false := by rfl) :
    PD X W (.Call (.Attribute o "append" apos) [e] [] pos) (wApp wo ws) :=
  PE.imp (pe_bm PySem.F.plainAttrs_list PySem.F.slot_list_append PySem.F.type_list_append mt_append ho ha hbase hfew hline hs hplain) fun σ H Q ⟨env, st, Kn, Kx, hold, er, hw, hn, hx⟩ => ⟨env, st, _, Kx, hold, er, hw, fun d st1 v H1 k1 t1 d1 => by
    obtain ⟨⟨a, ds, rfl, l⟩, k1⟩ := k1
    obtain ⟨xs, ha, r⟩ := t1.hold.at l
    refine ⟨?_, env, st1, _, Kx, t1.hold, er.le t1, k1, fun x st2 u H2 k2 t2 d2 => ?_, fun _ _ _ _ _ k2 t2 xr => hx _ _ _ _ _ k2 (t1.trans t2) xr⟩
    · rw [dn_ref d1]; exact .inl ⟨rfl, xs, SqL.of ha⟩
    · unfold gApp at k2
      split at k2
      · rename_i b y e1
        cases e1
        split at k2
        · rename_i ds2 l2
          obtain ⟨ys, hb, r2⟩ := t2.hold.at l2
          obtain ⟨v2, r3, rfl, d3, dn⟩ := d2.inv
          cases dn.nil_inv
          have tw := t2.hold.write (o := .lst (ys ++ [v2])) (on_of l2) (c := .lst (ds2 ++ [y])) ⟨_, upd_same, Dns.ext (ext_write hb trivial) _ _ (r2.append (.cons d3 .nil))⟩
          exact ⟨a, ys, v2, dn_ref d1, rfl, hb, by rw [r2.length]; exact k2.1, hn _ _ _ _ k2.2 ((t1.trans t2).trans tw) mk_non⟩
        · exact k2.elim
      · exact k2.elim, hx⟩
/-! y = [comprehension] -/
variable {i : Nat} {y : Str} {py spos : Pos} {scope : Scope} {own : List (Str × Nat)} {tg : Tgt} {t : WT} {el wi : WE}
omit [Tb] in
theorem foS {s : Stmt} {te : TE} (hi : i < X.N.length) (h : PS X s (tAsg te (gName i))) : PS X s (fun D σ H => te σ H (FO fun v H' => D.nx (σ.set i (some v)) H')) := ⟨fun pins s σ H D I q => by
  have hl : i < σ.length := by rw [I.len]; exact hi
  have key : (fun (v : V) (H' : Hp) => ∃ v', σ.set i (some v) = σ.set i (some v') ∧ FO (fun v H' => D.nx (σ.set i (some v)) H') v' H') = FO (fun v H' => D.nx (σ.set i (some v)) H') := by
    funext v H'
    refine propext ⟨fun ⟨v', e, q⟩ => ?_, fun q => ⟨v, rfl, q⟩⟩
    have e1 : (σ.set i (some v))[i]? = (σ.set i (some v'))[i]? := by rw [e]
    rw [List.getElem?_set_self hl, List.getElem?_set_self hl] at e1
    cases e1
    exact q
  have q2 : tAsg te (gName i) { D with nx := fun σ' H' => ∃ v', σ' = σ.set i (some v') ∧ FO (fun v H' => D.nx (σ.set i (some v)) H') v' H' } σ H := by
    show te σ H (fun (v : V) (H' : Hp) => ∃ v', σ.set i (some v) = σ.set i (some v') ∧ FO (fun v H' => D.nx (σ.set i (some v)) H') v' H')
    rw [key]; exact q
  refine wpAny_mono (h.run pins s σ H _ I q2) (fun f s' hq => ?_) fun _ _ x => x
  cases f with
  | next =>
    obtain ⟨σ', H', I', v', rfl, q'⟩ := hq
    rcases q' with q' | ⟨p, w, rfl, hp, fz, q'⟩
    · exact ⟨_, H', I', q'⟩
    · obtain ⟨o, J⟩ := Inv.frozen I' hp fz
      exact ⟨_, _, J, q' o⟩
  | ret v => exact hq
  | brk => exact hq
  | cont => exact hq⟩
theorem setLc_imp {te : St → Hp → VK → Prop} {w : WE} (h : ∀ σ H Q, lfE W w σ H Q → te σ H (FO Q)) : ∀ (Ed : Ends) σ H, lfS W (wAsg w (dgN i)) Ed σ H → te σ H (FO fun v H' => Ed.nx (σ.set i (some v)) H') :=
  fun Ed σ H ⟨env, st, DD, hold, er, hw, h1, h2, h3, h4, h5⟩ => h _ _ _ ⟨env, st, _, _, hold, er, hw, fun d st' v H' k t dn => h1 _ _ _ _ k t ((er.le t).set i dn), lfE_s er h5⟩
omit [Tb] in
theorem slot_lt {N : List Str} {y : Str} (h : N[i]? = some y) : i < N.length := (List.getElem?_eq_some_iff.mp h).1
theorem pds_setLcL (hc : X.calm = true) (hN : X.N.Nodup) (hy : X.N[i]? = some y) (hyl : X.env.scope.names.lookup y = some .local) (hsw : swapsWith (.ListComp elt [⟨tgE, iter, ifs, 0⟩] scope pos) (some (.Name y py)) spos.line X.env = pure true) (hi : PD X W iter wi) (B : LcOk X tgE elt ifs scope own tg t el)
    (hs : ∀ x, foldedSetIterable iter X.env x = pure x := by intro _; rfl) : PDS X W (.Assign [.Name y py] (.ListComp elt [⟨tgE, iter, ifs, 0⟩] scope pos) spos) (wAsg (wLcL wi tg t el (own.map (·.2))) (dgN i)) := by
  obtain ⟨g, tt, ok, ho, ht, hg, hts, he⟩ := B.ok
  exact PS.imp (foS (slot_lt hy) <| ps_setLc hc hN hy hyl hsw (pi_list hi) ok hg hts he hs) (setLc_imp (lfw_lcL ho ht))
theorem pds_setLcT (hc : X.calm = true) (hN : X.N.Nodup) (hy : X.N[i]? = some y) (hyl : X.env.scope.names.lookup y = some .local) (hsw : swapsWith (.ListComp elt [⟨tgE, iter, ifs, 0⟩] scope pos) (some (.Name y py)) spos.line X.env = pure true) (hi : PD X W iter wi) (B : LcOk X tgE elt ifs scope own tg t el)
    (hs : ∀ x, foldedSetIterable iter X.env x = pure x := by intro _; rfl) : PDS X W (.Assign [.Name y py] (.ListComp elt [⟨tgE, iter, ifs, 0⟩] scope pos) spos) (wAsg (wLc wi tg t el (own.map (·.2))) (dgN i)) := by
  obtain ⟨g, tt, ok, ho, ht, hg, hts, he⟩ := B.ok
  exact PS.imp (foS (slot_lt hy) <| ps_setLc hc hN hy hyl hsw (pi_tup hi) ok hg hts he hs) (setLc_imp (lfw_lcT ho ht))
theorem pds_setLcR1 {cp : Pos} (hc : X.calm = true) (hN : X.N.Nodup) (hy : X.N[i]? = some y) (hyl : X.env.scope.names.lookup y = some .local) (hsw : swapsWith (.ListComp elt [⟨tgE, .Call (.Name "range" p) [a] [] cp, ifs, 0⟩] scope pos) (some (.Name y py)) spos.line X.env = pure true)
    (hgr : Gl X "range") (hm : X.mg "range" = none) (ha : PDA X W [a] ws) (B : LcOk X tgE elt ifs scope own tg t el) (hs1 : starEach [a] X.env = [(false, eval a X.env)] := by rfl)
    (hs : ∀ x, foldedSetIterable (.Call (.Name "range" p) [a] [] cp) X.env x = pure x := by intro _; rfl) : PDS X W (.Assign [.Name y py] (.ListComp elt [⟨tgE, .Call (.Name "range" p) [a] [] cp, ifs, 0⟩] scope pos) spos) (wAsg (wLcR1 ws tg t el (own.map (·.2))) (dgN i)) := by
  obtain ⟨g, tt, ok, ho, ht, hg, hts, he⟩ := B.ok
  exact PS.imp (foS (slot_lt hy) <| ps_setLc hc hN hy hyl hsw (pi_range1 hgr hm ha hs1) ok hg hts he hs) (setLc_imp (lfw_lcR1 ho ht))
theorem pds_setLcE {elts : List Expr} {kk : Nat} {tpos ep : Pos} (hc : X.calm = true) (hN : X.N.Nodup) (hy : X.N[i]? = some y) (hyl : X.env.scope.names.lookup y = some .local) (hsw : swapsWith (.ListComp elt [⟨.Tuple elts kk tpos, .Call (.Name "enumerate" p) [a] [] ep, ifs, 0⟩] scope pos) (some (.Name y py)) spos.line X.env = pure true)
    (hgr : Gl X "enumerate") (hm : X.mg "enumerate" = none) (ha : PDA X W [a] ws) (B : LcOk X (.Tuple elts kk tpos) elt ifs scope own tg t el) (hs1 : starEach [a] X.env = [(false, eval a X.env)] := by rfl)
    (hs : ∀ x, foldedSetIterable (.Call (.Name "enumerate" p) [a] [] ep) X.env x = pure x := by intro _; rfl) : PDS X W (.Assign [.Name y py] (.ListComp elt [⟨.Tuple elts kk tpos, .Call (.Name "enumerate" p) [a] [] ep, ifs, 0⟩] scope pos) spos) (wAsg (wLcE ws tg t el (own.map (·.2))) (dgN i)) := by
  obtain ⟨g, tt, ok, ho, ht, hg, hts, he⟩ := B.ok
  exact PS.imp (foS (slot_lt hy) <| ps_setLc hc hN hy hyl hsw (pi_enumT hgr hm ha hs1) ok hg hts he hs) (setLc_imp (lfw_lcE ho ht))
end
/-! in a list of nested things; equality of plain things -/
def gInD (neg : Bool) : D → D → Sto → KD → Prop := fun dx dy st Kn => match pyS dx st, pyS dy st with
  | some d, some (.list l) => (SeqAt.shaped d = true ∧ SeqAt.shaped (.list l) = true) ∧ Kn (.bl (if neg then !(l.any fun z => PyData.eqv z d) else l.any fun z => PyData.eqv z d)) st
  | _, _ => False
theorem hu65 {k : Nat} {A : Around} (h : Rm k A) : A.units + 65 < cLine := by have := h.un; omega
theorem opl_inD {K : PySem.W.Frag} : OpC (rInD K) (gInD false) := fun dx dy x y H st Kn Q h hold d1 d2 k => by
  unfold gInD at h
  split at h
  · rename_i p l e1 e2
    exact ⟨p, l, pyS_dp hold d1 e1, pyS_dp hold d2 e2, h.1.1, h.1.2, k _ _ _ _ h.2 (To.refl hold) mk_bl⟩
  · exact h.elim
theorem opl_notInD {K : PySem.W.Frag} : OpC (rNotInD K) (gInD true) := fun dx dy x y H st Kn Q h hold d1 d2 k => by
  unfold gInD at h
  split at h
  · rename_i p l e1 e2
    exact ⟨p, l, pyS_dp hold d1 e1, pyS_dp hold d2 e2, h.1.1, h.1.2, k _ _ _ _ h.2 (To.refl hold) mk_bl⟩
  · exact h.elim
theorem shaped_int (i : Int) : SeqAt.shaped (.int i) = true := by
  unfold SeqAt.shaped; simp [PyData.canLay0, PyData.depth]
theorem eq_int {i j : Int} {st : Sto} {Kn : KD} : gEq (.int i) (.int j) st Kn ↔ Kn (.bl (i == j)) st := by
  unfold gEq; simp only [gEqD, pyS, D.py, shaped_int, PyData.eqv, true_and, and_self]
theorem ne_int {i j : Int} {st : Sto} {Kn : KD} : gNe (.int i) (.int j) st Kn ↔ Kn (.bl (!(i == j))) st := by
  unfold gNe; simp only [gNeD, pyS, D.py, shaped_int, PyData.eqv, true_and, and_self]
/-! ### a def, for its callers -/
structure OkB (K : PySem.W.Frag) (mg : Str → Option Value) (x : Str) (f : Addr) (fd : FuncData) (ps : List Str) : Prop where
  mg : x ≠ "" → mg x = some (.ref f)
  kp : PySem.W.keepIn K (.ref f) = true
  bd : Binds K fd ps []
def OkF (P : Program) (w : World) (K : PySem.W.Frag) (mg : Str → Option Value) (base : Heap) (k : Nat) (x : Str) (f : Addr) (ps : List Str) (wf : WF) : Prop := ∃ fd, FnD P w K mg base k f fd ps wf ∧ OkB K mg x f fd ps
def clsAt (s : Stmt) (j : Nat) : Stmt := match s with
  | .ClassDef _ _ _ b _ _ _ _ _ _ _ => b.getD j (.Pass ⟨0, 0, 0, 0⟩)
  | _ => .Pass ⟨0, 0, 0, 0⟩
theorem lenC_of {K : PySem.W.Frag} {C f : Addr} (m : Meth K C "__len__" f) (n : NoAttr K C "__bool__") : LenC K C f := ⟨m.at_, beq_iff_eq.mp m.fn, n⟩
end DL

/-! own exception classes with one field that __init__ sets, over any built-in base (the tail of the mro) -/
namespace PySem
namespace OwnX
open PySem.W PySem.Calls PyProof.Rows PySem.HandSPX Builtin Builtin.ObjectAttr
/-- own classes, then the tail -/
def refsT (tail : List Value) : List Value → Bool
  | .ref _ :: r => refsT tail r
  | l => l == tail
/-- what a tail of built-in classes gives -/
structure TailOk (tail : List Value) : Prop where
  passes : ∀ self, refuseLoop self "__setattr__" tail = pure ()
  ne : tail.isEmpty = false
  nor : ∀ c r, tail ≠ .ref c :: r
  ob : tail.contains (.type "object") = true
theorem refsT_cases {tail : List Value} : ∀ l : List Value, refsT tail l = true → (∃ c r, l = .ref c :: r ∧ refsT tail r = true) ∨ l = tail := by
  intro l e
  unfold refsT at e
  split at e
  · exact .inl ⟨_, _, rfl, e⟩
  · exact .inr (beq_iff_eq.mp e)
theorem refsT_pass {tail : List Value} (T : TailOk tail) (self : Value) : ∀ l : List Value, refsT tail l = true → refuseLoop self "__setattr__" l = pure ()
  | [], e => by
    rcases refsT_cases [] e with ⟨c, r, q, _⟩ | q
    · cases q
    · rw [q]; exact T.passes self
  | a :: r, e => by
    rcases refsT_cases (a :: r) e with ⟨c, r', q, h⟩ | q
    · obtain ⟨rfl, rfl⟩ := List.cons.inj q
      rw [refuseLoop_ref]; exact refsT_pass T self r h
    · rw [q]; exact T.passes self
theorem refsT_contains {tail : List Value} (X : String) : ∀ l : List Value, refsT tail l = true → l.contains (.type X) = tail.contains (.type X)
  | [], e => by
    rcases refsT_cases [] e with ⟨c, r, q, _⟩ | q
    · cases q
    · rw [q]
  | a :: r, e => by
    rcases refsT_cases (a :: r) e with ⟨c, r', q, h⟩ | q
    · obtain ⟨rfl, rfl⟩ := List.cons.inj q
      rw [List.contains_cons, refsT_contains X r h]; rfl
    · rw [q]
theorem refsT_ne {tail : List Value} (T : TailOk tail) {l : List Value} (e : refsT tail l = true) : l.isEmpty = false := by
  cases l with
  | nil =>
    rcases refsT_cases [] e with ⟨c, r, q, _⟩ | q
    · cases q
    · rw [q]; exact T.ne
  | cons _ _ => rfl
abbrev leTail : List Value := [.type "LookupError", .type "Exception", .type "BaseException", .type "object"]
abbrev aeTail : List Value := [.type "ArithmeticError", .type "Exception", .type "BaseException", .type "object"]
theorem tail_ve : TailOk veTail := ⟨fun self => F.store_ValueError.passes self, rfl, fun _ _ h => (by cases h), by decide +kernel⟩
theorem tail_le : TailOk leTail := ⟨fun self => F.store_LookupError.passes self, rfl, fun _ _ h => (by cases h), by decide +kernel⟩
theorem tail_ae : TailOk aeTail := ⟨fun self => F.store_ArithmeticError.passes self, rfl, fun _ _ h => (by cases h), by decide +kernel⟩
section
variable {prog : Program} {w : World} {A : Around} {E : Value → Shared → Prop} {R : Result → Shared → Prop} {hp : Heap} {g : Array GenState} {d : Drawn} {t : Nat} {os : OsState}
theorem osaT {K : W.Frag} {name : Str} {tk : Tok} {v : Value} {x C : Addr} {fv : Array Value} {cd : ClassData} {tail : List Value} (TT : TailOk tail)
    (X : K.In hp) (hx : hp.get? x = some { cls := .ref C, data := .fields fv }) (hcd : W.clsIn K C = some cd) (hm : refsT tail cd.mro = true) (hh : cd.hasDict = true) (ha : W.findIn K (.ref C) name = some none)
    (hq : ∀ h' tk' dx, (∀ b o, b ≠ x → hp.get? b = some o → h'.get? b = some o) → hp.objs.size ≤ dx → dx ≠ x → h'.get? x = some { cls := .ref C, dict := some dx, data := .fields fv } →
      h'.Ns1 dx (fun y => if y = name then some v else none) → R (.ok (.ret .none)) ⟨h', g, d, tk', os⟩) :
    codeAny (model prog w) A (.call (.builtin "object.__setattr__") ⟨[.ref x, .str name tk, v], []⟩) R ⟨hp, g, d, t, os⟩ := by
  have I : W.InstAt hp x { cls := .ref C, data := .fields fv } C none := ⟨hx, rfl, rfl, trivial⟩
  have SF := F.store_object
  have ne := refsT_ne TT hm
  have hob : cd.mro.contains (.type "object") = true := (refsT_contains "object" _ hm).trans TT.ob
  have hxs : x ≠ hp.objs.size := Nat.ne_of_lt (Heap.lt_size hx)
  have sub : W.Looks (model prog w) hp (isInstance (.ref x) (.type "object")) true := I.type.andThen (W.looks_mroIn X (by unfold W.mroIn; rw [hcd, Option.bind_some, if_neg (by rw [ne]; decide), hob]))
  refine codeAny_call_builtin SF.slot.plain SF.entry (@W.check_slot (model prog w) _ _ ⟨hp, g, d, t, os⟩ "object.__setattr__" "object" "__setattr__" (.ref x) [.str name tk, v] [] _ SF.kind SF.split sub (SF.args (.ref x) (.str name tk) v) ?_)
  have hmr : W.Looks (model prog w) hp (mroOf (.ref C)) cd.mro := (W.looks_clsIn X hcd).andThen .now
  have L3 : W.Looks (model prog w) hp (storeTaker? none) none := .now
  have hcls : W.Looks (model prog w) hp (classData C) cd := W.looks_clsIn X hcd
  rw [W.osa_eq, refuse_eq]
  refine wpAny_bind (wpAny_bind (I.type.at (wpAny_bind (hmr.at ?_))))
  rw [refsT_pass TT _ _ hm]
  refine wpAny_pure (wpAny_bind (I.type.at (wpAny_bind ((W.looks_findIn X ha).at (wpAny_bind (L3.at ?_))))))
  show wpAny _ _ (storeInOwnDict (.ref x) (.ref C) (.str name tk) name v false) _ _ _
  obtain ⟨nm, bs, mro, ns, qn, hd, sn, sb, ab, col, del⟩ := cd
  dsimp only at hh
  subst hh
  unfold storeInOwnDict ownDictForStores
  repeat (first | with_reducible refine store_in_new ?_ ?_ | with_reducible refine wpAny_loadPart_at hx ?_ | with_reducible refine hcls.at ?_ | wp_step)
  · exact ⟨_, #[], _, (Heap.get?_update_ne _ _ _ _ hxs.symm).trans (Heap.get?_push_at rfl rfl), rfl, fun e he => absurd he (by simp), fun _ => rfl⟩
  · intro h' tk' hn' hs
    have hx₁ : (hp.push { cls := .type "dict", data := .dict #[] }).get? x = some { cls := .ref C, data := .fields fv } := Heap.get?_push_of_some _ hx
    refine hq h' tk' hp.objs.size (fun b o hb ho => ?_) (Nat.le_refl _) hxs.symm ?_ hn'
    · exact (hs.2 b (Nat.ne_of_lt (Heap.lt_size ho))).trans ((Heap.get?_update_ne _ _ _ _ hb).trans (Heap.get?_push_of_some _ ho))
    · exact (hs.2 x hxs).trans (Heap.get?_update_self _ hx₁ rfl)
end
end OwnX
end PySem

namespace PySem
namespace OwnXvalue
open PySem.W PySem.Calls PyProof.Rows PySem.HandSPX PySem.OwnX
/-! ### the text of __init__ -/
def iA (p1 p2 : Pos) : Arguments := { posonlyargs := [], args := [{ arg := "self", annotation := none, pos := p1 }, { arg := "value", annotation := none, pos := p2 }], vararg := none, kwonlyargs := [], kw_defaults := [], kwarg := none, defaults := [] }
def iB (q1 q2 q3 q4 : Pos) : List Stmt := [.Assign [.Attribute (.Name "self" q1) "value" q2] (.Name "value" q3) q4]
def iS : Scope := { kind := .function, names := [(PySem.Str.ofString "self", .local), (PySem.Str.ofString "value", .local)], isGenerator := false, isCoroutine := false, more := [] }
/-- what the written part says of Low, at C, and of its __init__, at fI -/
structure LowTxt (K : Frag) (mg : Str → Option Value) (B newId initId : String) (tail : List Value) (x q : Str) (C fI : Addr) : Prop where
  base : ExcBaseFacts B newId initId tail
  tl : TailOk tail
  gC : mg x = some (.ref C)
  cls : ∃ nm q N bs bm sn sub ab col dd k0 k1 k2 k3 k5, K.lookup C = some (excClassObj nm q C N bs bm true sn sub ab col dd k0 k1 k2 k3 k5 newId) ∧ refsT tail bm = true
  sa : findIn K (.ref C) "__setattr__" = some (some (.builtin "object.__setattr__"))
  ga : findIn K (.ref C) "__getattribute__" = some (some (.builtin "BaseException.__getattribute__"))
  gg : findIn K (.ref C) "__getattr__" = some none
  noN : findIn K (.ref C) "value" = some none
  iC : findIn K (.ref C) "__init__" = some (some (.ref fI))
  tC : typeIn K (.ref fI) = some (.type "function")
  kC : keepIn K (.ref C) = true
  exC : subIn K (.ref C) (.type "BaseException") = some true
  tyC : typeIn K (.ref C) = some (.type "type")
  hdC : hasDictIn K C = true
  fn : ∃ (oc : Value) (od : Option Addr) (kV doc pm : Value) (an : Option Addr) (cdv ct : Value) (osl : Array (Option Value)) (p1 p2 q1 q2 q3 q4 : Pos),
    K.lookup fI = some ⟨oc, od, .func (fnOf "__init__" q (iA p1 p2) (iB q1 q2 q3 q4) iS .none kV doc pm an cdv ct), osl⟩ ∧ codeIn K cdv q = true
theorem one_size (v : Value) : [v].length ≤ sizeLine := by
  rw [sizeLine_eq]
  exact (by decide : 1 ≤ 16777216)
theorem kept_but {K : Frag} {h h' : Heap} {x : Addr} (X : K.In h) (hx : K.lookup x = none) (k : ∀ b o, b ≠ x → h.get? b = some o → h'.get? b = some o) : K.In h' := fun a o e =>
  k a o (fun z => by rw [z, hx] at e; cases e) (X a o e)
theorem ldC {M : Model} {s : Shared} {name : Str} {scope : Scope} {L a : Addr} {cd : Value} {m : Str → Option Value} {x : Str} {pos : Pos} {v : Value} {Q : Value → Shared → Prop} {A : Around} {E : Value → Shared → Prop} (hn : s.heap.Ns L m) (hv : m x = some v) (h : Q v s)
    (hk : scope.kind = .function := by rfl) (hl : (envOfC name scope L a cd).kindOf x = some .local := by rfl) (hd : (x == ("__debug__" : Str)) = false := by decide) :
    wpAny M A (eval (.Name x pos) (envOfC name scope L a cd)) Q E s := wpAny_Name (wpAny_loadName_local hk hl hn hv h) hd
/-- what __init__ leaves of a fresh exception at x -/
structure InitEnd (h h' : Heap) (x C dx t1 : Addr) (v : Value) : Prop where
  keep : ∀ b o, b ≠ x → h.get? b = some o → h'.get? b = some o
  obj : h'.get? x = some { cls := .ref C, dict := some dx, data := .fields #[.ref t1, .none, .none, .none, .bool false, .none] }
  dbig : h.objs.size ≤ dx
  dne : dx ≠ x
  ns : h'.Ns1 dx (fun y => if y = "value" then some v else none)
/-- a made Low -/
structure OwnMade (h h' : Heap) (e C d : Addr) (v : Value) : Prop where
  keep : ∀ b o, h.get? b = some o → h'.get? b = some o
  new : h.objs.size ≤ e
  obj : ∃ oe vs, h'.get? e = some oe ∧ oe.cls = .ref C ∧ oe.dict = some d ∧ oe.data = .fields vs ∧ vs[1]? = some .none
  dbig : h.objs.size ≤ d
  dne : d ≠ e
  ns : h'.Ns1 d (fun y => if y = "value" then some v else none)
section
variable {prog : Program} {w : World} {A : Around} {E : Value → Shared → Prop} {R : Result → Shared → Prop} {s : Shared} {K : Frag} {mg : Str → Option Value} {C fI : Addr} {B newId initId : String} {tail : List Value} {x0 q0 : Str}
theorem low_init (T : LowTxt K mg B newId initId tail x0 q0 C fI) {x t0 : Addr} {v : Value} (X : K.In s.heap) (hlim : s.heap.NoLimit) (hx : s.heap.get? x = some (excO C t0)) (hnx : K.lookup x = none) (hroom : A.depth < recursionLimit)
    (hq : ∀ h' tk dx, InitEnd s.heap h' x C dx t0 v → R (.ok (.ret .none)) { s with heap := h', toks := tk }) :
    codeAny (model prog w) A (.call (.ref fI) ⟨[.ref x, v], []⟩) R s := by
  obtain ⟨oc, od, kV, doc, pm, an, cdv, ct, osl, p1, p2, q1, q2, q3, q4, ho, hcd⟩ := T.fn
  obtain ⟨nm, q, N, bs, bm, sn, sub, ab, col, dd, k0, k1, k2, k3, k5, hC, hbm⟩ := T.cls
  have hcl : clsIn K C = some { name := nm, bases := bs, mro := .ref C :: bm, ns := N, qualname := q, hasDict := true, slotNames := sn, subclasses := sub, abstract := ab, collection := col, hasDel := false } := by unfold clsIn; rw [hC] <;> rfl
  refine Att.call_fn (binds := [("self", .ref x), ("value", v)]) X hlim ho hcd hroom (BindsTo.of_eq (by first | rfl | with_unfolding_all rfl)) (by first | rfl | decide | with_unfolding_all rfl) (fun s₁ IC => ?_) rfl rfl rfl
  obtain ⟨h₁, tk₁, rfl⟩ := IC.toInCall.same
  have k : ∀ b o, s.heap.get? b = some o → h₁.get? b = some o := IC.toInCall.keep
  have hn := IC.toInCall.ns
  have hxL : s.heap.objs.size ≠ x := Nat.ne_of_gt (Heap.lt_size hx)
  have X₁ : K.In h₁ := X.keeps k
  have hx₁ := k _ _ hx
  -- self.by = by
  show wpAny _ _ (execs _ _) _ _ _
  refine wpAny_execs_cons (plainObj_wpAny_Assign_Attribute ?_)
  refine ldC (v := v) hn (by first | rfl | with_unfolding_all rfl | kernel_rfl) (ldC (v := .ref x) hn (by first | rfl | with_unfolding_all rfl | kernel_rfl) ?_)
  refine set_plain X₁ (ox := excO C t0) (od := none) ⟨hx₁, rfl, rfl, trivial⟩ T.sa ?_
  refine osaT T.tl X₁ hx₁ hcl (show refsT tail (.ref C :: bm) = true from hbm) rfl T.noN (fun h₃ tk₃ dx k₃ dn dne hx₃ hn₃ => ?_)
  show wpAny _ _ (execs _ _) _ _ _
  have z : s.heap.objs.size < h₁.objs.size := hn.lt
  exact wpAny_execs_nil (hq h₃ tk₃ dx ⟨fun b o hb e => k₃ b o hb (k b o e), hx₃, Nat.le_of_lt (Nat.lt_of_lt_of_le z dn), dne, hn₃⟩)
theorem low_made (T : LowTxt K mg B newId initId tail x0 q0 C fI) {v : Value} (X : K.In s.heap) (hlim : s.heap.NoLimit) (hroom : A.depth + 1 < recursionLimit)
    (hq : ∀ h' tk e d, OwnMade s.heap h' e C d v → R (.ok (.ret (.ref e))) { s with heap := h', toks := tk }) :
    codeAny (model prog w) A (.call (.ref C) ⟨[v], []⟩) R s := by
  obtain ⟨nm, q, N, bs, bm, sn, sub, ab, col, dd, k0, k1, k2, k3, k5, hC, hbm⟩ := T.cls
  obtain ⟨hp, g, dr, tk, os⟩ := s
  have k : ∀ b o, hp.get? b = some o → ((hp.push (kdv_tup [v])).push (excO C hp.objs.size)).get? b = some o := fun b o e => Heap.get?_push_of_some _ (Heap.get?_push_of_some _ e)
  have hget : ((hp.push (kdv_tup [v])).push (excO C hp.objs.size)).get? (hp.objs.size + 1) = some (excO C hp.objs.size) := by heap_get
  have hnx : K.lookup (hp.objs.size + 1) = none := by
    cases e : K.lookup (hp.objs.size + 1) with
    | none => rfl
    | some o =>
      have z : hp.get? (hp.objs.size + 1) = some o := X _ _ e
      exact absurd (Nat.lt_of_succ_lt (Heap.lt_size z)) (Nat.lt_irrefl _)
  refine call_own T.base (fun X => refsT_contains X bm hbm) (X _ _ hC) (looks_findIn X T.iC) (fun self => bind_fn X self T.tC) (one_size v) ?_
  refine low_init (s := ⟨(hp.push (kdv_tup [v])).push (excO C hp.objs.size), g, dr, tk, os⟩) T (X.keeps k) (hlim.keeps k) hget hnx ?_ fun h' tk' dx ⟨k', hx, dn, dne, hns⟩ => ?_
  · show A.depth + 1 < recursionLimit
    exact hroom
  · have old : ∀ b o, hp.get? b = some o → h'.get? b = some o := fun b o e => k' b o (Nat.ne_of_lt (Nat.lt_succ_of_lt (Heap.lt_size e))) (k b o e)
    have z : hp.objs.size + 1 + 1 ≤ dx := by
      first
        | (simpa only [Heap.size_push] using dn)
        | exact dn
        | (have q := dn; rw [Heap.size_push, Heap.size_push] at q; exact q)
    exact ⟨rfl, hq h' tk' (hp.objs.size + 1) dx ⟨old, Nat.le_succ _, ⟨_, _, hx, rfl, rfl, rfl, rfl⟩, Nat.le_trans (Nat.le_trans (Nat.le_succ _) (Nat.le_succ _)) z, dne, hns⟩⟩
end
end OwnXvalue
end PySem
namespace L2
open PySem PySem.Spec PyProof.Rows
theorem relO_value {v : V} {v' : Value} (r : RelV v v') (f : Str) : RelO (List.lookup f [(("value" : Str), v)]) (if f = "value" then some v' else none) := by
  by_cases hw : f = "value"
  · subst hw
    rw [if_pos rfl]
    have q : List.lookup ("value" : Str) [(("value" : Str), v)] = some v := by simp [List.lookup]
    rw [q]
    exact r
  · rw [if_neg hw]
    have qw : (f == ("value" : Str)) = false := by simpa using hw
    have q2 : List.lookup f [(("value" : Str), v)] = none := by simp [List.lookup, qw]
    rw [q2]
    trivial
section
variable {X : Cx} {C fI : Addr} {B newId initId : String} {tail : List Value} {x q : Str}
/-- Low(e) -/
def tMk_value (C : Addr) (ta : TA) : St → Hp → XK → Prop := fun σ H Q => ta σ H fun vs H1 => ∃ v, vs = [v] ∧ ∀ d, H1 d = none → Q (.ref C) (some d) (upd H1 d (.xd [(("value" : Str), v)]))
theorem pmk_value {a : Expr} {ta : TA} {p pos : Pos} {k : Nat} (T : PySem.OwnXvalue.LowTxt X.K X.mg B newId initId tail x q C fI) (hr : Room k X.A) (ha : PA X [a] ta) (hg : Gl X x := by rfl) (hdb : (x == ("__debug__" : Str)) = false := by decide)
    (he : starEach (a :: []) X.env = (false, eval a X.env) :: starEach [] X.env := by rfl) (hpl : (backTo pos (starEach [] X.env)).any (·.1) = false := by rfl) :
    PMk X (.Call (.Name x p) [a] [] pos) (tMk_value C ta) := by
  intro pins s σ H Q I h
  refine wpAny_Call_Name_kw (ld_glob I hg T.gC ?_ hdb)
  refine PySem.W.callWith_K (h₀ := X.base) I.ok.mod.kin T.kC (thn (ha.run pos pins s σ H _ I h) fun us s1 hh => ?_) he hpl
  obtain ⟨vs, H1, I1, r1, v, ev, q1⟩ := hh
  subst ev
  refine ⟨I1.kIn, ?_⟩
  cases r1 with
  | cons rv rn =>
    rename_i v' us'
    cases rn
    show wpAny _ _ (call (.ref C) [v']) _ _ _
    have hlim := I1.nolimit
    obtain ⟨hp, g, dr, tk, os⟩ := s1
    refine wpAny_call (PySem.OwnXvalue.low_made T I1.kIn hlim (by have := hr.dp; omega) fun h' tk' e d M => ?_)
    show MkP X pins σ Q (.ref e) ⟨h', g, dr, tk', os⟩
    obtain ⟨oe, fv, hoe, hc, hd, hdat, h1⟩ := M.obj
    have hns := M.ns
    obtain ⟨G', g1, g2⟩ := restrict h' fun b => decide (b ≠ e)
    have gk : ∀ b, b ≠ e → G'.get? b = h'.get? b := fun b hb => g1 b (decide_eq_true hb)
    have ge : G'.get? e = none := g2 e (by simp)
    have old : ∀ b o, hp.get? b = some o → G'.get? b = some o := fun b o q => (gk b (Nat.ne_of_lt (Nat.lt_of_lt_of_le (Heap.lt_size q) M.new))).trans (M.keep b o q)
    have ob : ObjOk X.prog X.w (upd H1 d (.xd [(("value" : Str), v)])) G' d (.xd [(("value" : Str), v)]) :=
      ⟨_, hns.at (fun o q => (gk d M.dne).trans q), fun f => relO_value rv f⟩
    have J : Inv X pins σ (upd H1 d (.xd [(("value" : Str), v)])) ⟨G', g, dr, tk', os⟩ := I1.laid (t' := tk') old M.dbig ob
    refine ⟨e, oe, fv, ⟨G', g, dr, tk', os⟩, _, .ref C, some d, rfl, J, fun b o q => ?_, ge, hoe, ⟨hc, hd⟩, hdat, h1, ?_, rfl, I1.bare, raises_own T.exC T.tyC, q1 d (I1.hok.fresh M.dbig)⟩
    · by_cases hb : b = e
      · have q' : G'.get? b = some o := q
        rw [hb, ge] at q'; cases q'
      · exact (gk b hb).symm.trans q
    · rw [upd_ne (Ne.symm M.dne)]
      exact I1.hok.fresh M.new
/-- raise Low(e) -/
def tRaise_value (C : Addr) (W : WX) (ta : TA) : TS := fun _ σ H => tMk_value C ta σ H fun cls d H' => W cls d σ H'
theorem ps_raise_value {a : Expr} {ta : TA} {W : WX} {p pos pos2 : Pos} {k : Nat} (hc : X.calm = true) (T : PySem.OwnXvalue.LowTxt X.K X.mg B newId initId tail x q C fI) (hr : Room k X.A) (tk : Takes X W) (ha : PA X [a] ta) (hg : Gl X x := by rfl) (hdb : (x == ("__debug__" : Str)) = false := by decide)
    (he : starEach (a :: []) X.env = (false, eval a X.env) :: starEach [] X.env := by rfl) (hpl : (backTo pos (starEach [] X.env)).any (·.1) = false := by rfl) :
    PS X (.Raise (some (.Call (.Name x p) [a] [] pos)) none pos2) (tRaise_value C W ta) := ps_raise hc tk (pmk_value T hr ha hg hdb he hpl)
/-- low.by, low the exception that the suite holds (at a; its class cls, its dict d) -/
def tBy_value (C : Addr) (a : Addr) (cls : Value) (d : Option Addr) (te : TE) : TE := fun σ H Q => te σ H fun x H1 => x = .ref a ∧ cls = .ref C ∧ ∃ (dd : Addr) (v : V), d = some dd ∧ H1 dd = some (.xd [(("value" : Str), v)]) ∧ Q v H1
theorem pe_by_value {a : Addr} {oe : Obj} {cls : Value} {d : Option Addr} {pn : List (Addr × Obj)} {e : Expr} {te : TE} {pos : Pos} (T : PySem.OwnXvalue.LowTxt X.K X.mg B newId initId tail x q C fI) (hz : Zc cls d oe) (hf : ∃ vs, oe.data = .fields vs) (he : PE (X.suite a ((a, oe) :: pn)) e te)
    (hb : attributeBase e "value" X.env (eval e X.env) = eval e X.env := by rfl) :
    PE (X.suite a ((a, oe) :: pn)) (.Attribute e "value" pos) (tBy_value C a cls d te) := by
  refine ⟨fun pins s σ H Q I h => ?_⟩
  refine attr_of hb (thn (he.run pins s σ H _ I h) fun u s1 hh => ?_)
  obtain ⟨x, H1, I1, rx, ex, ec, dd, v, ed, ea, q⟩ := hh
  subst ex
  obtain rfl : u = Value.ref a := rx
  subst ec
  subst ed
  obtain ⟨ha, _⟩ := I1.pin (a, oe) (List.mem_append_left _ List.mem_cons_self)
  obtain ⟨vs, hd⟩ := hf
  have hx : ObjOk X.prog X.w H1 s1.heap dd (.xd [(("value" : Str), v)]) := I1.hok dd _ ea
  obtain ⟨mA, hns, hr⟩ := hx
  obtain ⟨od, ho, hl⟩ := lookIn_ns hns
  have l : List.lookup ("value" : Str) [(("value" : Str), v)] = some v := by simp [List.lookup]
  obtain ⟨u, hu, ru⟩ := RelO.some_of (v := v) (o := mA "value") (by rw [← l]; exact hr "value")
  have J : PySem.W.InstAt s1.heap a oe C (some od) := ⟨ha, hz.1, by unfold PySem.W.notCls; rw [hd] <;> rfl, by rw [hz.2]; exact ho⟩
  exact HandSPX.exc_get I1.kIn J T.ga T.gg T.exC (PySem.W.findObj_own T.hdC T.noN rfl (by rw [hl, hu])) (handed_of ru) ⟨v, H1, I1.tok _, ru, q⟩
end
end L2
namespace PySem
namespace OwnXindex
open PySem.W PySem.Calls PyProof.Rows PySem.HandSPX PySem.OwnX
/-! ### the text of __init__ -/
def iA (p1 p2 : Pos) : Arguments := { posonlyargs := [], args := [{ arg := "self", annotation := none, pos := p1 }, { arg := "index", annotation := none, pos := p2 }], vararg := none, kwonlyargs := [], kw_defaults := [], kwarg := none, defaults := [] }
def iB (q1 q2 q3 q4 : Pos) : List Stmt := [.Assign [.Attribute (.Name "self" q1) "index" q2] (.Name "index" q3) q4]
def iS : Scope := { kind := .function, names := [(PySem.Str.ofString "self", .local), (PySem.Str.ofString "index", .local)], isGenerator := false, isCoroutine := false, more := [] }
/-- what the written part says of Low, at C, and of its __init__, at fI -/
structure LowTxt (K : Frag) (mg : Str → Option Value) (B newId initId : String) (tail : List Value) (x q : Str) (C fI : Addr) : Prop where
  base : ExcBaseFacts B newId initId tail
  tl : TailOk tail
  gC : mg x = some (.ref C)
  cls : ∃ nm q N bs bm sn sub ab col dd k0 k1 k2 k3 k5, K.lookup C = some (excClassObj nm q C N bs bm true sn sub ab col dd k0 k1 k2 k3 k5 newId) ∧ refsT tail bm = true
  sa : findIn K (.ref C) "__setattr__" = some (some (.builtin "object.__setattr__"))
  ga : findIn K (.ref C) "__getattribute__" = some (some (.builtin "BaseException.__getattribute__"))
  gg : findIn K (.ref C) "__getattr__" = some none
  noN : findIn K (.ref C) "index" = some none
  iC : findIn K (.ref C) "__init__" = some (some (.ref fI))
  tC : typeIn K (.ref fI) = some (.type "function")
  kC : keepIn K (.ref C) = true
  exC : subIn K (.ref C) (.type "BaseException") = some true
  tyC : typeIn K (.ref C) = some (.type "type")
  hdC : hasDictIn K C = true
  fn : ∃ (oc : Value) (od : Option Addr) (kV doc pm : Value) (an : Option Addr) (cdv ct : Value) (osl : Array (Option Value)) (p1 p2 q1 q2 q3 q4 : Pos),
    K.lookup fI = some ⟨oc, od, .func (fnOf "__init__" q (iA p1 p2) (iB q1 q2 q3 q4) iS .none kV doc pm an cdv ct), osl⟩ ∧ codeIn K cdv q = true
theorem one_size (v : Value) : [v].length ≤ sizeLine := by
  rw [sizeLine_eq]
  exact (by decide : 1 ≤ 16777216)
theorem kept_but {K : Frag} {h h' : Heap} {x : Addr} (X : K.In h) (hx : K.lookup x = none) (k : ∀ b o, b ≠ x → h.get? b = some o → h'.get? b = some o) : K.In h' := fun a o e =>
  k a o (fun z => by rw [z, hx] at e; cases e) (X a o e)
theorem ldC {M : Model} {s : Shared} {name : Str} {scope : Scope} {L a : Addr} {cd : Value} {m : Str → Option Value} {x : Str} {pos : Pos} {v : Value} {Q : Value → Shared → Prop} {A : Around} {E : Value → Shared → Prop} (hn : s.heap.Ns L m) (hv : m x = some v) (h : Q v s)
    (hk : scope.kind = .function := by rfl) (hl : (envOfC name scope L a cd).kindOf x = some .local := by rfl) (hd : (x == ("__debug__" : Str)) = false := by decide) :
    wpAny M A (eval (.Name x pos) (envOfC name scope L a cd)) Q E s := wpAny_Name (wpAny_loadName_local hk hl hn hv h) hd
/-- what __init__ leaves of a fresh exception at x -/
structure InitEnd (h h' : Heap) (x C dx t1 : Addr) (v : Value) : Prop where
  keep : ∀ b o, b ≠ x → h.get? b = some o → h'.get? b = some o
  obj : h'.get? x = some { cls := .ref C, dict := some dx, data := .fields #[.ref t1, .none, .none, .none, .bool false, .none] }
  dbig : h.objs.size ≤ dx
  dne : dx ≠ x
  ns : h'.Ns1 dx (fun y => if y = "index" then some v else none)
/-- a made Low -/
structure OwnMade (h h' : Heap) (e C d : Addr) (v : Value) : Prop where
  keep : ∀ b o, h.get? b = some o → h'.get? b = some o
  new : h.objs.size ≤ e
  obj : ∃ oe vs, h'.get? e = some oe ∧ oe.cls = .ref C ∧ oe.dict = some d ∧ oe.data = .fields vs ∧ vs[1]? = some .none
  dbig : h.objs.size ≤ d
  dne : d ≠ e
  ns : h'.Ns1 d (fun y => if y = "index" then some v else none)
section
variable {prog : Program} {w : World} {A : Around} {E : Value → Shared → Prop} {R : Result → Shared → Prop} {s : Shared} {K : Frag} {mg : Str → Option Value} {C fI : Addr} {B newId initId : String} {tail : List Value} {x0 q0 : Str}
theorem low_init (T : LowTxt K mg B newId initId tail x0 q0 C fI) {x t0 : Addr} {v : Value} (X : K.In s.heap) (hlim : s.heap.NoLimit) (hx : s.heap.get? x = some (excO C t0)) (hnx : K.lookup x = none) (hroom : A.depth < recursionLimit)
    (hq : ∀ h' tk dx, InitEnd s.heap h' x C dx t0 v → R (.ok (.ret .none)) { s with heap := h', toks := tk }) :
    codeAny (model prog w) A (.call (.ref fI) ⟨[.ref x, v], []⟩) R s := by
  obtain ⟨oc, od, kV, doc, pm, an, cdv, ct, osl, p1, p2, q1, q2, q3, q4, ho, hcd⟩ := T.fn
  obtain ⟨nm, q, N, bs, bm, sn, sub, ab, col, dd, k0, k1, k2, k3, k5, hC, hbm⟩ := T.cls
  have hcl : clsIn K C = some { name := nm, bases := bs, mro := .ref C :: bm, ns := N, qualname := q, hasDict := true, slotNames := sn, subclasses := sub, abstract := ab, collection := col, hasDel := false } := by unfold clsIn; rw [hC] <;> rfl
  refine Att.call_fn (binds := [("self", .ref x), ("index", v)]) X hlim ho hcd hroom (BindsTo.of_eq (by first | rfl | with_unfolding_all rfl)) (by first | rfl | decide | with_unfolding_all rfl) (fun s₁ IC => ?_) rfl rfl rfl
  obtain ⟨h₁, tk₁, rfl⟩ := IC.toInCall.same
  have k : ∀ b o, s.heap.get? b = some o → h₁.get? b = some o := IC.toInCall.keep
  have hn := IC.toInCall.ns
  have hxL : s.heap.objs.size ≠ x := Nat.ne_of_gt (Heap.lt_size hx)
  have X₁ : K.In h₁ := X.keeps k
  have hx₁ := k _ _ hx
  -- self.by = by
  show wpAny _ _ (execs _ _) _ _ _
  refine wpAny_execs_cons (plainObj_wpAny_Assign_Attribute ?_)
  refine ldC (v := v) hn (by first | rfl | with_unfolding_all rfl | kernel_rfl) (ldC (v := .ref x) hn (by first | rfl | with_unfolding_all rfl | kernel_rfl) ?_)
  refine set_plain X₁ (ox := excO C t0) (od := none) ⟨hx₁, rfl, rfl, trivial⟩ T.sa ?_
  refine osaT T.tl X₁ hx₁ hcl (show refsT tail (.ref C :: bm) = true from hbm) rfl T.noN (fun h₃ tk₃ dx k₃ dn dne hx₃ hn₃ => ?_)
  show wpAny _ _ (execs _ _) _ _ _
  have z : s.heap.objs.size < h₁.objs.size := hn.lt
  exact wpAny_execs_nil (hq h₃ tk₃ dx ⟨fun b o hb e => k₃ b o hb (k b o e), hx₃, Nat.le_of_lt (Nat.lt_of_lt_of_le z dn), dne, hn₃⟩)
theorem low_made (T : LowTxt K mg B newId initId tail x0 q0 C fI) {v : Value} (X : K.In s.heap) (hlim : s.heap.NoLimit) (hroom : A.depth + 1 < recursionLimit)
    (hq : ∀ h' tk e d, OwnMade s.heap h' e C d v → R (.ok (.ret (.ref e))) { s with heap := h', toks := tk }) :
    codeAny (model prog w) A (.call (.ref C) ⟨[v], []⟩) R s := by
  obtain ⟨nm, q, N, bs, bm, sn, sub, ab, col, dd, k0, k1, k2, k3, k5, hC, hbm⟩ := T.cls
  obtain ⟨hp, g, dr, tk, os⟩ := s
  have k : ∀ b o, hp.get? b = some o → ((hp.push (kdv_tup [v])).push (excO C hp.objs.size)).get? b = some o := fun b o e => Heap.get?_push_of_some _ (Heap.get?_push_of_some _ e)
  have hget : ((hp.push (kdv_tup [v])).push (excO C hp.objs.size)).get? (hp.objs.size + 1) = some (excO C hp.objs.size) := by heap_get
  have hnx : K.lookup (hp.objs.size + 1) = none := by
    cases e : K.lookup (hp.objs.size + 1) with
    | none => rfl
    | some o =>
      have z : hp.get? (hp.objs.size + 1) = some o := X _ _ e
      exact absurd (Nat.lt_of_succ_lt (Heap.lt_size z)) (Nat.lt_irrefl _)
  refine call_own T.base (fun X => refsT_contains X bm hbm) (X _ _ hC) (looks_findIn X T.iC) (fun self => bind_fn X self T.tC) (one_size v) ?_
  refine low_init (s := ⟨(hp.push (kdv_tup [v])).push (excO C hp.objs.size), g, dr, tk, os⟩) T (X.keeps k) (hlim.keeps k) hget hnx ?_ fun h' tk' dx ⟨k', hx, dn, dne, hns⟩ => ?_
  · show A.depth + 1 < recursionLimit
    exact hroom
  · have old : ∀ b o, hp.get? b = some o → h'.get? b = some o := fun b o e => k' b o (Nat.ne_of_lt (Nat.lt_succ_of_lt (Heap.lt_size e))) (k b o e)
    have z : hp.objs.size + 1 + 1 ≤ dx := by
      first
        | (simpa only [Heap.size_push] using dn)
        | exact dn
        | (have q := dn; rw [Heap.size_push, Heap.size_push] at q; exact q)
    exact ⟨rfl, hq h' tk' (hp.objs.size + 1) dx ⟨old, Nat.le_succ _, ⟨_, _, hx, rfl, rfl, rfl, rfl⟩, Nat.le_trans (Nat.le_trans (Nat.le_succ _) (Nat.le_succ _)) z, dne, hns⟩⟩
end
end OwnXindex
end PySem
namespace L2
open PySem PySem.Spec PyProof.Rows
theorem relO_index {v : V} {v' : Value} (r : RelV v v') (f : Str) : RelO (List.lookup f [(("index" : Str), v)]) (if f = "index" then some v' else none) := by
  by_cases hw : f = "index"
  · subst hw
    rw [if_pos rfl]
    have q : List.lookup ("index" : Str) [(("index" : Str), v)] = some v := by simp [List.lookup]
    rw [q]
    exact r
  · rw [if_neg hw]
    have qw : (f == ("index" : Str)) = false := by simpa using hw
    have q2 : List.lookup f [(("index" : Str), v)] = none := by simp [List.lookup, qw]
    rw [q2]
    trivial
section
variable {X : Cx} {C fI : Addr} {B newId initId : String} {tail : List Value} {x q : Str}
/-- Low(e) -/
def tMk_index (C : Addr) (ta : TA) : St → Hp → XK → Prop := fun σ H Q => ta σ H fun vs H1 => ∃ v, vs = [v] ∧ ∀ d, H1 d = none → Q (.ref C) (some d) (upd H1 d (.xd [(("index" : Str), v)]))
theorem pmk_index {a : Expr} {ta : TA} {p pos : Pos} {k : Nat} (T : PySem.OwnXindex.LowTxt X.K X.mg B newId initId tail x q C fI) (hr : Room k X.A) (ha : PA X [a] ta) (hg : Gl X x := by rfl) (hdb : (x == ("__debug__" : Str)) = false := by decide)
    (he : starEach (a :: []) X.env = (false, eval a X.env) :: starEach [] X.env := by rfl) (hpl : (backTo pos (starEach [] X.env)).any (·.1) = false := by rfl) :
    PMk X (.Call (.Name x p) [a] [] pos) (tMk_index C ta) := by
  intro pins s σ H Q I h
  refine wpAny_Call_Name_kw (ld_glob I hg T.gC ?_ hdb)
  refine PySem.W.callWith_K (h₀ := X.base) I.ok.mod.kin T.kC (thn (ha.run pos pins s σ H _ I h) fun us s1 hh => ?_) he hpl
  obtain ⟨vs, H1, I1, r1, v, ev, q1⟩ := hh
  subst ev
  refine ⟨I1.kIn, ?_⟩
  cases r1 with
  | cons rv rn =>
    rename_i v' us'
    cases rn
    show wpAny _ _ (call (.ref C) [v']) _ _ _
    have hlim := I1.nolimit
    obtain ⟨hp, g, dr, tk, os⟩ := s1
    refine wpAny_call (PySem.OwnXindex.low_made T I1.kIn hlim (by have := hr.dp; omega) fun h' tk' e d M => ?_)
    show MkP X pins σ Q (.ref e) ⟨h', g, dr, tk', os⟩
    obtain ⟨oe, fv, hoe, hc, hd, hdat, h1⟩ := M.obj
    have hns := M.ns
    obtain ⟨G', g1, g2⟩ := restrict h' fun b => decide (b ≠ e)
    have gk : ∀ b, b ≠ e → G'.get? b = h'.get? b := fun b hb => g1 b (decide_eq_true hb)
    have ge : G'.get? e = none := g2 e (by simp)
    have old : ∀ b o, hp.get? b = some o → G'.get? b = some o := fun b o q => (gk b (Nat.ne_of_lt (Nat.lt_of_lt_of_le (Heap.lt_size q) M.new))).trans (M.keep b o q)
    have ob : ObjOk X.prog X.w (upd H1 d (.xd [(("index" : Str), v)])) G' d (.xd [(("index" : Str), v)]) :=
      ⟨_, hns.at (fun o q => (gk d M.dne).trans q), fun f => relO_index rv f⟩
    have J : Inv X pins σ (upd H1 d (.xd [(("index" : Str), v)])) ⟨G', g, dr, tk', os⟩ := I1.laid (t' := tk') old M.dbig ob
    refine ⟨e, oe, fv, ⟨G', g, dr, tk', os⟩, _, .ref C, some d, rfl, J, fun b o q => ?_, ge, hoe, ⟨hc, hd⟩, hdat, h1, ?_, rfl, I1.bare, raises_own T.exC T.tyC, q1 d (I1.hok.fresh M.dbig)⟩
    · by_cases hb : b = e
      · have q' : G'.get? b = some o := q
        rw [hb, ge] at q'; cases q'
      · exact (gk b hb).symm.trans q
    · rw [upd_ne (Ne.symm M.dne)]
      exact I1.hok.fresh M.new
/-- raise Low(e) -/
def tRaise_index (C : Addr) (W : WX) (ta : TA) : TS := fun _ σ H => tMk_index C ta σ H fun cls d H' => W cls d σ H'
theorem ps_raise_index {a : Expr} {ta : TA} {W : WX} {p pos pos2 : Pos} {k : Nat} (hc : X.calm = true) (T : PySem.OwnXindex.LowTxt X.K X.mg B newId initId tail x q C fI) (hr : Room k X.A) (tk : Takes X W) (ha : PA X [a] ta) (hg : Gl X x := by rfl) (hdb : (x == ("__debug__" : Str)) = false := by decide)
    (he : starEach (a :: []) X.env = (false, eval a X.env) :: starEach [] X.env := by rfl) (hpl : (backTo pos (starEach [] X.env)).any (·.1) = false := by rfl) :
    PS X (.Raise (some (.Call (.Name x p) [a] [] pos)) none pos2) (tRaise_index C W ta) := ps_raise hc tk (pmk_index T hr ha hg hdb he hpl)
/-- low.by, low the exception that the suite holds (at a; its class cls, its dict d) -/
def tBy_index (C : Addr) (a : Addr) (cls : Value) (d : Option Addr) (te : TE) : TE := fun σ H Q => te σ H fun x H1 => x = .ref a ∧ cls = .ref C ∧ ∃ (dd : Addr) (v : V), d = some dd ∧ H1 dd = some (.xd [(("index" : Str), v)]) ∧ Q v H1
theorem pe_by_index {a : Addr} {oe : Obj} {cls : Value} {d : Option Addr} {pn : List (Addr × Obj)} {e : Expr} {te : TE} {pos : Pos} (T : PySem.OwnXindex.LowTxt X.K X.mg B newId initId tail x q C fI) (hz : Zc cls d oe) (hf : ∃ vs, oe.data = .fields vs) (he : PE (X.suite a ((a, oe) :: pn)) e te)
    (hb : attributeBase e "index" X.env (eval e X.env) = eval e X.env := by rfl) :
    PE (X.suite a ((a, oe) :: pn)) (.Attribute e "index" pos) (tBy_index C a cls d te) := by
  refine ⟨fun pins s σ H Q I h => ?_⟩
  refine attr_of hb (thn (he.run pins s σ H _ I h) fun u s1 hh => ?_)
  obtain ⟨x, H1, I1, rx, ex, ec, dd, v, ed, ea, q⟩ := hh
  subst ex
  obtain rfl : u = Value.ref a := rx
  subst ec
  subst ed
  obtain ⟨ha, _⟩ := I1.pin (a, oe) (List.mem_append_left _ List.mem_cons_self)
  obtain ⟨vs, hd⟩ := hf
  have hx : ObjOk X.prog X.w H1 s1.heap dd (.xd [(("index" : Str), v)]) := I1.hok dd _ ea
  obtain ⟨mA, hns, hr⟩ := hx
  obtain ⟨od, ho, hl⟩ := lookIn_ns hns
  have l : List.lookup ("index" : Str) [(("index" : Str), v)] = some v := by simp [List.lookup]
  obtain ⟨u, hu, ru⟩ := RelO.some_of (v := v) (o := mA "index") (by rw [← l]; exact hr "index")
  have J : PySem.W.InstAt s1.heap a oe C (some od) := ⟨ha, hz.1, by unfold PySem.W.notCls; rw [hd] <;> rfl, by rw [hz.2]; exact ho⟩
  exact HandSPX.exc_get I1.kIn J T.ga T.gg T.exC (PySem.W.findObj_own T.hdC T.noN rfl (by rw [hl, hu])) (handed_of ru) ⟨v, H1, I1.tok _, ru, q⟩
end
end L2
namespace PySem
namespace OwnXlimit
open PySem.W PySem.Calls PyProof.Rows PySem.HandSPX PySem.OwnX
/-! ### the text of __init__ -/
def iA (p1 p2 : Pos) : Arguments := { posonlyargs := [], args := [{ arg := "self", annotation := none, pos := p1 }, { arg := "limit", annotation := none, pos := p2 }], vararg := none, kwonlyargs := [], kw_defaults := [], kwarg := none, defaults := [] }
def iB (q1 q2 q3 q4 : Pos) : List Stmt := [.Assign [.Attribute (.Name "self" q1) "limit" q2] (.Name "limit" q3) q4]
def iS : Scope := { kind := .function, names := [(PySem.Str.ofString "self", .local), (PySem.Str.ofString "limit", .local)], isGenerator := false, isCoroutine := false, more := [] }
/-- what the written part says of Low, at C, and of its __init__, at fI -/
structure LowTxt (K : Frag) (mg : Str → Option Value) (B newId initId : String) (tail : List Value) (x q : Str) (C fI : Addr) : Prop where
  base : ExcBaseFacts B newId initId tail
  tl : TailOk tail
  gC : mg x = some (.ref C)
  cls : ∃ nm q N bs bm sn sub ab col dd k0 k1 k2 k3 k5, K.lookup C = some (excClassObj nm q C N bs bm true sn sub ab col dd k0 k1 k2 k3 k5 newId) ∧ refsT tail bm = true
  sa : findIn K (.ref C) "__setattr__" = some (some (.builtin "object.__setattr__"))
  ga : findIn K (.ref C) "__getattribute__" = some (some (.builtin "BaseException.__getattribute__"))
  gg : findIn K (.ref C) "__getattr__" = some none
  noN : findIn K (.ref C) "limit" = some none
  iC : findIn K (.ref C) "__init__" = some (some (.ref fI))
  tC : typeIn K (.ref fI) = some (.type "function")
  kC : keepIn K (.ref C) = true
  exC : subIn K (.ref C) (.type "BaseException") = some true
  tyC : typeIn K (.ref C) = some (.type "type")
  hdC : hasDictIn K C = true
  fn : ∃ (oc : Value) (od : Option Addr) (kV doc pm : Value) (an : Option Addr) (cdv ct : Value) (osl : Array (Option Value)) (p1 p2 q1 q2 q3 q4 : Pos),
    K.lookup fI = some ⟨oc, od, .func (fnOf "__init__" q (iA p1 p2) (iB q1 q2 q3 q4) iS .none kV doc pm an cdv ct), osl⟩ ∧ codeIn K cdv q = true
theorem one_size (v : Value) : [v].length ≤ sizeLine := by
  rw [sizeLine_eq]
  exact (by decide : 1 ≤ 16777216)
theorem kept_but {K : Frag} {h h' : Heap} {x : Addr} (X : K.In h) (hx : K.lookup x = none) (k : ∀ b o, b ≠ x → h.get? b = some o → h'.get? b = some o) : K.In h' := fun a o e =>
  k a o (fun z => by rw [z, hx] at e; cases e) (X a o e)
theorem ldC {M : Model} {s : Shared} {name : Str} {scope : Scope} {L a : Addr} {cd : Value} {m : Str → Option Value} {x : Str} {pos : Pos} {v : Value} {Q : Value → Shared → Prop} {A : Around} {E : Value → Shared → Prop} (hn : s.heap.Ns L m) (hv : m x = some v) (h : Q v s)
    (hk : scope.kind = .function := by rfl) (hl : (envOfC name scope L a cd).kindOf x = some .local := by rfl) (hd : (x == ("__debug__" : Str)) = false := by decide) :
    wpAny M A (eval (.Name x pos) (envOfC name scope L a cd)) Q E s := wpAny_Name (wpAny_loadName_local hk hl hn hv h) hd
/-- what __init__ leaves of a fresh exception at x -/
structure InitEnd (h h' : Heap) (x C dx t1 : Addr) (v : Value) : Prop where
  keep : ∀ b o, b ≠ x → h.get? b = some o → h'.get? b = some o
  obj : h'.get? x = some { cls := .ref C, dict := some dx, data := .fields #[.ref t1, .none, .none, .none, .bool false, .none] }
  dbig : h.objs.size ≤ dx
  dne : dx ≠ x
  ns : h'.Ns1 dx (fun y => if y = "limit" then some v else none)
/-- a made Low -/
structure OwnMade (h h' : Heap) (e C d : Addr) (v : Value) : Prop where
  keep : ∀ b o, h.get? b = some o → h'.get? b = some o
  new : h.objs.size ≤ e
  obj : ∃ oe vs, h'.get? e = some oe ∧ oe.cls = .ref C ∧ oe.dict = some d ∧ oe.data = .fields vs ∧ vs[1]? = some .none
  dbig : h.objs.size ≤ d
  dne : d ≠ e
  ns : h'.Ns1 d (fun y => if y = "limit" then some v else none)
section
variable {prog : Program} {w : World} {A : Around} {E : Value → Shared → Prop} {R : Result → Shared → Prop} {s : Shared} {K : Frag} {mg : Str → Option Value} {C fI : Addr} {B newId initId : String} {tail : List Value} {x0 q0 : Str}
theorem low_init (T : LowTxt K mg B newId initId tail x0 q0 C fI) {x t0 : Addr} {v : Value} (X : K.In s.heap) (hlim : s.heap.NoLimit) (hx : s.heap.get? x = some (excO C t0)) (hnx : K.lookup x = none) (hroom : A.depth < recursionLimit)
    (hq : ∀ h' tk dx, InitEnd s.heap h' x C dx t0 v → R (.ok (.ret .none)) { s with heap := h', toks := tk }) :
    codeAny (model prog w) A (.call (.ref fI) ⟨[.ref x, v], []⟩) R s := by
  obtain ⟨oc, od, kV, doc, pm, an, cdv, ct, osl, p1, p2, q1, q2, q3, q4, ho, hcd⟩ := T.fn
  obtain ⟨nm, q, N, bs, bm, sn, sub, ab, col, dd, k0, k1, k2, k3, k5, hC, hbm⟩ := T.cls
  have hcl : clsIn K C = some { name := nm, bases := bs, mro := .ref C :: bm, ns := N, qualname := q, hasDict := true, slotNames := sn, subclasses := sub, abstract := ab, collection := col, hasDel := false } := by unfold clsIn; rw [hC] <;> rfl
  refine Att.call_fn (binds := [("self", .ref x), ("limit", v)]) X hlim ho hcd hroom (BindsTo.of_eq (by first | rfl | with_unfolding_all rfl)) (by first | rfl | decide | with_unfolding_all rfl) (fun s₁ IC => ?_) rfl rfl rfl
  obtain ⟨h₁, tk₁, rfl⟩ := IC.toInCall.same
  have k : ∀ b o, s.heap.get? b = some o → h₁.get? b = some o := IC.toInCall.keep
  have hn := IC.toInCall.ns
  have hxL : s.heap.objs.size ≠ x := Nat.ne_of_gt (Heap.lt_size hx)
  have X₁ : K.In h₁ := X.keeps k
  have hx₁ := k _ _ hx
  -- self.by = by
  show wpAny _ _ (execs _ _) _ _ _
  refine wpAny_execs_cons (plainObj_wpAny_Assign_Attribute ?_)
  refine ldC (v := v) hn (by first | rfl | with_unfolding_all rfl | kernel_rfl) (ldC (v := .ref x) hn (by first | rfl | with_unfolding_all rfl | kernel_rfl) ?_)
  refine set_plain X₁ (ox := excO C t0) (od := none) ⟨hx₁, rfl, rfl, trivial⟩ T.sa ?_
  refine osaT T.tl X₁ hx₁ hcl (show refsT tail (.ref C :: bm) = true from hbm) rfl T.noN (fun h₃ tk₃ dx k₃ dn dne hx₃ hn₃ => ?_)
  show wpAny _ _ (execs _ _) _ _ _
  have z : s.heap.objs.size < h₁.objs.size := hn.lt
  exact wpAny_execs_nil (hq h₃ tk₃ dx ⟨fun b o hb e => k₃ b o hb (k b o e), hx₃, Nat.le_of_lt (Nat.lt_of_lt_of_le z dn), dne, hn₃⟩)
theorem low_made (T : LowTxt K mg B newId initId tail x0 q0 C fI) {v : Value} (X : K.In s.heap) (hlim : s.heap.NoLimit) (hroom : A.depth + 1 < recursionLimit)
    (hq : ∀ h' tk e d, OwnMade s.heap h' e C d v → R (.ok (.ret (.ref e))) { s with heap := h', toks := tk }) :
    codeAny (model prog w) A (.call (.ref C) ⟨[v], []⟩) R s := by
  obtain ⟨nm, q, N, bs, bm, sn, sub, ab, col, dd, k0, k1, k2, k3, k5, hC, hbm⟩ := T.cls
  obtain ⟨hp, g, dr, tk, os⟩ := s
  have k : ∀ b o, hp.get? b = some o → ((hp.push (kdv_tup [v])).push (excO C hp.objs.size)).get? b = some o := fun b o e => Heap.get?_push_of_some _ (Heap.get?_push_of_some _ e)
  have hget : ((hp.push (kdv_tup [v])).push (excO C hp.objs.size)).get? (hp.objs.size + 1) = some (excO C hp.objs.size) := by heap_get
  have hnx : K.lookup (hp.objs.size + 1) = none := by
    cases e : K.lookup (hp.objs.size + 1) with
    | none => rfl
    | some o =>
      have z : hp.get? (hp.objs.size + 1) = some o := X _ _ e
      exact absurd (Nat.lt_of_succ_lt (Heap.lt_size z)) (Nat.lt_irrefl _)
  refine call_own T.base (fun X => refsT_contains X bm hbm) (X _ _ hC) (looks_findIn X T.iC) (fun self => bind_fn X self T.tC) (one_size v) ?_
  refine low_init (s := ⟨(hp.push (kdv_tup [v])).push (excO C hp.objs.size), g, dr, tk, os⟩) T (X.keeps k) (hlim.keeps k) hget hnx ?_ fun h' tk' dx ⟨k', hx, dn, dne, hns⟩ => ?_
  · show A.depth + 1 < recursionLimit
    exact hroom
  · have old : ∀ b o, hp.get? b = some o → h'.get? b = some o := fun b o e => k' b o (Nat.ne_of_lt (Nat.lt_succ_of_lt (Heap.lt_size e))) (k b o e)
    have z : hp.objs.size + 1 + 1 ≤ dx := by
      first
        | (simpa only [Heap.size_push] using dn)
        | exact dn
        | (have q := dn; rw [Heap.size_push, Heap.size_push] at q; exact q)
    exact ⟨rfl, hq h' tk' (hp.objs.size + 1) dx ⟨old, Nat.le_succ _, ⟨_, _, hx, rfl, rfl, rfl, rfl⟩, Nat.le_trans (Nat.le_trans (Nat.le_succ _) (Nat.le_succ _)) z, dne, hns⟩⟩
end
end OwnXlimit
end PySem
namespace L2
open PySem PySem.Spec PyProof.Rows
theorem relO_limit {v : V} {v' : Value} (r : RelV v v') (f : Str) : RelO (List.lookup f [(("limit" : Str), v)]) (if f = "limit" then some v' else none) := by
  by_cases hw : f = "limit"
  · subst hw
    rw [if_pos rfl]
    have q : List.lookup ("limit" : Str) [(("limit" : Str), v)] = some v := by simp [List.lookup]
    rw [q]
    exact r
  · rw [if_neg hw]
    have qw : (f == ("limit" : Str)) = false := by simpa using hw
    have q2 : List.lookup f [(("limit" : Str), v)] = none := by simp [List.lookup, qw]
    rw [q2]
    trivial
section
variable {X : Cx} {C fI : Addr} {B newId initId : String} {tail : List Value} {x q : Str}
/-- Low(e) -/
def tMk_limit (C : Addr) (ta : TA) : St → Hp → XK → Prop := fun σ H Q => ta σ H fun vs H1 => ∃ v, vs = [v] ∧ ∀ d, H1 d = none → Q (.ref C) (some d) (upd H1 d (.xd [(("limit" : Str), v)]))
theorem pmk_limit {a : Expr} {ta : TA} {p pos : Pos} {k : Nat} (T : PySem.OwnXlimit.LowTxt X.K X.mg B newId initId tail x q C fI) (hr : Room k X.A) (ha : PA X [a] ta) (hg : Gl X x := by rfl) (hdb : (x == ("__debug__" : Str)) = false := by decide)
    (he : starEach (a :: []) X.env = (false, eval a X.env) :: starEach [] X.env := by rfl) (hpl : (backTo pos (starEach [] X.env)).any (·.1) = false := by rfl) :
    PMk X (.Call (.Name x p) [a] [] pos) (tMk_limit C ta) := by
  intro pins s σ H Q I h
  refine wpAny_Call_Name_kw (ld_glob I hg T.gC ?_ hdb)
  refine PySem.W.callWith_K (h₀ := X.base) I.ok.mod.kin T.kC (thn (ha.run pos pins s σ H _ I h) fun us s1 hh => ?_) he hpl
  obtain ⟨vs, H1, I1, r1, v, ev, q1⟩ := hh
  subst ev
  refine ⟨I1.kIn, ?_⟩
  cases r1 with
  | cons rv rn =>
    rename_i v' us'
    cases rn
    show wpAny _ _ (call (.ref C) [v']) _ _ _
    have hlim := I1.nolimit
    obtain ⟨hp, g, dr, tk, os⟩ := s1
    refine wpAny_call (PySem.OwnXlimit.low_made T I1.kIn hlim (by have := hr.dp; omega) fun h' tk' e d M => ?_)
    show MkP X pins σ Q (.ref e) ⟨h', g, dr, tk', os⟩
    obtain ⟨oe, fv, hoe, hc, hd, hdat, h1⟩ := M.obj
    have hns := M.ns
    obtain ⟨G', g1, g2⟩ := restrict h' fun b => decide (b ≠ e)
    have gk : ∀ b, b ≠ e → G'.get? b = h'.get? b := fun b hb => g1 b (decide_eq_true hb)
    have ge : G'.get? e = none := g2 e (by simp)
    have old : ∀ b o, hp.get? b = some o → G'.get? b = some o := fun b o q => (gk b (Nat.ne_of_lt (Nat.lt_of_lt_of_le (Heap.lt_size q) M.new))).trans (M.keep b o q)
    have ob : ObjOk X.prog X.w (upd H1 d (.xd [(("limit" : Str), v)])) G' d (.xd [(("limit" : Str), v)]) :=
      ⟨_, hns.at (fun o q => (gk d M.dne).trans q), fun f => relO_limit rv f⟩
    have J : Inv X pins σ (upd H1 d (.xd [(("limit" : Str), v)])) ⟨G', g, dr, tk', os⟩ := I1.laid (t' := tk') old M.dbig ob
    refine ⟨e, oe, fv, ⟨G', g, dr, tk', os⟩, _, .ref C, some d, rfl, J, fun b o q => ?_, ge, hoe, ⟨hc, hd⟩, hdat, h1, ?_, rfl, I1.bare, raises_own T.exC T.tyC, q1 d (I1.hok.fresh M.dbig)⟩
    · by_cases hb : b = e
      · have q' : G'.get? b = some o := q
        rw [hb, ge] at q'; cases q'
      · exact (gk b hb).symm.trans q
    · rw [upd_ne (Ne.symm M.dne)]
      exact I1.hok.fresh M.new
/-- raise Low(e) -/
def tRaise_limit (C : Addr) (W : WX) (ta : TA) : TS := fun _ σ H => tMk_limit C ta σ H fun cls d H' => W cls d σ H'
theorem ps_raise_limit {a : Expr} {ta : TA} {W : WX} {p pos pos2 : Pos} {k : Nat} (hc : X.calm = true) (T : PySem.OwnXlimit.LowTxt X.K X.mg B newId initId tail x q C fI) (hr : Room k X.A) (tk : Takes X W) (ha : PA X [a] ta) (hg : Gl X x := by rfl) (hdb : (x == ("__debug__" : Str)) = false := by decide)
    (he : starEach (a :: []) X.env = (false, eval a X.env) :: starEach [] X.env := by rfl) (hpl : (backTo pos (starEach [] X.env)).any (·.1) = false := by rfl) :
    PS X (.Raise (some (.Call (.Name x p) [a] [] pos)) none pos2) (tRaise_limit C W ta) := ps_raise hc tk (pmk_limit T hr ha hg hdb he hpl)
/-- low.by, low the exception that the suite holds (at a; its class cls, its dict d) -/
def tBy_limit (C : Addr) (a : Addr) (cls : Value) (d : Option Addr) (te : TE) : TE := fun σ H Q => te σ H fun x H1 => x = .ref a ∧ cls = .ref C ∧ ∃ (dd : Addr) (v : V), d = some dd ∧ H1 dd = some (.xd [(("limit" : Str), v)]) ∧ Q v H1
theorem pe_by_limit {a : Addr} {oe : Obj} {cls : Value} {d : Option Addr} {pn : List (Addr × Obj)} {e : Expr} {te : TE} {pos : Pos} (T : PySem.OwnXlimit.LowTxt X.K X.mg B newId initId tail x q C fI) (hz : Zc cls d oe) (hf : ∃ vs, oe.data = .fields vs) (he : PE (X.suite a ((a, oe) :: pn)) e te)
    (hb : attributeBase e "limit" X.env (eval e X.env) = eval e X.env := by rfl) :
    PE (X.suite a ((a, oe) :: pn)) (.Attribute e "limit" pos) (tBy_limit C a cls d te) := by
  refine ⟨fun pins s σ H Q I h => ?_⟩
  refine attr_of hb (thn (he.run pins s σ H _ I h) fun u s1 hh => ?_)
  obtain ⟨x, H1, I1, rx, ex, ec, dd, v, ed, ea, q⟩ := hh
  subst ex
  obtain rfl : u = Value.ref a := rx
  subst ec
  subst ed
  obtain ⟨ha, _⟩ := I1.pin (a, oe) (List.mem_append_left _ List.mem_cons_self)
  obtain ⟨vs, hd⟩ := hf
  have hx : ObjOk X.prog X.w H1 s1.heap dd (.xd [(("limit" : Str), v)]) := I1.hok dd _ ea
  obtain ⟨mA, hns, hr⟩ := hx
  obtain ⟨od, ho, hl⟩ := lookIn_ns hns
  have l : List.lookup ("limit" : Str) [(("limit" : Str), v)] = some v := by simp [List.lookup]
  obtain ⟨u, hu, ru⟩ := RelO.some_of (v := v) (o := mA "limit") (by rw [← l]; exact hr "limit")
  have J : PySem.W.InstAt s1.heap a oe C (some od) := ⟨ha, hz.1, by unfold PySem.W.notCls; rw [hd] <;> rfl, by rw [hz.2]; exact ho⟩
  exact HandSPX.exc_get I1.kIn J T.ga T.gg T.exC (PySem.W.findObj_own T.hdC T.noN rfl (by rw [hl, hu])) (handed_of ru) ⟨v, H1, I1.tok _, ru, q⟩
end
end L2

namespace DL
open PySem PySem.Spec PyProof.Rows L2
section
variable [Tb] {X : Cx} {W : WX} {e : Expr} {ws : WA} {C : Addr} {f : Str} {pos : Pos}
/-- raise C(e) -/
def wRaise (C : Addr) (f : Str) (ws : WA) : WS := fun D env st => ws env st (fun ds st' => match ds with
  | [d] => D.ex (C, [(f, d)]) env st'
  | _ => False) fun x st' => D.ex x env st'
theorem pds_raise1 (hc : X.calm = true) (tk : Takes X W) (hp : PMk X e (fun σ H Q => (lfA W ws) σ H fun vs H1 => ∃ v, vs = [v] ∧ ∀ d, H1 d = none → Q (.ref C) (some d) (upd H1 d (.xd [(f, v)])))) : PDS X W (.Raise (some e) none pos) (wRaise C f ws) :=
  PS.imp (ps_raise hc tk hp) fun D σ H ⟨env, st, DD, hold, er, hw, h1, h2, h3, h4, h5⟩ => ⟨env, st, _, _, hold, er, hw, fun ds st1 vs H1 k t dn => by
    split at k
    · rename_i d
      obtain ⟨v, r, rfl, d1, dn⟩ := dn.inv
      cases dn.nil_inv
      refine ⟨v, rfl, fun p hp => ?_⟩
      have tl := t.hold.laid (o := .xd [(f, v)]) hp
      exact h5 _ _ _ _ _ _ _ k (t.trans tl) (er.le (t.trans tl)) ⟨rfl, .inr ⟨p, _, rfl, upd_same, v, [], rfl, tl.dn d1, rfl⟩⟩
    · exact k.elim, lfE_s er h5⟩
end
end DL
namespace L2
open PySem PySem.Spec PyProof.Rows
section
variable {X : Cx} {C : Addr} {bmB : List Value} {B newId initId : String}
/-- X() -/
theorem pmk_own0 {x : Str} {p pos : Pos} (F : ExcBaseFacts B newId initId bmB) (q : PySem.W.excIn X.K C bmB newId = true) (gC : X.mg x = some (.ref C)) (kC : PySem.W.keepIn X.K (.ref C) = true) (r : Raises X (.ref C)) (hg : Gl X x)
    (hdb : (x == ("__debug__" : Str)) = false := by decide) : PMk X (.Call (.Name x p) [] [] pos) (fun _ H Q => Q (.ref C) none H) := by
  intro pins s σ H Q I h
  refine wpAny_Call_Name_kw (ld_glob I hg gC ?_ hdb)
  refine PySem.W.callWith_K0 I.kIn kC ?_
  show wpAny _ _ (call (.ref C) []) _ _ _
  obtain ⟨bm, N, nm, qn, bs, hdct, sn, sub, ab, col, dd, k0, k1, k2, k3, k5, mN, hC, hN, hni, T⟩ := exc_obj I.kIn q
  refine wpAny_call_exc_subT F T hC hN hni (fun h' e hm => ?_) (by show 0 ≤ sizeLine; omega)
  exact mk_of I hm r h (I.hok.gone hm.new)
end
end L2
namespace DL
open PySem PySem.Spec PyProof.Rows L2
section
variable [Tb] {X : Cx} {W : WX} {e : Expr} {C : Addr} {pos : Pos}
/-- raise C() -/
def wRaise0 (C : Addr) : WS := fun D env st => D.ex (C, []) env st
theorem pds_raise0 (hc : X.calm = true) (tk : Takes X W) (hp : PMk X e (fun _ H Q => Q (.ref C) none H)) : PDS X W (.Raise (some e) none pos) (wRaise0 C) :=
  PS.imp (ps_raise hc tk hp) fun D σ H ⟨env, st, DD, hold, er, hw, h1, h2, h3, h4, h5⟩ => h5 _ _ _ _ _ _ _ hw (To.refl hold) er ⟨rfl, .inl ⟨rfl, rfl⟩⟩
end
end DL

/-! closures: lambdas made, handed on, called -/
namespace DL
open PySem PySem.Spec PyProof.Rows L2 NdefX
/-! ### what can be called from a state on -/
/-- from the state s0 (the frames outer0 run) on, f can be called, and keeps sp -/
def CloRun (P : Program) (w : World) (K : PySem.W.Frag) (mg : Str → Option Value) (base : Heap) (k : Nat) (outer0 : List PySem.Env) (ex0 : List Addr) (s0 : Shared) (H0 : Hp) (f : Addr) (sp : Sp) : Prop :=
  (∀ vs H Q E, sp vs H Q E → ∃ n : Nat, vs.length = n) ∧ (∃ o, s0.heap.get? f = some o ∧ H0 f = none ∧ f ∉ frs outer0 ∧ f ∉ ex0 ∧ ∃ fd, o.data = .func fd ∧ o.cls = .type "function") ∧
  ∀ (A : Around) (outer : List PySem.Env) (s : Shared) (H : Hp) (us : List Value) (vs : List V) (Q : VK) (E : XK),
    Rm k A → Env0 P w K mg base A outer s H → Un (frs outer0) ex0 H0 H s0.heap s.heap → Vals vs us → sp vs H Q E →
    codeAny (model P w) A (.call (.ref f) ⟨us, []⟩) (CR (L2.CX P w) outer P w H s Q E) s
section
variable {P : Program} {w : World} {K : PySem.W.Frag} {mg : Str → Option Value} {base : Heap} {k : Nat} {N ps fr : List Str} {outer0 : List PySem.Env} {ex0 : List Addr} {s0 : Shared} {H0 : Hp} {f : Addr} {sp sp' : Sp}
theorem CloRun.mono {j : Nat} (c : CloRun P w K mg base j outer0 ex0 s0 H0 f sp) (h : j ≤ k) : CloRun P w K mg base k outer0 ex0 s0 H0 f sp := ⟨c.1, c.2.1, fun A outer s H us vs Q E hr => c.2.2 A outer s H us vs Q E (hr.mono h)⟩
/-- a lambda, by its body -/
theorem clo_of {F : NF} {params : Arguments} {body : Expr} {pm ctv : Value} {ws : List (Option V)} {oc : Obj} {t : XK → TE} (S : NScope N ps fr F.scope)
    (hf : s0.heap.get? f = some (PySem.W.kla_obj "<lambda>" F.qual params body F.scope F.cl pm F.c ctv)) (hfn : H0 f = none) (hfr : f ∉ frs outer0) (hfx : f ∉ ex0) (hc : H0 F.c = some (CodeF oc F.c F.qual)) (C : CellsAt F.cl fr ws s0.heap H0) (hcx : ∀ y c, F.cl.lookup y = some c → c ∉ ex0)
    (hbind : ∀ us : List Value, us.length = ps.length → bindArgs (PySem.W.kla_fn "<lambda>" F.qual params body F.scope F.cl pm (.ref F.c) ctv) ⟨us, []⟩ = pure (ps.zip us))
    (hbody : ∀ (A : Around) (outer : List PySem.Env) (s : Shared) (H : Hp) (E : XK), Rm k (A.deeper (envF F f s.heap.objs.size)) → PE (ncx (L2.CX P w) P w K mg base N F f A outer s H E) body (t E)) 
    (hsp : ∀ (s : Shared) (H : Hp) vs Q E, Un (frs outer0) ex0 H0 H s0.heap s.heap → sp vs H Q E → vs.length = ps.length ∧ t E (startF N vs ws) H Q) (hlen : ∀ vs H Q E, sp vs H Q E → vs.length = ps.length) :
    CloRun P w K mg base (k + 1) outer0 ex0 s0 H0 f sp := by
  refine ⟨fun vs H Q E h => ⟨_, hlen vs H Q E h⟩, ⟨_, hf, hfn, hfr, hfx, _, rfl, rfl⟩, fun A outer s H us vs Q E hr e0 un r h => ?_⟩
  obtain ⟨hl, ht⟩ := hsp s H vs Q E un h
  have hf1 := un.keep f _ hf hfn hfr hfx
  have hc1 := un.frzs _ _ _ hc
  have code : s.heap.CodeRec (.ref F.c) F.qual := by
    obtain ⟨_, ⟨oc', vs', t', h1, h2, h3⟩, _⟩ := e0.hok F.c _ hc1
    exact ⟨F.c, oc', vs', t', rfl, h1, h2, h3⟩
  have cellK : ∀ {c : Addr} {v : Option Value}, H0 c = none → c ∉ ex0 → s0.heap.IsCell c v → s.heap.IsCell c v := fun {c v} n x ⟨o, ho, hd⟩ => by
    obtain ⟨sl, q⟩ := un.any ho n x
    exact ⟨_, q, hd⟩
  have C1 : CellsAt F.cl fr ws s.heap H := by
    refine ⟨C.len, fun y c e => ?_, C.inj, fun i y e => ?_⟩
    · obtain ⟨n, v, z⟩ := C.all y c e
      refine ⟨?_, v, cellK n (hcx y c e) z⟩
      obtain ⟨o, ho, _⟩ := z
      exact un.free c o ho n (hcx y c e)
    · obtain ⟨c, hc, hv⟩ := C.has i y e
      refine ⟨c, hc, fun v ev => ?_⟩
      obtain ⟨u, ru, z⟩ := hv v ev
      exact ⟨u, ru, cellK (C.all y c hc).1 (hcx y c hc) z⟩
  have lim : s.heap.NoLimit := e0.mod.nolimit.keeps fun b o e => (e0.bs b o e).1
  refine PySem.W.kla_callFunE hr.depth hf1 rfl S.co S.gen rfl code ?_
  rw [hbind us (by rw [← r.length]; exact hl)]
  refine wpAny_pure (wpAny_newFunctionEnv S.nocell (fun ⟨n, _⟩ hy => S.par n (List.of_mem_zip hy).1) (fun h₁ hns hsb => ⟨lim.fresh _ hsb, ?_⟩) S.kind)
  show codeAny _ _ (.expr body (envF F f s.heap.objs.size)) _ _
  have kp : ∀ b o, s.heap.get? b = some o → h₁.get? b = some o := fun b o e => hsb.extBut b o (Nat.ne_of_lt (Heap.lt_size e)) (Heap.get?_push_of_some _ e)
  have I : Inv (ncx (L2.CX P w) P w K mg base N F f A outer s H E) [] (startF N vs ws) H { s with heap := h₁, toks := s.toks + (ps.zip us).length } := inv_startN S hr.hd e0 hl r C1 hns kp
  refine PySem.W.kla_codeExpr (wpAny_mono ((hbody A outer s H E (hr.deeper _)).run [] _ (startF N vs ws) H Q I ht) (fun v s' hq => ?_) fun e s' hq => hq)
  obtain ⟨w', H', J, rv, q⟩ := hq
  exact ⟨w', H', J.os, J.bare, J.base, J.hok, rv, q⟩
end
/-! ### from the entry of a def to a place in it -/
section
variable {X : Cx} {pins : List (Addr × Obj)} {σ : L2.St} {H : Hp} {s : Shared} {k : Nat} {f : Addr} {sp : Sp}
theorem un_later {H1 : Hp} {h1 : Heap} (I : Inv X pins σ H s) (un : Un (frs X.stack) [] H H1 s.heap h1) (hx : X.ex = []) : Un X.fs [] X.H_0 H1 X.s_0.heap h1 := by
  have b0 : Un X.fs [] X.H_0 H X.s_0.heap s.heap := by have := I.base; rw [hx] at this; exact this
  have nL : ∀ b o, X.s_0.heap.get? b = some o → b ≠ X.env.locals := fun b o e => Nat.ne_of_lt (Nat.lt_of_lt_of_le (Heap.lt_size e) I.ok.above)
  have nS : ∀ b o, X.s_0.heap.get? b = some o → b ∉ X.fs → b ∉ frs X.stack := fun b o e n z => (List.mem_cons.mp (I.stkSub b z)).elim (nL b o e) n
  refine ⟨fun b o e n nf hb => un.keep b o (b0.keep b o e n nf hb) (b0.free b o e n hb) (nS b o e nf) hb, fun b o e n hf hb => ?_, fun b o e n hb => ?_, fun b o e hb => ?_, fun b xs e => un.tups b xs (b0.tups b xs e), fun b ob u e => un.frzs b ob u (b0.frzs b ob u e), fun b ps e => ?_⟩
  · obtain ⟨sl, q⟩ := b0.slot b o e n hf hb
    obtain ⟨sl', q2⟩ := un.any q (b0.free b o e n hb) hb
    exact ⟨sl', q2⟩
  · obtain ⟨o', q⟩ := b0.there b o e hb
    exact un.free b o' q (b0.free b o e n hb) hb
  · obtain ⟨o', q⟩ := b0.there b o e hb
    exact un.there b o' q hb
  · obtain ⟨m1, e1⟩ := b0.tbls b ps e
    obtain ⟨m2, e2⟩ := un.tbls b _ e1
    exact ⟨m1 ++ m2, by rw [e2, Array.append_assoc]⟩
/-- what could be called at the entry can be called still -/
theorem CloRun.later (c : CloRun X.prog X.w X.K X.mg X.base k X.outer [] X.s_0 X.H_0 f sp) (I : Inv X pins σ H s) (hx : X.ex = []) : CloRun X.prog X.w X.K X.mg X.base k X.stack [] s H f sp := by
  obtain ⟨c1, ⟨o, h1, h2, h3, h4, h5⟩, c2⟩ := c
  have b0 : Un X.fs [] X.H_0 H X.s_0.heap s.heap := by have := I.base; rw [hx] at this; exact this
  refine ⟨c1, ⟨o, b0.keep f o h1 h2 h3 h4, b0.free f o h1 h2 h4, fun z => (List.mem_cons.mp (I.stkSub f z)).elim (Nat.ne_of_lt (Nat.lt_of_lt_of_le (Heap.lt_size h1) I.ok.above)) h3, h4, h5⟩, fun A outer s1 H1 us vs Q E hr e0 un r q => c2 A outer s1 H1 us vs Q E hr e0 (un_later I un hx) r q⟩
end
/-! ### defs that are handed closures -/
/-- the promises of what can be called, by address -/
abbrev Clo := Addr → Option (Nat × WF)
def Clo.none : Clo := fun _ => Option.none
def Clo.set (Φ : Clo) (f : Addr) (n : Nat) (wf : WF) : Clo := fun g => if g = f then some (n, wf) else Φ g
section
variable [Tb]
def CloAll (P : Program) (w : World) (K : PySem.W.Frag) (mg : Str → Option Value) (base : Heap) (k : Nat) (outer0 : List PySem.Env) (s0 : Shared) (H0 : Hp) (Φ : Clo) : Prop :=
  ∀ f n wf, Φ f = some (n, wf) → CloRun P w K mg base k outer0 [] s0 H0 f (liftSp n wf)
theorem CloAll.none {P : Program} {w : World} {K : PySem.W.Frag} {mg : Str → Option Value} {base : Heap} {k : Nat} {outer0 : List PySem.Env} {s0 : Shared} {H0 : Hp} : CloAll P w K mg base k outer0 s0 H0 Clo.none := fun f n wf h => by cases h
theorem CloAll.later {X : Cx} {pins : List (Addr × Obj)} {σ : L2.St} {H : Hp} {s : Shared} {k : Nat} {Φ : Clo} (c : CloAll X.prog X.w X.K X.mg X.base k X.outer X.s_0 X.H_0 Φ) (I : Inv X pins σ H s) (hx : X.ex = []) : CloAll X.prog X.w X.K X.mg X.base k X.stack s H Φ :=
  fun f n wf h => (c f n wf h).later I hx
/-- the promise of a def that may be handed closures of the level kc -/
structure FnP (P : Program) (w : World) (K : PySem.W.Frag) (mg : Str → Option Value) (base : Heap) (k kc : Nat) (f : Addr) (fd : FuncData) (ps : List Str) (wf : Clo → WF) : Prop where
  run : ∀ (A : Around) (outer : List PySem.Env) (s : Shared) (H : Hp) (args : Args) (us : List Value) (vs : List V) (Q : VK) (E : XK) (Φ : Clo), Rm k A → Env0 P w K mg base A outer s H → CloAll P w K mg base kc outer s H Φ → BindsTo s fd args (ps.zip us) → Vals vs us →
    liftSp ps.length (wf Φ) vs H Q E → codeAny (model P w) A (.call (.ref f) args) (CR (L2.CX P w) outer P w H s Q E) s
theorem fnP_of {P : Program} {w : World} {K : PySem.W.Frag} {mg : Str → Option Value} {base : Heap} {k kc : Nat} {f : Addr} {fd : FuncData} {ps : List Str} {wf : WF} (F : FnD P w K mg base k f fd ps wf) : FnP P w K mg base k kc f fd ps (fun _ => wf) :=
  ⟨fun A outer s H args us vs Q E Φ hr e0 _ hb r h => F.run A outer s H args us vs Q E hr e0 hb r h⟩
/-- THE RULE for such a def -/
theorem fn_dP {P : Program} {w : World} {K : PySem.W.Frag} {mg : Str → Option Value} {base : Heap} {x qual : Str} {params : Arguments} {body : List Stmt} {scope : Scope} {dvs : List V} {kws : List (Str × V)} {f : Addr} {fd : FuncData} {N ps : List Str} {k kc : Nat} {wb : Clo → WS} {wf : Clo → WF}
    (F : FunD K x qual params body scope dvs kws f fd) (S : FnScope N ps scope)
    (hbody : ∀ (Φ : Clo) (cdv : Value) (A : Around) (outer : List PySem.Env) (s : Shared) (H : Hp) (E : XK), Rm k (A.deeper (envOfC qual scope s.heap.objs.size f cdv)) → Takes (defX P w K mg base N qual scope f cdv A outer s H E) (fun cls d _ H => E cls d H) → CloAll P w K mg base kc outer s H Φ →
      PDSs (defX P w K mg base N qual scope f cdv A outer s H E) (fun cls d _ H => E cls d H) body (wb Φ))
    (hsp : ∀ Φ ds st Kn Kx, ds.length = ps.length → wf Φ ds st Kn Kx → wb Φ (endsD Kn Kx) (startD N ds) st) : FnP P w K mg base (k + 1) kc f fd ps wf := by
  obtain ⟨oc, od, dV, kV, doc, pm, an, cdv, ct, osl, rfl, lk, hcd, _, _⟩ := F.ex
  refine ⟨fun A outer s H args us vs Q E Φ hr e0 ca hb r h => ?_⟩
  refine LamX.run_ofS lk hcd S hr.rm e0 hb r (liftSp_len h) fun _ => ⟨_, hbody Φ cdv A outer s H E (hr.deeper _) (takes_of rfl rfl rfl rfl) ca, ?_⟩
  obtain ⟨ds, st, Kn, Kx, hold, dn, e, hw, h1, h2⟩ := h
  exact ⟨startD N ds, st, endsD Kn Kx, hold, EnvR.start dn, hsp _ _ _ _ _ e hw, fun _ _ _ _ k t _ => h1 _ _ _ _ k t mk_non, fun _ _ _ _ k t d => h1 _ _ _ _ k t d, fun _ _ _ _ k _ _ => k.elim, fun _ _ _ _ k _ _ => k.elim, fun _ _ _ _ _ _ _ k t _ xr => h2 _ _ _ _ _ k t xr⟩
end
end DL

namespace DL
open PySem PySem.Spec PyProof.Rows L2 NdefX
/-! ### a local that holds what can be called, called -/
section
variable [Tb] {X : Cx} {W : WX} {i k kc : Nat} {x : Str} {Φ : Clo} {e : Expr} {es : List Expr} {ws : WA} {p pos : Pos}
/-- a promise, and what follows of it -/
def upW (wf : WF) : WF := fun ds st Kn Kx => ∃ (Kn' : KD) (Kx' : KX), wf ds st Kn' Kx' ∧ (∀ d s, Kn' d s → Kn d s) ∧ ∀ x s, Kx' x s → Kx x s
omit [Tb] in
theorem upW_of {wf : WF} {ds : List D} {st : Sto} {Kn : KD} {Kx : KX} (h : wf ds st Kn Kx) : upW wf ds st Kn Kx := ⟨Kn, Kx, h, fun _ _ k => k, fun _ _ k => k⟩
theorem lf_up {n : Nat} {wf : WF} {W : WX} {st st' : Sto} {Kn : KD} {Kx : KX} {σ : L2.St} {H H' : Hp} {Q : VK} {ds : List D} {vs : List V} (t : To H st H' st') (dn : Dns H' ds vs) (el : ds.length = n) (k : upW wf ds st' Kn Kx)
    (hn : ∀ d st' v H', Kn d st' → To H st H' st' → Dn H' d v → Q v H') (hx : ∀ x st' cls dd H', Kx x st' → To H st H' st' → XRel H' x cls dd → W cls dd σ H') : liftSp n wf vs H' Q (L2.WE W σ) := by
  obtain ⟨Kn', Kx', k, m1, m2⟩ := k
  exact lf_call t dn el k (fun d st' v H' k => hn d st' v H' (m1 d st' k)) fun x st' cls dd H' k => hx x st' cls dd H' (m2 x st' k)
def wCallV (Φ : Clo) (i : Nat) (ws : WA) : WE := fun env st Kn Kx => match env[i]? with
  | some (some (.ref f)) => match Φ f with
    | some (n, wf) => ws env st (fun ds st' => ds.length = n ∧ upW wf ds st' Kn Kx) Kx
    | none => False
  | _ => False
omit [Tb] in
theorem fnAt_clo {P : Program} {w : World} {K : PySem.W.Frag} {mg : Str → Option Value} {base : Heap} {outer0 : List PySem.Env} {ex0 : List Addr} {s0 : Shared} {H0 : Hp} {f : Addr} {sp : Sp} (c : CloRun P w K mg base k outer0 ex0 s0 H0 f sp) : PySem.W.FnAt f s0.heap := by
  obtain ⟨_, ⟨⟨cls, dd, data, sl⟩, h1, _, _, _, fd, hd, hc⟩, _⟩ := c
  simp only at hd hc
  subst hd hc
  exact ⟨_, _, _, _, h1⟩
omit [Tb] in
theorem run_clo {pins : List (Addr × Obj)} {σ : L2.St} {H : Hp} {s : Shared} {Q : VK} {f : Addr} {us : List Value} {vs : List V} {sp : Sp} (c : CloRun X.prog X.w X.K X.mg X.base kc X.stack [] s H f sp) (hr : Rm kc X.A) (tk : Takes X W) (I : Inv X pins σ H s) (r : Vals vs us) (h : sp vs H Q (L2.WE W σ)) :
    wpAny (model X.prog X.w) X.A (call (.ref f) us) (EP X pins σ Q) X.xe s := by
  refine wpAny_call (codeAny_mono (c.2.2 X.A X.stack s H us vs Q (L2.WE W σ) hr I.env0 Un.refl r h) fun r s' hq => ?_)
  cases r with
  | error e => exact passAt tk σ pins H s e s' I hq
  | ok fl =>
    cases fl with
    | ret u => exact I.after hq
    | next => exact False.elim hq
    | brk => exact False.elim hq
    | cont => exact False.elim hq
theorem pd_callV (ca : CloAll X.prog X.w X.K X.mg X.base kc X.outer X.s_0 X.H_0 Φ) (hx : X.ex = []) (hr : Rm kc X.A) (tk : Takes X W) (hN : X.N[i]? = some x) (hv : Vis X.env.scope x) (ha : PDA X W (e :: es) ws)
    (hd : (x == ("__debug__" : Str)) = false := by decide) (hcd : (x == ("__classdict__" : Str)) = false := by decide)
    (he : starEach (e :: es) X.env = (false, eval e X.env) :: starEach es X.env := by rfl) (hpl : (backTo pos (starEach es X.env)).any (·.1) = false := by rfl) :
    PD X W (.Call (.Name x p) (e :: es) [] pos) (wCallV Φ i ws) := by
  refine ⟨fun pins s σ H Q I ⟨env, st, Kn, Kx, hold, er, hw, hn, hX⟩ => ?_⟩
  unfold wCallV at hw
  split at hw
  · rename_i f ef
    obtain ⟨v, e1, dv⟩ := er.2 _ _ ef
    rw [dn_ref dv] at e1
    refine wpAny_Call_Name_kw (thn ((pe_var (pos := p) hN hv hd hcd).run pins s σ H (fun v H1 => v = .ref f ∧ H1 = H) I ⟨.ref f, e1, rfl, rfl⟩) fun u s1 ⟨v, H1, I1, r1, q1⟩ => ?_)
    obtain ⟨ev, eH⟩ := q1
    subst ev
    rw [eH] at I1
    obtain rfl : u = Value.ref f := r1
    split at hw
    · rename_i n wf ep
      have c1 := (ca f n wf ep).later I1 hx
      refine PySem.W.callWith_F (first := []) (fnAt_clo c1) (thn (ha.run pos pins s1 σ H (fun vs H2 => liftSp n wf vs H2 Q (L2.WE W σ)) I1 ⟨env, st, _, Kx, hold, er, hw, fun ds st' vs H2 k t dn => lf_up t dn k.1 k.2 hn hX, hX⟩) fun us s2 ⟨vs, H2, I2, r, q⟩ => ?_) he hpl
      have c2 := (ca f n wf ep).later I2 hx
      exact ⟨fnAt_clo c2, run_clo c2 hr tk I2 r q⟩
    · exact hw.elim
  · exact hw.elim
theorem pd_callV0 (ca : CloAll X.prog X.w X.K X.mg X.base kc X.outer X.s_0 X.H_0 Φ) (hx : X.ex = []) (hr : Rm kc X.A) (tk : Takes X W) (hN : X.N[i]? = some x) (hv : Vis X.env.scope x)
    (hd : (x == ("__debug__" : Str)) = false := by decide) (hcd : (x == ("__classdict__" : Str)) = false := by decide) :
    PD X W (.Call (.Name x p) [] [] pos) (wCallV Φ i wNil) := by
  refine ⟨fun pins s σ H Q I ⟨env, st, Kn, Kx, hold, er, hw, hn, hX⟩ => ?_⟩
  unfold wCallV at hw
  split at hw
  · rename_i f ef
    obtain ⟨v, e1, dv⟩ := er.2 _ _ ef
    rw [dn_ref dv] at e1
    refine wpAny_Call_Name_kw (thn ((pe_var (pos := p) hN hv hd hcd).run pins s σ H (fun v H1 => v = .ref f ∧ H1 = H) I ⟨.ref f, e1, rfl, rfl⟩) fun u s1 ⟨v, H1, I1, r1, q1⟩ => ?_)
    obtain ⟨ev, eH⟩ := q1
    subst ev
    rw [eH] at I1
    obtain rfl : u = Value.ref f := r1
    split at hw
    · rename_i n wf ep
      have c1 := (ca f n wf ep).later I1 hx
      refine PySem.W.callWith_F0 (first := []) (fnAt_clo c1) ?_
      exact run_clo (us := []) (vs := []) c1 hr tk I1 .nil (lf_up (To.refl hold) .nil hw.1 hw.2 hn hX)
    · exact hw.elim
  · exact hw.elim
end
/-! ### what is captured stays -/
mutual
def D.px : D → Bool
  | .exc _ _ _ _ _ => false
  | .tup ds => D.pxs ds
  | .lst ds => D.pxs ds
  | _ => true
def D.pxs : List D → Bool
  | [] => true
  | d :: ds => d.px && D.pxs ds
end
section
variable {fs ex : List Addr} {H H' : Hp} {h h' : Heap}
mutual
theorem Dn.un (u : Un fs ex H H' h h') : ∀ (d : D) (v : V), d.px = true → Dn H d v → Dn H' d v
  | .non, _, _, h => by simpa only [Dn] using h
  | .bl _, _, _, h => by simpa only [Dn] using h
  | .int _, _, _, h => by simpa only [Dn] using h
  | .str _, _, _, h => by simpa only [Dn] using h
  | .ty _, _, _, h => by simpa only [Dn] using h
  | .ref _, _, _, h => by simpa only [Dn] using h
  | .tup ds, _, p, h => by
    simp only [Dn] at h ⊢
    obtain ⟨a, xs, e, ha, r⟩ := h
    exact ⟨a, xs, e, u.tups a _ ha, Dns.un u ds xs (by simpa only [D.px] using p) r⟩
  | .lst ds, _, p, h => by
    simp only [Dn] at h ⊢
    obtain ⟨a, o, xs, e, ha, r⟩ := h
    exact ⟨a, o, xs, e, u.frzs a _ _ ha, Dns.un u ds xs (by simpa only [D.px] using p) r⟩
  | .emp, _, _, h => by
    simp only [Dn] at h ⊢
    obtain ⟨a, o, e, ha⟩ := h
    exact ⟨a, o, e, u.frzs a _ _ ha⟩
  | .exc _ _ _ _ _, _, p, _ => by simp only [D.px] at p; cases p
theorem Dns.un (u : Un fs ex H H' h h') : ∀ (ds : List D) (vs : List V), D.pxs ds = true → Dns H ds vs → Dns H' ds vs
  | [], _, _, h => by simpa only [Dns] using h
  | d :: ds, _, p, h => by
    simp only [Dns] at h ⊢
    obtain ⟨v, r, e, h1, h2⟩ := h
    simp only [D.pxs, Bool.and_eq_true] at p
    exact ⟨v, r, e, Dn.un u d v p.1 h1, Dns.un u ds r p.2 h2⟩
end
end
def slotD (env : DEnv) (j : Nat) : Option D := match env[j]? with
  | some o => o
  | none => none
theorem slotD_some {env : DEnv} {j : Nat} {d : D} (h : slotD env j = some d) : env[j]? = some (some d) := by
  unfold slotD at h
  split at h
  · rename_i o e
    rw [e, h]
  · cases h
/-- what is captured, by value -/
def capsD (env : DEnv) (js : List Nat) : List (Option D) := js.map (slotD env)
def capsOk (cs : List (Option D)) : Prop := ∀ d, some d ∈ cs → d.px = true
/-- a closure's names at its entry: its parameters, what it captured, its own -/
def cloEnv (N : List Str) (ds : List D) (cs : List (Option D)) : DEnv := ds.map some ++ (cs ++ List.replicate (N.length - ds.length - cs.length) none)
theorem EnvR.clo {H : Hp} {N : List Str} {ds : List D} {vs : List V} {cs : List (Option D)} {ws : List (Option V)} (h : Dns H ds vs) (hl : ws.length = cs.length) (hc : ∀ (i : Nat) (d : D), cs[i]? = some (some d) → ∃ v, ws[i]? = some (some v) ∧ Dn H d v) : EnvR H (cloEnv N ds cs) (startF N vs ws) := by
  have hv := h.length
  refine ⟨by unfold startF cloEnv; simp [hv, hl], fun i d e => ?_⟩
  unfold cloEnv at e
  by_cases h1 : i < ds.length
  · rw [List.getElem?_append_left (by simpa using h1), List.getElem?_map, List.getElem?_eq_getElem h1] at e
    simp at e
    obtain ⟨v, e1, e2⟩ := h.get (List.getElem?_eq_getElem h1)
    refine ⟨v, ?_, by rw [← e]; exact e2⟩
    unfold startF
    rw [List.getElem?_append_left (by rw [List.length_map, hv]; exact h1), List.getElem?_map, e1]
    rfl
  · rw [List.getElem?_append_right (by simpa using h1), List.length_map] at e
    by_cases h2 : i - ds.length < cs.length
    · rw [List.getElem?_append_left h2] at e
      obtain ⟨v, e1, e2⟩ := hc _ d e
      refine ⟨v, ?_, e2⟩
      unfold startF
      rw [List.getElem?_append_right (by rw [List.length_map, hv]; omega), List.length_map, hv, List.getElem?_append_left (by rw [hl]; exact h2)]
      exact e1
    · rw [List.getElem?_append_right (by omega), List.getElem?_replicate] at e
      split at e <;> cases e
/-! ### a lambda is made -/
section
variable [Tb] {X : Cx} {pins : List (Addr × Obj)} {σ : L2.St} {H : Hp} {s : Shared} {st : Sto}
omit [Tb] in
theorem inv_tableF {P c : Addr} {q : Str} {oc : Obj} {ps more : Array Value} {h' : Heap} {t' : Nat} (I : Inv X pins σ H s) (hP : H P = some (.tbl ps)) (k : ∀ b o, b ≠ P → s.heap.get? b = some o → h'.get? b = some o)
    (hm : h'.get? P = some { cls := .none, data := .fields (ps ++ more) }) (hc : s.heap.objs.size ≤ c) (ho : h'.get? c = some oc) (hv : ∃ (vs : Array Value) (t : Tok), oc.data = .fields vs ∧ vs[1]? = some (.str q t)) :
    Inv X pins σ (upd (upd H P (.tbl (ps ++ more))) c (CodeF oc c q)) { s with heap := h', toks := t' } := by
  have nC : H c = none := I.hok.fresh hc
  have nPc : P ≠ c := ne_of_none hP nC
  have at_ : ∀ b, b ≠ P → b ≠ c → upd (upd H P (.tbl (ps ++ more))) c (CodeF oc c q) b = H b := fun b h1 h2 => by rw [upd_ne h2, upd_ne h1]
  have atP : upd (upd H P (.tbl (ps ++ more))) c (CodeF oc c q) P = some (.tbl (ps ++ more)) := by rw [upd_ne nPc, upd_same]
  have nP : ∀ b u, H b = some u → (∀ q, u ≠ .tbl q) → b ≠ P := fun b u e q z => by
    rw [z, hP] at e
    exact q ps (Option.some.inj e).symm
  have nN : ∀ b, H b = none → b ≠ P := fun b e z => by
    rw [z, hP] at e
    cases e
  have lt' : ∀ b o, s.heap.get? b = some o → b ≠ c := fun b o e z => by
    rw [z] at e
    exact Nat.lt_irrefl _ (Nat.lt_of_lt_of_le (Heap.lt_size e) hc)
  have sm : ∀ b u, H b = some u → b ≠ c := fun b u e => ne_of_none e nC
  refine I.step (g' := s.gens) (d' := s.drawn) (ch := []) (fun b hb => absurd hb (by simp)) (fun b o _ _ _ e n => k b o (nN b n) e) (fun b o _ _ _ e n => ⟨o.slots, k b o (nN b n) e⟩)
    (fun b o _ e n => by rw [at_ b (nN b n) (lt' b o e)]; exact n) (fun b o _ e => ?_) (fun b xs e => by rw [at_ b (nP b _ e (fun q z => by cases z)) (sm b _ e)]; exact e) (fun b o u e => by rw [at_ b (nP b _ e (fun q z => by cases z)) (sm b _ e)]; exact e) (fun b qs e => ?_) (fun m hn => ?_) (fun b u e => ?_) I.bare
  · by_cases hb : b = P
    · rw [hb]
      exact ⟨_, hm⟩
    · exact ⟨o, k b o hb e⟩
  · by_cases hb : b = P
    · rw [hb, hP] at e
      cases e
      rw [hb, atP]
      exact ⟨more, rfl⟩
    · rw [at_ b hb (sm b _ e), e]
      exact ⟨#[], by simp⟩
  · obtain ⟨ob, es, ep, ho, r⟩ := hn
    exact ⟨ob, es, ep, k _ ob (nN _ I.free) ho, r⟩
  · by_cases hb : b = c
    · rw [hb, upd_same] at e
      cases e
      rw [hb]
      obtain ⟨vs, t, e2, e3⟩ := hv
      exact ⟨ho, ⟨oc, vs, t, ho, e2, e3⟩, ⟨oc, ho⟩, fun h1 h2 ⟨oc, vs, t, a, b, c⟩ st => ⟨oc, vs, t, st _ a, b, c⟩⟩
    · by_cases hb2 : b = P
      · rw [hb2, atP] at e
        cases e
        rw [hb2]
        exact hm
      · rw [at_ b hb2 hb] at e
        refine (I.hok b u e).stay (fun d v hd q => k d v ?_ q) (fun d q => by rw [at_ d (nP d _ q (fun q z => by cases z)) (sm d _ q)]; exact q) fun d xs q => by rw [at_ d (nP d _ q (fun q z => by cases z)) (sm d _ q)]; exact q
        rcases hd with z | z
        · rw [z]
          exact hb2
        · exact nP d _ z (fun q z => by cases z)
theorem lam_makeF {c P : Addr} {nm : Nat → Nat → Str} {params : Arguments} {body : Expr} {scope : Scope} {pos : Pos} {E : Value → Shared → Prop} {Q : Value → Shared → Prop} (I : Inv X pins σ H s) (hold : Hold H st) (TB : LamX.TabB X.base X.mg c P) (hcode : X.env.code = .ref c)
    (hm : (P, nm) ∈ Tb.T) (hn : nm pos.line pos.col = X.env.qual ++ "<lambda>") (hu : ∀ p ∈ Tb.T, p.1 = P → p.2 = nm) (hdef : defaultsOf params X.env = ([], [])) (hfree : ∀ y ∈ scope.names, y.2 = .free → ∃ c, X.env.cells.lookup y.1 = some c)
    (h : ∀ (f c' : Addr) (oc : Obj) (pm ctv : Value) (H1 : Hp) (s' : Shared), Inv X pins σ H1 s' → To H st H1 st →
      s'.heap.get? f = some (PySem.W.kla_obj "<lambda>" (X.env.qual ++ "<lambda>") params body scope (cloFrom X.env.cells scope.names []) pm c' ctv) → H1 f = none → f ∉ frs X.stack → H1 c' = some (CodeF oc c' (X.env.qual ++ "<lambda>")) → s.heap.objs.size ≤ f → Q (.ref f) s') :
    wpAny (model X.prog X.w) X.A (eval (.Lambda params body scope pos) X.env) Q E s := by
  obtain ⟨ps, hP, ht, ha⟩ := (show TabF H P nm from hold.tb _ hm)
  refine PySem.W.kla_eval hdef ?_
  have bP : s.heap.BuiltinsAt X.mg P := TB.bm.keeps I.bk
  have hP' : s.heap.get? P = some { cls := .none, data := .fields ps } := I.hok P _ hP
  have nofr : ∀ f, s.heap.objs.size ≤ f → f ∉ frs X.stack := fun f hf z => by
    rcases List.mem_cons.mp (I.stkSub _ z) with e | e
    · have h1 := I.lt
      rw [← e] at h1
      exact Nat.lt_irrefl _ (Nat.lt_of_lt_of_le h1 hf)
    · exact I.nofs hf e
  cases hc : codeAmong pos ps.toList with
  | none =>
    refine PySem.W.kla_makeFunction (mg := X.mg) (c := c) (P := P) (ps := ps) (closure_ok hfree) I.ok.glob (I.mod.glob.keeps I.bk) hcode (TB.code.keeps I.bk) hP' ht hc TB.gP bP fun c' ctv h' tk hx hge hlt hrec htb => ?_
    obtain ⟨c2, oc, vs, t, e2, hoc, hd, hv⟩ := hrec
    cases e2
    have hsz : s.heap.objs.size ≤ h'.objs.size := Nat.le_trans hge (Nat.le_of_lt hlt)
    have nC : H c' = none := I.hok.fresh hge
    have I1 := inv_tableF (t' := tk) (more := #[rawInt pos.line, rawInt pos.col, .ref c']) (h' := h'.push (PySem.W.kla_obj "<lambda>" (X.env.qual ++ "<lambda>") params body scope (cloFrom X.env.cells scope.names []) ((X.mg "__name__").getD .none) c' ctv)) (q := X.env.qual ++ "<lambda>") (oc := oc) I hP
      (fun b o hb e => Heap.get?_push_of_some _ (hx b o hb e)) (Heap.get?_push_of_some _ htb) hge (Heap.get?_push_of_some _ hoc) ⟨vs, t, hd, hv⟩
    have eL : (ps ++ #[rawInt pos.line, rawInt pos.col, .ref c']).toList = ps.toList ++ [rawInt pos.line, rawInt pos.col, .ref c'] := by simp
    have old : ∀ b u, H b = some u → (∀ ps, u ≠ .tbl ps) → upd (upd H P (.tbl (ps ++ #[rawInt pos.line, rawInt pos.col, .ref c']))) c' (CodeF oc c' (X.env.qual ++ "<lambda>")) b = some u := fun b u e n => by
      rw [upd_ne (ne_of_none e nC), upd_ne (fun z => n ps (Option.some.inj (e.symm.trans (by rw [z]; exact hP))))]
      exact e
    have x : Ext H (upd (upd H P (.tbl (ps ++ #[rawInt pos.line, rawInt pos.col, .ref c']))) c' (CodeF oc c' (X.env.qual ++ "<lambda>"))) := fun b u e i => old b u e fun ps z => by
      subst z
      rcases i with ⟨_, q⟩ | ⟨_, _, q⟩ | ⟨_, q⟩ <;> cases q
    have mT : P ∈ Tb.T.map (·.1) := List.mem_map.mpr ⟨_, hm, rfl⟩
    have T : To H st (upd (upd H P (.tbl (ps ++ #[rawInt pos.line, rawInt pos.col, .ref c']))) c' (CodeF oc c' (X.env.qual ++ "<lambda>"))) st := by
      refine ⟨⟨hold.nd, fun q hq => (hold.ok q hq).ext x fun u e => ?_, fun p hp => ?_⟩, ⟨fun b u e n => ⟨?_, fun z => n (.inl z)⟩, x⟩⟩
      · obtain ⟨w, ew, pl⟩ := (hold.ok q hq).there
        rw [ew] at e; cases e
        exact old _ _ ew fun ps z => by subst z; exact pl
      · by_cases hb : p.1 = P
        · rw [hu p hp hb, hb]
          refine ⟨_, by rw [upd_ne (ne_of_none hP nC), upd_same], by rw [eL]; exact PySem.TriplesOk_snoc _ _ _ _ ht, fun p' cv hcv => ?_⟩
          rw [eL] at hcv
          rcases among_app2 _ ht hcv with z | ⟨z, z1, z2⟩
          · obtain ⟨c0, o0, e1, e2⟩ := ha p' cv z
            exact ⟨c0, o0, e1, x _ _ e2 im_frz⟩
          · refine ⟨c', oc, z, ?_⟩
            rw [← z1, ← z2, hn]
            exact upd_same
        · exact (hold.tb p hp).keep x fun ps' e => by rw [upd_ne (ne_of_none e nC), upd_ne hb]; exact e
      · rw [upd_ne (ne_of_none e nC), upd_ne (fun z => n (.inr (by rw [z]; exact mT)))]
        exact e
    refine h h'.objs.size c' oc ((X.mg "__name__").getD .none) ctv _ _ I1 T (Heap.get?_push_size _ rfl) ?_ (nofr _ hsz) upd_same hsz
    have n1 : h'.objs.size ≠ c' := Nat.ne_of_gt hlt
    have n2 : h'.objs.size ≠ P := Nat.ne_of_gt (Nat.lt_of_lt_of_le (Heap.lt_size hP') hsz)
    rw [upd_ne n1, upd_ne n2]
    exact I.hok.fresh hsz
  | some cv =>
    obtain ⟨c', oc, e, hco⟩ := ha pos cv hc
    subst e
    rw [hn] at hco
    refine PySem.W.kla_makeFunctionHit (mg := X.mg) (c := c) (P := P) (ps := ps) (closure_ok hfree) I.ok.glob (I.mod.glob.keeps I.bk) hcode (TB.code.keeps I.bk) hP' ht hc bP fun ctv h' tk hx hsz => ?_
    have I1 : Inv X pins σ H { s with heap := h'.push (PySem.W.kla_obj "<lambda>" (X.env.qual ++ "<lambda>") params body scope (cloFrom X.env.cells scope.names []) ((X.mg "__name__").getD .none) c' ctv), toks := tk } := I.kept fun b o e => Heap.get?_push_of_some _ (hx b o e)
    exact h h'.objs.size c' oc ((X.mg "__name__").getD .none) ctv H _ I1 (To.refl hold) (Heap.get?_push_size _ rfl) (I.hok.fresh hsz) (nofr _ hsz) hco hsz
end
/-! ### a def that is called with a lambda -/
/-- a lambda's facts: lps its parameters, fr what it captures, at the slots js -/
structure LamD (X : Cx) (params : Arguments) (scope : Scope) (lps fr N : List Str) (js : List Nat) : Prop where
  sc : NScope N lps fr scope
  cap : ndefB X.env.scope scope fr = true
  at_ : js.map (fun j => X.N[j]?) = fr.map some
  df : defaultsOf params X.env = ([], [])
  bind : ∀ (q : Str) (cl : List (Str × Addr)) (body : Expr) (pm cv ctv : Value) (us : List Value), us.length = lps.length → bindArgs (PySem.W.kla_fn "<lambda>" q params body scope cl pm cv ctv) ⟨us, []⟩ = pure (lps.zip us)
/-- where the def that makes it keeps its code objects -/
structure TabD [Tb] (X : Cx) (pos : Pos) (c P : Addr) (nm : Nat → Nat → Str) : Prop where
  tb : LamX.TabB X.base X.mg c P
  code : X.env.code = .ref c
  mem : (P, nm) ∈ Tb.T
  at_ : nm pos.line pos.col = X.env.qual ++ "<lambda>"
  uni : ∀ p ∈ Tb.T, p.1 = P → p.2 = nm
/-- a closure's promise: its body's reading over what was captured -/
def cloB (N : List Str) (cs : List (Option D)) (we : WE) : WF := fun ds st Kn Kx => we (cloEnv N ds cs) st Kn Kx
section
variable [Tb] {X : Cx} {pins : List (Addr × Obj)} {σ : L2.St} {H : Hp} {s : Shared} {st : Sto} {k kb kc : Nat} {Φ : Clo}
/-- the context of a lambda's body -/
abbrev lamX (X : Cx) (params : Arguments) (scope : Scope) (N : List Str) (f c' : Addr) (A : Around) (outer : List PySem.Env) (s : Shared) (H : Hp) (E : XK) : Cx :=
  ncx (L2.CX X.prog X.w) X.prog X.w X.K X.mg X.base N ⟨"<lambda>", X.env.qual ++ "<lambda>", params, [], scope, cloFrom X.env.cells scope.names [], c'⟩ f A outer s H E
/-- the body's derivation, wherever the lambda is called -/
def LamOk (X : Cx) (params : Arguments) (body : Expr) (scope : Scope) (N : List Str) (kb : Nat) (we : WE) : Prop :=
  ∀ (f c' : Addr) (A : Around) (outer : List PySem.Env) (s : Shared) (H : Hp) (E : XK), Rm kb (A.deeper (lamX X params scope N f c' A outer s H E).env) → Takes (lamX X params scope N f c' A outer s H E) (fun cls d _ H => E cls d H) → PD (lamX X params scope N f c' A outer s H E) (fun cls d _ H => E cls d H) body we
theorem lam_clo {params : Arguments} {body : Expr} {scope : Scope} {lps fr N : List Str} {js : List Nat} {we : WE} {env : DEnv} {f c' : Addr} {oc : Obj} {pm ctv : Value} (L : LamD X params scope lps fr N js) (B : LamOk X params body scope N kb we) (hk : kb + 1 ≤ kc)
    (I : Inv X pins σ H s) (er : EnvR H env σ) (px : capsOk (capsD env js)) (hf : s.heap.get? f = some (PySem.W.kla_obj "<lambda>" (X.env.qual ++ "<lambda>") params body scope (cloFrom X.env.cells scope.names []) pm c' ctv)) (hfn : H f = none) (hfr : f ∉ frs X.stack) (hc : H c' = some (CodeF oc c' (X.env.qual ++ "<lambda>"))) :
    CloRun X.prog X.w X.K X.mg X.base kc X.stack [] s H f (liftSp lps.length (cloB N (capsD env js) we)) := by
  refine CloRun.mono (k := kc) (clo_of (k := kb) (F := ⟨"<lambda>", X.env.qual ++ "<lambda>", params, [], scope, cloFrom X.env.cells scope.names [], c'⟩) (N := N) (ps := lps) (fr := fr) (ws := js.map (slotAt σ)) (t := fun E => lfE (fun cls d _ H => E cls d H) we)
    L.sc hf hfn hfr (by simp) hc (cells_of I (Caps.made I.ok (ndef_free L.cap) (ndef_fr L.cap) L.at_)) (fun _ _ _ => by simp) (fun us hl => L.bind _ _ _ _ _ _ us hl) (fun A outer s H E hr => B f c' A outer s H E hr (takes_of rfl rfl rfl rfl)) (fun s2 H2 vs Q E un h => ?_) (fun vs H Q E h => liftSp_len h)) hk
  obtain ⟨ds, st2, Kn, Kx, hold2, dn, e, hw, h1, h2⟩ := h
  refine ⟨by rw [dn.length, e], cloEnv N ds (capsD env js), st2, Kn, Kx, hold2, EnvR.clo dn (by unfold capsD; rw [List.length_map, List.length_map]) fun i d ed => ?_, hw, h1, h2⟩
  have pd := px d (List.mem_of_getElem? ed)
  unfold capsD at ed
  rw [List.getElem?_map] at ed
  cases ej : js[i]? with
  | none => rw [ej] at ed; cases ed
  | some j =>
    rw [ej] at ed
    obtain ⟨v, e1, e2⟩ := er.2 j d (slotD_some (Option.some.inj ed))
    exact ⟨v, by rw [List.getElem?_map, ej]; exact congrArg some (slotAt_of e1), Dn.un un d v pd e2⟩
variable {W : WX} {f : Addr} {fd : FuncData} {ps : List Str} {wf : Clo → WF} {x : Str} {p pos lpos : Pos} {params : Arguments} {body : Expr} {scope : Scope} {lps fr N : List Str} {js : List Nat} {we : WE} {c P : Addr} {nm : Nat → Nat → Str}
/-- x(lambda ..: body) -/
def wCallLam (Φ : Clo) (n : Nat) (N : List Str) (js : List Nat) (we : WE) (wf : Clo → WF) : WE := fun env st Kn Kx => capsOk (capsD env js) ∧ ∀ g, Φ g = none → wf (Φ.set g n (cloB N (capsD env js) we)) [.ref g] st Kn Kx
theorem pd_callLam (F : FnP X.prog X.w X.K X.mg X.base k kc f fd ps wf) (hr : Rm k X.A) (tk : Takes X W) (hg : Gl X x) (hm : X.mg x = some (.ref f)) (hk : PySem.W.keepIn X.K (.ref f) = true) (hb : Binds X.K fd ps []) (hps : ps.length = 1)
    (ca : Φ = Clo.none ∨ (CloAll X.prog X.w X.K X.mg X.base kc X.outer X.s_0 X.H_0 Φ ∧ X.ex = [])) (L : LamD X params scope lps fr N js) (T : TabD X lpos c P nm) (B : LamOk X params body scope N kb we) (hkb : kb + 1 ≤ kc)
    (hdb : (x == ("__debug__" : Str)) = false := by decide) : PD X W (.Call (.Name x p) [.Lambda params body scope lpos] [] pos) (wCallLam Φ lps.length N js we wf) := by
  refine ⟨fun pins s σ H Q I ⟨env, st, Kn, Kx, hold, er, hw, hn, hX⟩ => ?_⟩
  refine wpAny_Call_Name_kw (ld_glob I hg hm ?_ hdb)
  refine PySem.W.callWith_K (h₀ := X.base) I.ok.mod.kin hk ?_ (by rfl) (by rfl)
  show wpAny _ _ (spliced ((false, eval (.Lambda params body scope lpos) X.env) :: backTo pos (starEach [] X.env))) _ _ s
  have hfree : ∀ y ∈ scope.names, y.2 = .free → ∃ c, X.env.cells.lookup y.1 = some c := fun y hy e => (ndef_free L.cap y hy e).elim (fun z => I.ok.has _ (.inl z)) fun z => I.ok.has _ (.inr z)
  refine Calls.spliced_cons (lam_makeF I hold T.tb T.code T.mem T.at_ T.uni L.df hfree fun g c' oc pm ctv H1 s' I1 t1 hf hfn hfr hco hge => ?_)
  refine Calls.spliced_nil ⟨I1.kIn, ?_⟩
  have c0 : CloAll X.prog X.w X.K X.mg X.base kc X.stack s' H1 Φ := by
    rcases ca with rfl | ⟨ca, hx⟩
    · exact CloAll.none
    · exact ca.later I1 hx
  have hΦ : Φ g = none := by
    rcases ca with rfl | ⟨ca, hx⟩
    · rfl
    · cases e : Φ g with
      | none => rfl
      | some q =>
        obtain ⟨_, ⟨o, h1, _⟩, _⟩ := ca g q.1 q.2 e
        exact absurd (Nat.lt_of_lt_of_le (Heap.lt_size h1) (Nat.le_trans I.sz hge)) (Nat.lt_irrefl _)
  have c1 : CloAll X.prog X.w X.K X.mg X.base kc X.stack s' H1 (Φ.set g lps.length (cloB N (capsD env js) we)) := fun g' n' wf' e => by
    unfold Clo.set at e
    split at e
    · rename_i eg
      subst eg
      cases e
      exact lam_clo L B hkb I1 (er.le t1) hw.1 hf hfn hfr hco
    · exact c0 g' n' wf' e
  have b := hb s' [.ref g] I1.kIn (by rw [List.append_nil]; exact hps.symm)
  rw [List.append_nil] at b
  have q : liftSp ps.length (wf (Φ.set g lps.length (cloB N (capsD env js) we))) [.ref g] H1 Q (L2.WE W σ) := lf_call (σ := σ) (W := W) t1 (.cons mk_ref .nil) hps.symm (hw.2 g hΦ) hn hX
  refine wpAny_call (codeAny_mono (F.run X.A X.stack s' H1 ⟨[.ref g], []⟩ [.ref g] [.ref g] Q (L2.WE W σ) _ hr I1.env0 c1 b (.cons rfl .nil) q) fun r s2 hq => ?_)
  cases r with
  | error e => exact passAt tk σ pins H1 s' e s2 I1 hq
  | ok fl =>
    cases fl with
    | ret u => exact I1.after hq
    | next => exact False.elim hq
    | brk => exact False.elim hq
    | cont => exact False.elim hq
end
end DL

/-! exceptions that are caught: a tuple of classes, a def called with the exception, isinstance(e, C), e.f -/
namespace L2
open PySem PySem.Spec PyProof.Rows
theorem flying_keep {B h h' : Heap} {l : List Env} {a : Addr} {Z : Obj → Prop} (x : HandSPX.FlyingZ B l a Z h) (k : ∀ b o, h.get? b = some o → h'.get? b = some o) : HandSPX.FlyingZ B l a Z h' := by
  obtain ⟨h1, h2, h3, oe, vs, T, oT, ts, e1, e2, e3, e4, e5, e6, e7, e8, e9⟩ := x
  exact ⟨fun b o e => k b o (h1 b o e), h2, h3.of_keeps fun b o e _ => ⟨o, k b o e, rfl⟩, oe, vs, T, oT, ts, k _ _ e1, e2, e3, e4, e5, e6, k _ _ e7, e8, e9⟩
/-- the test of an except clause: some classes in a tuple -/
def TupT (X : Cx) (tt : Expr) (cs : List Value) : Prop :=
  ∀ (a : Addr) (oe : Obj) (pn pins : List (Addr × Obj)) {σ : St} {H : Hp} {s : Shared} {cls : Value} {b : Bool} {Q : Bool → Shared → Prop} {E : Value → Shared → Prop}, Inv (X.suite a ((a, oe) :: pn)) [] σ H s → PySem.W.Looks (model X.prog X.w) s.heap (typeOf (.ref a)) cls → PySem.W.exmAny X.K cls cs = some b →
    (∀ h', (∀ b o, s.heap.get? b = some o → h'.get? b = some o) → Q b { s with heap := h' }) →
    wpAny (model X.prog X.w) (X.A.mark (some (.ref a))) (eval tt X.env) (fun c s₁ => wpAny (model X.prog X.w) (X.A.mark (some (.ref a))) (excMatches (.ref a) c) Q E s₁) E s
theorem ld_names {X : Cx} {x : Str} {c : Value} {np : Pos} {a : Addr} {oe : Obj} {pn : List (Addr × Obj)} {σ : St} {H : Hp} {s : Shared} {Q : Value → Shared → Prop} {E : Value → Shared → Prop} (hc : Names X x c) (S : Inv (X.suite a ((a, oe) :: pn)) [] σ H s) (q : Q c s) :
    wpAny (model X.prog X.w) (X.A.mark (some (.ref a))) (eval (.Name x np) X.env) Q E s := by
  obtain ⟨hg, hdbg, hm | ⟨hm, hv, hnn⟩⟩ := hc
  · exact ld_glob (X := X.suite a ((a, oe) :: pn)) S hg hm q hdbg
  · exact ld_blt (X := X.suite a ((a, oe) :: pn)) S hg hm hv q hnn hdbg
theorem tupT1 {X : Cx} {x1 : Str} {c1 : Value} {p1 : Pos} (n1 : Names X x1 c1) : TupT X (.Name x1 p1) [c1] := by
  intro a oe pn pins σ H s cls b Q E S LT he q
  refine ld_names n1 S ?_
  obtain ⟨b1, d1, x1, y1, rfl⟩ := PySem.W.exmAny_cons he
  have y1 : some false = some d1 := y1
  cases y1
  rw [Bool.or_false] at q
  exact (PySem.W.exm_one S.kIn LT x1).here (q s.heap fun _ _ z => z)
theorem tupT3 {X : Cx} {x1 x2 x3 : Str} {c1 c2 c3 : Value} {p1 p2 p3 tp : Pos} {kk : Nat} (n1 : Names X x1 c1) (n2 : Names X x2 c2) (n3 : Names X x3 c3) : TupT X (.Tuple [.Name x1 p1, .Name x2 p2, .Name x3 p3] kk tp) [c1, c2, c3] := by
  intro a oe pn pins σ H s cls b Q E S LT he q
  refine wpAny_Tuple ?_
  refine wpAny_items_cons (ld_names n1 S ?_)
  refine wpAny_items_cons (ld_names n2 S ?_)
  refine wpAny_items_cons (ld_names n3 S ?_)
  refine wpAny_items_nil ⟨by size_fits, ?_⟩
  have kp : ∀ q o, s.heap.get? q = some o → (s.heap.push { cls := .type "tuple", data := .seq [c1, c2, c3].toArray }).get? q = some o := fun _ _ z => Heap.get?_push_of_some _ z
  exact (PySem.W.exm_tup3 (S.kIn.keeps kp) (LT.keeps kp) (Heap.get?_push_size s.heap rfl) he).here (q _ kp)
theorem tupT4 {X : Cx} {x1 x2 x3 x4 : Str} {c1 c2 c3 c4 : Value} {p1 p2 p3 p4 tp : Pos} {kk : Nat} (n1 : Names X x1 c1) (n2 : Names X x2 c2) (n3 : Names X x3 c3) (n4 : Names X x4 c4) : TupT X (.Tuple [.Name x1 p1, .Name x2 p2, .Name x3 p3, .Name x4 p4] kk tp) [c1, c2, c3, c4] := by
  intro a oe pn pins σ H s cls b Q E S LT he q
  refine wpAny_Tuple ?_
  refine wpAny_items_cons (ld_names n1 S ?_)
  refine wpAny_items_cons (ld_names n2 S ?_)
  refine wpAny_items_cons (ld_names n3 S ?_)
  refine wpAny_items_cons (ld_names n4 S ?_)
  refine wpAny_items_nil ⟨by size_fits, ?_⟩
  have kp : ∀ q o, s.heap.get? q = some o → (s.heap.push { cls := .type "tuple", data := .seq [c1, c2, c3, c4].toArray }).get? q = some o := fun _ _ z => Heap.get?_push_of_some _ z
  exact (PySem.W.exm_tup4 (S.kIn.keeps kp) (LT.keeps kp) (Heap.get?_push_size s.heap rfl) he).here (q _ kp)
def wAsT (K : PySem.W.Frag) (cs : List Value) (i : Nat) (ts : Addr → Value → Option Addr → TS) (Wout : WX) (D : Ends) : WX := fun cls d σ H =>
  ∃ b, PySem.W.exmAny K cls cs = some b ∧ (b = true → ∀ a, H a = none → ts a cls d { nx := fun σ' H' => D.nx (σ'.set i none) H', rt := D.rt, bk := fun σ' H' => D.bk (σ'.set i none) H', ct := fun σ' H' => D.ct (σ'.set i none) H' } (σ.set i (some (.ref a))) H) ∧
    (b = false → Wout cls d σ H)
section
variable {X : Cx} {n : Str} {tt : Expr} {cs : List Value} {i : Nat} {body suite : List Stmt} {b₀ : Stmt} {pos pos' : Pos} {tb : WX → TS} {ts : Addr → Value → Option Addr → TS} {Wout : WX}
theorem ps_try_asT (hs : X.stack = X.env :: X.outer) (hf : X.env.frame = some X.env.locals) (hN : X.N.Nodup) (hi : X.N[i]? = some n) (hln : X.env.kindOf n = some .local) (hc : TupT X tt cs) (tk : Takes X Wout)
    (hb : ∀ (W : WX) (pn : List (Addr × Obj)) (xe : Value → Shared → Prop), Takes (X.tr pn xe) W → PassesOwn (model X.prog X.w) X.A X.env xe → PSs (X.tr pn xe) body (tb W))
    (hsu : ∀ (a : Addr) (oe : Obj) (cls : Value) (d : Option Addr) (pn : List (Addr × Obj)), Zc cls d oe → (∃ vs, oe.data = .fields vs) → PSs (X.suite a ((a, oe) :: pn)) (b₀ :: suite) (ts a cls d)) :
    PS X (.Try body [.ExceptHandler (some tt) (some n) (b₀ :: suite) pos'] [] [] pos) (fun D σ H => tb (wAsT X.K cs i ts Wout D) D σ H) := by
  refine ⟨fun pins s σ H D I h => ?_⟩
  have ok := I.ok
  have hfr : X.A.frames = some (X.env :: X.outer) := by rw [ok.frames, hs]
  have hloc : Loc X.env.scope n := .inl hln
  refine wpAny_Try_except ?_
  refine wpAny_mono ((hb (wAsT X.K cs i ts Wout D) (X.pn ++ pins) (fun e s₁ => wpAny (model X.prog X.w) X.A (noteFrame e X.env) (fun _ s₂ => wpAny (model X.prog X.w) X.A (setFlight e none) (fun _ s₃ =>
    wpAny (model X.prog X.w) X.A (handleBy e X.env [.ExceptHandler (some tt) (some n) (b₀ :: suite) pos']) (SP X pins D) X.xe s₃) X.xe s₂) X.xe s₁) (fun u s' xx => ?_) PassesOwn.looking).run [] s σ H D (I.toTry _) h) (fun f s1 hsp => ?_) (fun e s1 he => he)
  · -- the catch
    obtain ⟨a, B, sI, pins', σ', H', cls, d, rfl, J', nb, up, sky, na, os, ag, b, hb1, hyes, hno⟩ := xx
    have J : Inv X pins σ' H' sI := J'.ofTry ok
    have sky' : Sky B (X.env :: X.outer) a (Zc cls d) X.env.locals s'.heap := by rw [← hs]; exact sky
    show wpAny (model X.prog X.w) X.A (noteFrame (.ref a) X.env) _ _ _
    refine Sky.land Zc.steady hfr hf sky' fun h3 fl3 up3 => ?_
    have J3 : Inv X pins σ' H' { s' with heap := h3 } := J.landed nb fl3.1 (up.trans up3) os ag
    obtain ⟨oe3, vs3, he3, hz3, hd3⟩ := fl3.there
    have notFr : ∀ {h : Heap} {o : Obj} {vs : Array Value}, h.FunFrames B (X.env :: X.outer) → h.get? a = some o → o.data = .fields vs → a ∉ frs (X.env :: X.outer) := fun {h o vs} ff e dd hm => by
      obtain ⟨_, o', e', hnf⟩ := ff.mem hm
      rw [e] at e'; cases e'
      exact hnf _ dd
    have nfr := notFr fl3.2.2.1 he3 hd3
    have nL : a ≠ X.env.locals := fun z => nfr (List.mem_filterMap.mpr ⟨X.env, List.mem_cons_self, by rw [hf, z]⟩)
    have nF : a ∉ X.fs := fun hm => by
      obtain ⟨e, he, q⟩ := List.mem_filterMap.mp hm
      exact nfr (List.mem_filterMap.mpr ⟨e, List.mem_cons_of_mem _ he, q⟩)
    have S3 := J3.suite he3 hd3 na nL nF
    refine wpAny_handleBy_cons (codeAny_handlers_test ?_) (by intro q; cases q)
    have LT : PySem.W.Looks (model X.prog X.w) h3 (typeOf (.ref a)) cls := fun A Q E s k q => wpAny_typeOf_ref (k _ _ he3) (by rw [hz3.1]; exact q)
    refine hc a oe3 (X.pn ++ pins) pins' S3 LT hb1 fun h3 k3 => ?_
    have up3 := up3.trans fun b o e _ => ⟨o.slots, k3 b o e⟩
    have fl3 := flying_keep fl3 k3
    have J3 : Inv X pins σ' H' { s' with heap := h3 } := J.landed nb fl3.1 (up.trans up3) os ag
    cases b with
    | true =>
      refine codeAny_handlers_suite_as ?_
      refine HandSPX.lands_againZ fl3 fun h4 fl4 up4 => ?_
      have J4 : Inv X pins σ' H' { s' with heap := h4 } := J.landed nb fl4.1 ((up.trans up3).trans up4) os ag
      obtain ⟨oe4, vs4, he4, hz4, hd4⟩ := fl4.there
      have S4 := J4.suite he4 hd4 na nL nF
      refine store_ok (X := X.suite a ((a, oe4) :: (X.pn ++ pins))) (v := .ref a) S4 hN hi hloc rfl (fun s5 S5 => ?_) (.inr hln)
      refine wpAny_mono ((hsu a oe4 cls d (X.pn ++ pins) hz4 ⟨_, hd4⟩).run [] s5 _ H' _ S5 (hyes rfl a na)) (fun f s6 hsp => ?_) (fun _ _ z => False.elim z)
      have end_ : ∀ {σ6 : St} {H6 : Hp} {Q : Shared → Prop}, Inv (X.suite a ((a, oe4) :: (X.pn ++ pins))) [] σ6 H6 s6 → (∀ s7, Inv X pins (σ6.set i none) H6 s7 → Q s7) →
          wpAny (model X.prog X.w) X.A (do bindName X.env n .none; unbindBehindTheSuite X.env n pos') (fun _ s7 => Q s7) X.xe s6 := fun {σ6 H6 Q} S6 hq => gone_ok (S6.unsuite ok) hN hi hln hq
      cases f with
      | next =>
        obtain ⟨σ6, H6, S6, q6⟩ := hsp
        exact end_ S6 fun s7 J7 => ⟨_, _, J7, q6⟩
      | brk =>
        obtain ⟨σ6, H6, S6, q6⟩ := hsp
        exact end_ S6 fun s7 J7 => ⟨_, _, J7, q6⟩
      | cont =>
        obtain ⟨σ6, H6, S6, q6⟩ := hsp
        exact end_ S6 fun s7 J7 => ⟨_, _, J7, q6⟩
      | ret u =>
        obtain ⟨v6, σ6, H6, S6, r6, q6⟩ := hsp
        exact end_ S6 fun s7 J7 => ⟨_, _, _, J7, r6, q6⟩
    | false =>
      show wpAny _ X.A (handleBy (.ref a) X.env []) _ _ _
      refine wpAny_handleBy_nil ?_
      obtain ⟨k1, k2, k3, oe, vs, T, oT, ts', he, hz, hd, h1, hr⟩ := id fl3
      unfold PySem.passOn
      refine wpAny_bind (wpAny_field he hd h1 ?_)
      rw [if_neg (show ¬ ((Value.ref T == Value.none) = true) from by simp)]
      have fin : wpAny (model X.prog X.w) X.A (setFlight (.ref a) X.env.frame) (fun _ s4 => wpAny (model X.prog X.w) X.A (throw (.ref a) : Sem Flow) (SP X pins D) X.xe s4) X.xe { s' with heap := h3 } := by
        rw [hf]
        refine HandSPX.setFlight_upZ fl3 fun h4 hh4 up4 => wpAny_throw (tk _ _ ?_)
        exact ⟨a, B, sI, pins, σ', H', cls, d, rfl, J, nb, (up.trans up3).trans up4, .inr (.inr (by rw [hs]; exact hh4)), na, os, ag, hno rfl⟩
      first
        | exact wpAny_bind (wpAny_pure (wpAny_bind fin))
        | exact wpAny_bind fin
  · cases f with
    | next =>
      obtain ⟨σ', H', J', q⟩ := hsp
      exact wpAny_execs_nil ⟨σ', H', J'.ofTry ok, q⟩
    | brk =>
      obtain ⟨σ', H', J', q⟩ := hsp
      exact ⟨σ', H', J'.ofTry ok, q⟩
    | cont =>
      obtain ⟨σ', H', J', q⟩ := hsp
      exact ⟨σ', H', J'.ofTry ok, q⟩
    | ret u =>
      obtain ⟨v, σ', H', J', r, q⟩ := hsp
      exact ⟨v, σ', H', J'.ofTry ok, r, q⟩
end
end L2

namespace L2
open PySem PySem.Spec PyProof.Rows
/-- what K says of an own exception class whose instances are asked after -/
structure ExcC (K : PySem.W.Frag) (C : Addr) : Prop where
  cl : (PySem.W.clsIn K C).isSome = true
  ga : PySem.W.findIn K (.ref C) "__getattribute__" = some (some (.builtin "BaseException.__getattribute__"))
  gt : PySem.W.findIn K (.ref C) "__getattr__" = some none
  sub : PySem.W.subIn K (.ref C) (.type "BaseException") = some true
  ca : PySem.W.findIn K (.ref C) "__class__" = some (some (.builtin "object.__class__"))
  sp : PySem.W.specialIn K (.builtin "object.__class__") "__get__" = some (some (.builtin "getset_descriptor.__get__"))
  tk : PySem.W.takesIn K (.builtin "object.__class__") = some true
  mr : PySem.W.mroIn K C (.type "object") = some true
  hd : PySem.W.hasDictIn K C = true
/-- isinstance(e, c), e the pinned exception at a, of the class at C -/
def rIsiE (K : PySem.W.Frag) (a C : Addr) (dd : Option Addr) : List V → Hp → VK → Prop := fun xs H Q => ∃ (c : V) (u : Value) (b : Bool), xs = [.ref a, c] ∧ ClsV c u ∧ PySem.W.kitOne K (.ref C) u = some b ∧ (∀ d, dd = some d → ∃ fs, H d = some (.xd fs)) ∧ Q (.bl b) H
theorem call_isiE {X : Cx} {a C : Addr} {dd : Option Addr} {oe : Obj} (E : ExcC X.K C) (hp : (a, oe) ∈ X.pn) (hz : Zc (.ref C) dd oe) (hf : ∃ vs, oe.data = .fields vs) : CallR X (.builtin "isinstance") (rIsiE X.K a C dd) := by
  intro pins s σ H xs us Q I r h
  obtain ⟨c, u, b, rfl, k, e, hd, q⟩ := h
  obtain ⟨u1, u2, rfl, r1, r2⟩ := vals2 r
  have e2 := k.eq r2
  subst e2
  obtain rfl : u1 = Value.ref a := r1
  obtain ⟨vs, hv⟩ := hf
  have hn : PySem.W.notCls oe = true := by unfold PySem.W.notCls; rw [hv] <;> rfl
  have P1 := (I.pin (a, oe) (List.mem_append_left _ hp)).1
  have J : ∃ od, PySem.W.InstAt s.heap a oe C od := by
    cases q2 : dd with
    | none => exact ⟨none, P1, hz.1, hn, by rw [hz.2, q2]; trivial⟩
    | some d =>
      obtain ⟨fs, ex⟩ := hd d q2
      obtain ⟨mA, hns, _⟩ := I.hok d _ ex
      obtain ⟨od, ho, _⟩ := lookIn_ns hns
      exact ⟨some od, P1, hz.1, hn, by rw [hz.2, q2]; exact ho⟩
  obtain ⟨od, J⟩ := J
  exact PySem.W.kia_one (PySem.W.kitx_exc E.cl E.ga E.gt E.sub E.ca E.sp E.tk E.mr) I.kIn J e (by intro z; cases z) fun tk => ⟨.bl b, H, I.tok tk, rfl, q⟩
/-- e.f -/
theorem pe_byE {X : Cx} {a C : Addr} {dd : Option Addr} {oe : Obj} {e : Expr} {te : TE} {f : Str} {pos : Pos} (E : ExcC X.K C) (hp : (a, oe) ∈ X.pn) (hz : Zc (.ref C) dd oe) (hf : ∃ vs, oe.data = .fields vs) (he : PE X e te)
    (hb : attributeBase e f X.env (eval e X.env) = eval e X.env := by rfl) :
    PE X (.Attribute e f pos) (fun σ H Q => te σ H fun x H1 => x = .ref a ∧ PySem.W.findIn X.K (.ref C) f = some none ∧ ∃ (d : Addr) (fs : List (Str × V)) (v : V), dd = some d ∧ H1 d = some (.xd fs) ∧ fs.lookup f = some v ∧ Q v H1) := by
  refine ⟨fun pins s σ H Q I h => ?_⟩
  refine attr_of hb (thn (he.run pins s σ H _ I h) fun u s1 hh => ?_)
  obtain ⟨x, H1, I1, rx, ex, noN, d, fs, v, ed, ea, l, q⟩ := hh
  subst ex
  obtain rfl : u = Value.ref a := rx
  subst ed
  have ha := (I1.pin (a, oe) (List.mem_append_left _ hp)).1
  obtain ⟨vs, hd⟩ := hf
  have hx : ObjOk X.prog X.w H1 s1.heap d (.xd fs) := I1.hok d _ ea
  obtain ⟨mA, hns, hr⟩ := hx
  obtain ⟨od, ho, hl⟩ := lookIn_ns hns
  obtain ⟨u, hu, ru⟩ := RelO.some_of (v := v) (o := mA f) (by rw [← l]; exact hr f)
  have J : PySem.W.InstAt s1.heap a oe C (some od) := ⟨ha, hz.1, by unfold PySem.W.notCls; rw [hd] <;> rfl, by rw [hz.2]; exact ho⟩
  exact HandSPX.exc_get I1.kIn J E.ga E.gt E.sub (PySem.W.findObj_own E.hd noN rfl (by rw [hl, hu])) (handed_of ru) ⟨v, H1, I1.tok _, ru, q⟩
end L2
namespace DL
open PySem PySem.Spec PyProof.Rows L2
variable [Tb]
/-! ### try: .. except (C, ..) as e: .. -/
theorem XRel.mk {H : Hp} {x : XD} {cls : Value} {dd : Option Addr} {a : Addr} (h : XRel H x cls dd) : Dn H (.exc a x.1 dd (x.2.map (·.1)) (x.2.map (·.2))) (.ref a) := by
  simp only [Dn]
  refine ⟨trivial, ?_⟩
  rcases h.2 with ⟨e1, e2⟩ | ⟨d, vs, e1, e2, fs⟩
  · exact .inl ⟨by rw [e1]; rfl, e2⟩
  · have key : ∀ {fs : List (Str × D)} {vs : List (Str × V)}, Fs H fs vs → vs = (fs.map (·.1)).zip (vs.map (·.2)) ∧ vs.length = fs.length ∧ Dns H (fs.map (·.2)) (vs.map (·.2)) := by
      intro fs
      induction fs with
      | nil => intro vs h; cases h; exact ⟨rfl, rfl, .nil⟩
      | cons p r ih =>
        obtain ⟨f, d⟩ := p
        intro vs h
        obtain ⟨v, s, rfl, h1, h2⟩ := h
        obtain ⟨i1, i2, i3⟩ := ih h2
        exact ⟨by rw [List.map_cons, List.map_cons, List.zip_cons_cons, ← i1], by rw [List.length_cons, List.length_cons, i2], .cons h1 i3⟩
    obtain ⟨k1, k2, k3⟩ := key fs
    exact .inr ⟨d, vs.map (·.2), e1, by rw [← k1]; exact e2, by rw [List.length_map, List.length_map, k2], k3⟩
section
variable {X : Cx} {W : WX} {n : Str} {tt : Expr} {cs : List Value} {i : Nat} {body suite : List Stmt} {b₀ : Stmt} {pos pos' : Pos} {wb : WS} {wsu : Addr → Addr → Option Addr → WS}
def wTryT (K : PySem.W.Frag) (cs : List Value) (i : Nat) (wb : WS) (wsu : Addr → Addr → Option Addr → WS) : WS := fun D env st =>
  wb { D with ex := fun x env' st' => ∃ b, PySem.W.exmAny K (.ref x.1) cs = some b ∧ match b with
    | true => ∀ a dd, (x.2 ≠ [] → dd ≠ none) → wsu a x.1 dd { nx := fun e s => D.nx (e.set i none) s, rt := D.rt, ex := fun _ _ _ => False, bk := fun e s => D.bk (e.set i none) s, ct := fun e s => D.ct (e.set i none) s } (env'.set i (some (.exc a x.1 dd (x.2.map (·.1)) (x.2.map (·.2))))) st'
    | false => D.ex x env' st' } env st
theorem pds_tryT (hs : X.stack = X.env :: X.outer) (hf : X.env.frame = some X.env.locals) (hN : X.N.Nodup) (hi : X.N[i]? = some n) (hln : X.env.kindOf n = some .local) (hc : TupT X tt cs) (tk : Takes X W)
    (hb : ∀ (W' : WX) (pn : List (Addr × Obj)) (xe : Value → Shared → Prop), Takes (X.tr pn xe) W' → PassesOwn (model X.prog X.w) X.A X.env xe → PDSs (X.tr pn xe) W' body wb)
    (hsu : ∀ (a : Addr) (oe : Obj) (C : Addr) (d : Option Addr) (pn : List (Addr × Obj)), Zc (.ref C) d oe → (∃ vs, oe.data = .fields vs) → PDSs (X.suite a ((a, oe) :: pn)) W0 (b₀ :: suite) (wsu a C d)) :
    PDS X W (.Try body [.ExceptHandler (some tt) (some n) (b₀ :: suite) pos'] [] [] pos) (wTryT X.K cs i wb wsu) := by
  refine PS.imp (ps_try_asT (X := X) (tb := fun W' => lfS W' wb) (ts := fun a cls d D σ H => ∃ C, cls = .ref C ∧ lfS W0 (wsu a C d) D σ H) (Wout := W) hs hf hN hi hln hc tk hb (fun a oe cls d pn hz hv => ?_)) fun D σ H ⟨env, st, DD, hold, er, hw, h1, h2, h3, h4, h5⟩ => ?_
  · refine ⟨fun pins s σ H D I ⟨C, ec, h⟩ => ?_⟩
    subst ec
    exact (hsu a oe C d pn hz hv).run pins s σ H D I h
  · refine ⟨env, st, _, hold, er, hw, h1, h2, h3, h4, fun x env' st' cls dd σ' H' k t e' xr => ?_⟩
    obtain ⟨b, eb, k⟩ := k
    obtain ⟨xc, xs⟩ := id xr
    subst xc
    refine ⟨b, eb, fun hb a na => ?_, fun hb => ?_⟩
    · subst hb
      have nd : x.2 ≠ [] → dd ≠ none := fun ne => by
        rcases xr.2 with ⟨e1, _⟩ | ⟨d, vs, e1, _⟩
        · exact absurd e1 ne
        · rw [e1]; exact fun z => nomatch z
      refine ⟨x.1, rfl, _, st', _, t.hold, e'.set i xr.mk, k a dd nd, fun env2 st2 σ2 H2 k2 t2 e2 => h1 _ _ _ _ k2 (t.trans t2) ?_, fun d2 st2 v2 H2 k2 t2 d3 => h2 _ _ _ _ k2 (t.trans t2) d3, fun env2 st2 σ2 H2 k2 t2 e2 => h3 _ _ _ _ k2 (t.trans t2) ?_, fun env2 st2 σ2 H2 k2 t2 e2 => h4 _ _ _ _ k2 (t.trans t2) ?_, fun _ _ _ _ _ _ _ k2 _ _ _ => k2⟩ <;> exact e2.unset i none
    · subst hb
      exact h5 _ _ _ _ _ _ _ k t e' xr
end
/-! ### a def that is called with a caught exception -/
structure FnE (P : Program) (w : World) (K : PySem.W.Frag) (mg : Str → Option Value) (base : Heap) (k : Nat) (f : Addr) (fd : FuncData) (ps : List Str) (wf : Addr → Addr → Option Addr → WF) : Prop where
  run : ∀ (A : Around) (outer : List PySem.Env) (s : Shared) (H : Hp) (args : Args) (us : List Value) (vs : List V) (Q : VK) (E : XK) (p : Addr × Obj) (C : Addr) (d : Option Addr), L2H.RoomH k A → L2H.PinOk outer H s p → Zc (.ref C) d p.2 → (∃ vs, p.2.data = .fields vs) → ExcC K C → Env0 P w K mg base A outer s H → BindsTo s fd args (ps.zip us) → Vals vs us →
    liftSp ps.length (wf p.1 C d) vs H Q E → codeAny (model P w) A (.call (.ref f) args) (CR (L2.CX P w) outer P w H s Q E) s
abbrev excX (P : Program) (w : World) (K : PySem.W.Frag) (mg : Str → Option Value) (base : Heap) (N : List Str) (qual : Str) (scope : Scope) (f : Addr) (cd : Value) (A : Around) (outer : List PySem.Env) (s : Shared) (H : Hp) (E : XK) (p : Addr × Obj) : Cx := L2H.cxH (L2.CX P w) P w K mg base N qual scope f cd A outer s H E p
theorem fn_dE {P : Program} {w : World} {K : PySem.W.Frag} {mg : Str → Option Value} {base : Heap} {x qual : Str} {params : Arguments} {body : List Stmt} {scope : Scope} {dvs : List V} {kws : List (Str × V)} {f : Addr} {fd : FuncData} {N ps : List Str} {k : Nat} {wb : Addr → Addr → Option Addr → WS} {wf : Addr → Addr → Option Addr → WF}
    (F : FunD K x qual params body scope dvs kws f fd) (S : FnScope N ps scope)
    (hbody : ∀ (cdv : Value) (A : Around) (outer : List PySem.Env) (s : Shared) (H : Hp) (E : XK) (p : Addr × Obj) (C : Addr) (d : Option Addr), L2H.RoomH k (A.deeper (envOfC qual scope s.heap.objs.size f cdv)) → Zc (.ref C) d p.2 → (∃ vs, p.2.data = .fields vs) → ExcC K C → PDSs (excX P w K mg base N qual scope f cdv A outer s H E p) W0 body (wb p.1 C d))
    (hsp : ∀ a C d ds st Kn Kx, ds.length = ps.length → wf a C d ds st Kn Kx → wb a C d { nx := fun _ st => Kn .non st, rt := Kn, ex := fun _ _ _ => False } (startD N ds) st) : FnE P w K mg base (k + 1) f fd ps wf := by
  obtain ⟨oc, od, dV, kV, doc, pm, an, cdv, ct, osl, rfl, lk, hcd, _, _⟩ := F.ex
  refine ⟨fun A outer s H args us vs Q E p C d hr hpin hz hf hE e0 hb r h => ?_⟩
  have hl := liftSp_len h
  have KX : K.In s.heap := e0.mod.kin.keeps fun b o e => (e0.bs b o e).1
  have lim : s.heap.NoLimit := e0.mod.nolimit.keeps fun b o e => (e0.bs b o e).1
  have hkind : ∀ y ∈ ps.zip us, scope.names.lookup y.1 = some .local ∨ (scope.names.lookup y.1 = some .cell ∧ ((cellsFrom (s.heap.objs.size + 1) scope.names []).lookup y.1).isSome = true) := fun ⟨n, v⟩ hy => by
    rcases S.par n (List.of_mem_zip hy).1 with q | q
    · exact .inl q
    · exact .inr ⟨q, PySem.W.cellsFrom_some _ _ _ (.inl q)⟩
  refine codeAny_call_function hr.depth (KX _ _ lk) rfl S.co S.gen rfl (PySem.W.codeRec_of KX hcd) (hb _ _ _ _ ?_)
  refine wpAny_newFunctionEnv_cells S.kind hkind fun env he s1 x => ?_
  subst he
  refine ⟨lim.keeps x.toInCall.keep, codeAny_func ?_⟩
  have ht := hbody cdv A outer s H E p C d (hr.deeper _) hz hf hE
  have I : Inv (excX P w K mg base N qual scope f cdv A outer s H E p) [] (L2.start N vs) H s1 := L2H.inv_startH S hpin e0 hl r x
  obtain ⟨ds, st, Kn, Kx, hold, dn, e, hw, h1, h2⟩ := h
  have q : lfS W0 (wb p.1 C d) { nx := fun _ H' => Q .non H', rt := Q } (L2.start N vs) H :=
    ⟨startD N ds, st, _, hold, EnvR.start dn, hsp _ _ _ _ _ _ _ e hw, fun _ _ _ _ k t _ => h1 _ _ _ _ k t mk_non, fun _ _ _ _ k t d => h1 _ _ _ _ k t d, fun _ _ _ _ k _ _ => k.elim, fun _ _ _ _ k _ _ => k.elim, fun _ _ _ _ _ _ _ k _ _ _ => k.elim⟩
  refine wpAny_mono (ht.run [] s1 (L2.start N vs) H _ I q) (fun fl s' hs => ?_) fun e s' hs => hs
  have fin : ∀ {σ' : L2.St} {H' : Hp} {v : V} {u : Value}, Inv (excX P w K mg base N qual scope f cdv A outer s H E p) [] σ' H' s' → RelV v u → Q v H' → CE outer P w H s Q u s' :=
    fun {σ' H' v u} J rv q => ⟨v, H', J.os, J.bare, J.base, J.hok, rv, q⟩
  cases fl with
  | ret u =>
    obtain ⟨v, σ', H', J, rv, q⟩ := hs
    exact fin J rv q
  | next =>
    obtain ⟨σ', H', J, q⟩ := hs
    exact fin (v := V.non) (u := Value.none) J rfl q
  | brk =>
    obtain ⟨_, _, _, q⟩ := hs
    exact False.elim q
  | cont =>
    obtain ⟨_, _, _, q⟩ := hs
    exact False.elim q
section
variable {X : Cx} {k : Nat} {f : Addr} {fd : FuncData} {ps : List Str} {wf : Addr → Addr → Option Addr → WF} {x : Str} {p pos : Pos} {e : Expr} {es : List Expr} {ws : WA} {a C : Addr} {d : Option Addr} {oe : Obj}
/-- f(e, ..) in a suite that holds the exception -/
def wCallE (K : PySem.W.Frag) (a C : Addr) (d : Option Addr) (wf : Addr → Addr → Option Addr → WF) (n : Nat) (ws : WA) : WE := fun env st Kn Kx => ExcC K C ∧ ws env st (fun ds st' => ds.length = n ∧ wf a C d ds st' Kn Kx) Kx
theorem pd_callE {X : Cx} {pn : List (Addr × Obj)} (F : FnE X.prog X.w X.K X.mg X.base k f fd ps wf) (hr : Rm k X.A) (hg : Gl X x) (hm : X.mg x = some (.ref f)) (hk : PySem.W.keepIn X.K (.ref f) = true) (hb : Binds X.K fd ps []) (hz : Zc (.ref C) d oe) (hf : ∃ vs, oe.data = .fields vs)
    (ha : PDA (X.suite a ((a, oe) :: pn)) W0 (e :: es) ws) (hdb : (x == ("__debug__" : Str)) = false := by decide) (he : starEach (e :: es) X.env = (false, eval e X.env) :: starEach es X.env := by rfl) (hpl : (backTo pos (starEach es X.env)).any (·.1) = false := by rfl) :
    PD (X.suite a ((a, oe) :: pn)) W0 (.Call (.Name x p) (e :: es) [] pos) (wCallE X.K a C d wf ps.length ws) := by
  refine ⟨fun pins s σ H Q I ⟨env, st, Kn, Kx, hold, er, hw, hn, hx⟩ => ?_⟩
  obtain ⟨hE, hw⟩ := hw
  refine wpAny_Call_Name_kw (ld_glob I hg hm ?_ hdb)
  have hA : wpAny (model X.prog X.w) (X.suite a ((a, oe) :: pn)).A (spliced (backTo pos (starEach (e :: es) X.env))) (AP (X.suite a ((a, oe) :: pn)) pins σ fun vs H1 => liftSp ps.length (wf a C d) vs H1 Q (L2.WE W0 σ)) (X.suite a ((a, oe) :: pn)).xe s :=
    ha.run pos pins s σ H _ I ⟨env, st, _, Kx, hold, er, hw, fun ds st1 vs H1 kk t dn => lf_call t dn kk.1 kk.2 hn hx, hx⟩
  refine PySem.W.callWith_K (h₀ := X.base) I.ok.mod.kin hk (thn hA fun us s1 ⟨vs, H1, I1, r, h⟩ => ⟨I1.kIn, ?_⟩) he hpl
  have hl : us.length = ps.length := by rw [← r.length]; exact liftSp_len h
  have b := hb s1 us I1.kIn (by rw [List.append_nil]; exact hl)
  rw [List.append_nil] at b
  have P1 := I1.pin (a, oe) (List.mem_append_left _ List.mem_cons_self)
  have hpin : L2H.PinOk (X.suite a ((a, oe) :: pn)).stack H1 s1 (a, oe) := ⟨P1.1, P1.2.1, fun hm => (List.mem_cons.mp (I1.stkSub a hm)).elim P1.2.2.1 P1.2.2.2.1, P1.2.2.2.2⟩
  refine wpAny_call (codeAny_mono (F.run _ _ s1 H1 ⟨us, []⟩ us vs Q (L2.WE W0 σ) (a, oe) C d ⟨hr.dp, hr.un⟩ hpin hz hf hE I1.env0 b r h) fun r s' hq => ?_)
  cases r with
  | error e => exact passAt (X := X.suite a ((a, oe) :: pn)) LamX.takes0 σ pins H1 s1 e s' I1 hq
  | ok fl =>
    cases fl with
    | ret u => exact I1.after hq
    | next => exact False.elim hq
    | brk => exact False.elim hq
    | cont => exact False.elim hq
/-! isinstance(e, c), e.f -/
variable {W : WX} {we : WE}
def gIsiE (K : PySem.W.Frag) (a C : Addr) (dd : Option Addr) : List D → Sto → KD → Prop := fun ds st Kn => match ds with
  | [x, c] => ∃ (ks : List Str) (vs : List D) (u : Value) (b : Bool), x = .exc a C dd ks vs ∧ ClsD c u ∧ PySem.W.kitOne K (.ref C) u = some b ∧ Kn (.bl b) st
  | _ => False
theorem calll_isiE : CallL (rIsiE X.K a C d) (gIsiE X.K a C d) := fun ds vs H st Kn Q h hold dn k => by
  unfold gIsiE at h
  split at h
  · rename_i x c
    obtain ⟨v1, r, rfl, d1, dn⟩ := dn.inv
    obtain ⟨v2, r, rfl, d2, dn⟩ := dn.inv
    cases dn.nil_inv
    obtain ⟨ks, vs, u, b, rfl, hc, hk, h⟩ := h
    simp only [Dn] at d1
    obtain ⟨rfl, d1⟩ := d1
    refine ⟨v2, u, b, rfl, ?_, hk, fun d' ed => ?_, .inl (k _ _ _ _ h (To.refl hold) mk_bl)⟩
    · cases c with
      | ty n => rw [dn_ty d2, show u = _ from hc]; exact .ty n
      | ref a => rw [dn_ref d2, show u = _ from hc]; exact .own a
      | _ => exact (show False from hc).elim
    · rcases d1 with ⟨_, e2⟩ | ⟨d3, us, e2, e3, _⟩
      · rw [e2] at ed; cases ed
      · rw [e2] at ed; cases ed
        exact ⟨_, e3⟩
  · exact h.elim
def wByE (K : PySem.W.Frag) (a C : Addr) (dd : Option Addr) (f : Str) (we : WE) : WE := fun env st Kn Kx => we env st (fun x st' => ∃ (ks : List Str) (vs : List D) (v : D), x = .exc a C dd ks vs ∧ dd ≠ none ∧ PySem.W.findIn K (.ref C) f = some none ∧ (ks.zip vs).lookup f = some v ∧ Kn v st') Kx
theorem lookup_zip {H : Hp} : ∀ {ks : List Str} {ds : List D} {vs : List V} {f : Str} {v : D}, Dns H ds vs → (ks.zip ds).lookup f = some v → ∃ u, (ks.zip vs).lookup f = some u ∧ Dn H v u
  | [], _, _, _, _, _, e => by simp at e
  | k :: ks, [], _, _, _, _, e => by simp at e
  | k :: ks, d :: ds, _, f, v, h, e => by
    obtain ⟨u, r, rfl, h1, h2⟩ := h.inv
    rw [List.zip_cons_cons] at e ⊢
    simp only [List.lookup] at e ⊢
    split at e
    · cases e; exact ⟨u, rfl, h1⟩
    · exact lookup_zip h2 e
theorem pd_byE {f : Str} (E : ExcC X.K C) (hp : (a, oe) ∈ X.pn) (hz : Zc (.ref C) d oe) (hf : ∃ vs, oe.data = .fields vs) (he : PD X W e we) (hb : attributeBase e f X.env (eval e X.env) = eval e X.env := by rfl) :
    PD X W (.Attribute e f pos) (wByE X.K a C d f we) :=
  PE.imp (pe_byE E hp hz hf he hb) fun σ H Q ⟨env, st, Kn, Kx, hold, er, hw, hn, hx⟩ => ⟨env, st, _, Kx, hold, er, hw, fun x st1 v H1 k t dn => by
    obtain ⟨ks, vs, v', rfl, nd, fn, l, k⟩ := k
    simp only [Dn] at dn
    obtain ⟨rfl, dn⟩ := dn
    refine ⟨rfl, fn, ?_⟩
    rcases dn with ⟨_, e2⟩ | ⟨d3, us, e2, e3, e4, r⟩
    · exact absurd e2 nd
    · obtain ⟨u, l2, du⟩ := lookup_zip r l
      exact ⟨d3, _, u, e2, e3, l2, hn _ _ _ _ k t du⟩, hx⟩
end
end DL

namespace L2
open PySem PySem.Spec PyProof.Rows
/-! ### repr(x) of data -/
theorem reads_scal {h : Heap} {v : Value} {d : PyData} {as : List Addr} (r : Reads h v d as) : (d = .none ∧ v = .none) ∨ (∃ b, d = .bool b ∧ v = .bool b) ∨ (∃ i t, d = .int i ∧ v = .int i t) ∨ (∃ x t, d = .str x ∧ v = .str x t) ∨ ∃ a, v = .ref a := by
  cases r with
  | none => exact .inl ⟨rfl, rfl⟩
  | bool b => exact .inr (.inl ⟨_, rfl, rfl⟩)
  | int i t => exact .inr (.inr (.inl ⟨_, _, rfl, rfl⟩))
  | str x t => exact .inr (.inr (.inr (.inl ⟨_, _, rfl, rfl⟩)))
  | list _ _ _ _ => exact .inr (.inr (.inr (.inr ⟨_, rfl⟩)))
  | tuple _ _ _ _ => exact .inr (.inr (.inr (.inr ⟨_, rfl⟩)))
  | dict _ _ _ _ _ => exact .inr (.inr (.inr (.inr ⟨_, rfl⟩)))
def fitR (p : PyData) : Prop := p.showable = true ∧ p.hasDict = false ∧ p.depth ≤ 150 ∧ p.shown.length ≤ sizeLine
def rRepr (K : PySem.W.Frag) : List V → Hp → VK → Prop := fun vs H Q => ∃ v p, vs = [v] ∧ Dp K H v p ∧ fitR p ∧ Q (.str p.shown) H
theorem call_reprD {X : Cx} (hg : X.A.guards = some []) (hu : X.A.units + 151 < cLine) : CallR X (.builtin "repr") (rRepr X.K) := by
  intro pins s σ H xs us Q I r h
  obtain ⟨v, p, rfl, hd, ⟨f1, f2, f3, f4⟩, q⟩ := h
  obtain ⟨u, rfl, rx⟩ := vals1 r
  obtain ⟨as, rd⟩ := Dp.reads I p v u hd rx
  rcases reads_scal rd with ⟨rfl, rfl⟩ | ⟨b, rfl, rfl⟩ | ⟨i, t, rfl, rfl⟩ | ⟨x, t, rfl, rfl⟩ | ⟨a, rfl⟩
  · exact PySem.P.repr_of_none ⟨.str _, H, I.tok _, ⟨_, rfl⟩, by simpa only [PyData.shown] using q⟩
  · exact PySem.P.repr_of_bool ⟨.str _, H, I.tok _, ⟨_, rfl⟩, by simpa only [PyData.shown] using q⟩
  · exact PySem.P.repr_of_int (by simpa only [PyData.showable, decide_eq_true_eq] using f1) ⟨.str _, H, I.tok _, ⟨_, rfl⟩, by simpa only [PyData.shown] using q⟩
  · exact PySem.P.repr_of_str ⟨.str _, H, I.tok _, ⟨_, rfl⟩, by simpa only [PyData.shown] using q⟩ (by simpa only [PyData.shown] using f4)
  · exact repr_of_reads' rd f1 (PyData.noDict_hsm f2) hg (by omega) (fun _ _ e => e) (fun h' u tk hk => ⟨.str p.shown, H, I.kept hk, ⟨_, rfl⟩, q⟩) f4
/-! ### repr(x), bool(x) of an instance by its own method -/
section
variable {prog : Program} {w : World} {A : Around} {E : Value → Shared → Prop} {s : Shared} {K : PySem.W.Frag} {a C f : Addr} {ox : Obj} {od : Option Obj}
theorem bound_def {M : Model} {name : Str} {args : List Value} {Q : Option Value → Shared → Prop} (X : K.In s.heap) (I : PySem.W.InstAt s.heap a ox C od) (hf : PySem.W.findIn K (.ref C) name = some (some (.ref f))) (ht : PySem.W.typeIn K (.ref f) = some (.type "function"))
    (hc : wpAny M A (call (.ref f) (.ref a :: args)) (fun v s' => Q (some v) s') E s) : wpAny M A (callSpecialIfBound? (.ref a) name args) Q E s := by
  simp only [callSpecialIfBound?, bindSpecialIfBound?]
  refine wpAny_holding (wpAny_bind (wpAny_bind ?_))
  unfold specialOf
  refine wpAny_bind (I.type.here ((PySem.W.looks_findIn X hf).here ?_))
  refine wpAny_bind (wpAny_askSetting (wpAny_ite ?_))
  have fin : wpAny M A (call (.ref f) ([.ref a] ++ args) >>= fun v => pure (some v)) Q E s :=
    wpAny_bind (wpAny_mono hc (fun v s' h' => wpAny_pure h') fun _ _ h' => h')
  split
  · exact wpAny_bind ((PySem.W.bind_fn X (.ref a) ht).here (wpAny_pure (by exact fin)))
  · exact wpAny_tryCatch (wpAny_bind ((PySem.W.bind_fn X (.ref a) ht).here (wpAny_pure (by exact fin))))
theorem repr_of_def {Q : Value → Shared → Prop} (X : K.In s.heap) (I : PySem.W.InstAt s.heap a ox C od) (hf : PySem.W.findIn K (.ref C) "__repr__" = some (some (.ref f))) (ht : PySem.W.typeIn K (.ref f) = some (.type "function")) (hu : A.in1.units < cLine)
    (hc : wpAny (model prog w) A.in1 (call (.ref f) [.ref a]) (fun r s' => ∃ m tk, r = .str m tk ∧ Q (.str m tk) s') E s) :
    wpAny (model prog w) A (call (.builtin "repr") [.ref a]) Q E s := by
  refine Calls.call_function_entry F.kind_repr F.plain_repr F.entry_repr (F.args_repr1 _) ?_
  unfold Builtin.«repr»
  refine wpAny_bind (m := oneArg "repr" _) (wpAny_pure ?_)
  refine wpAny_bind (wpAny_cRoomFor hu ?_)
  unfold specialOf
  refine wpAny_bind (wpAny_bind (I.type.here ((PySem.W.looks_findIn X hf).here ?_)))
  show wpAny _ _ (if (some (Value.ref f)).isNone = true then _ else _) _ _ _
  rw [if_neg (by simp)]
  refine wpAny_bind (m := callSpecialIfBound? (.ref a) (Str.ofString "__repr__") _) (bound_def X I hf ht (wpAny_mono hc (fun r s' hr => ?_) fun _ _ y => y))
  obtain ⟨m, tk, rfl, hq⟩ := hr
  refine wpAny_bind (wpAny_isInstance (typeIs_str _ _ _) isSubtype_str_str ?_)
  first
    | exact wpAny_pure ⟨_, rfl, hq⟩
    | (rw [if_pos rfl]; exact wpAny_pure ⟨_, rfl, hq⟩)
    | (simp only [if_true]; exact wpAny_pure ⟨_, rfl, hq⟩)
end
end L2
namespace L2
open PySem PySem.Spec PyProof.Rows
section
variable {prog : Program} {w : World} {A : Around} {E : Value → Shared → Prop} {s : Shared} {K : PySem.W.Frag} {a C f : Addr} {ox : Obj} {od : Option Obj}
theorem bool_of_def {Q : Value → Shared → Prop} (X : K.In s.heap) (I : PySem.W.InstAt s.heap a ox C od) (hb : PySem.W.findIn K (.ref C) "__bool__" = some none) (hf : PySem.W.findIn K (.ref C) "__len__" = some (some (.ref f))) (ht : PySem.W.typeIn K (.ref f) = some (.type "function"))
    (hc : wpAny (model prog w) A.in1.in1.in1 (call (.ref f) [.ref a]) (fun v s' => ∃ n u, v = .int n u ∧ 0 ≤ n ∧ n < 2 ^ 63 ∧ Q (.bool (n != 0)) { s' with toks := s'.toks + 1 }) E s) :
    wpAny (model prog w) A (call (.type "bool") [.ref a]) Q E s := by
  have ft := F.called_bool
  have hct := F.typeCall_bool_1 (.ref a)
  have hcn := F.newCall_bool_1 (.ref a)
  have hmade := ft.made
  have hsub := ft.sub
  obtain ⟨c, tl, hmro⟩ := ft.mro
  refine wpAny_call (codeAny_of_tree ?_)
  show wpAny _ _ (callAny (.type "bool") _) _ _ _
  refine wpAny_pure ⟨Code.quiet_builtin _ (by decide +kernel), codeAny_builtin F.entry_type_call ?_⟩
  rw [Around.under_plain (weight_type_call_type "bool" [.ref a] []) (units_type_call_type "bool" [.ref a] [])]
  have h1 := ft.notType
  have h2 := ft.canCreate
  repeat (any_goals (first | assumption | wp_step))
  have body : wpAny (model prog w) A.in1.in1 (Builtin.«bool.__new__» ⟨[.type "bool", .ref a], []⟩) (fun fin s' => match fin with | .done fl => wants (fun obj s₁ => (∃ b, obj = .bool b) ∧ Q obj s₁) E (.ok fl) s' | .again c' => c'.quiet = true ∧ codeAny (model prog w) A.in1 c' (wants (fun obj s₁ => (∃ b, obj = .bool b) ∧ Q obj s₁) E) s') (fun e s' => wants (fun obj s₁ => (∃ b, obj = .bool b) ∧ Q obj s₁) E (.error e) s') s := by
    have f1 := F.conv_sub_bool
    unfold Builtin.«bool.__new__»
    have T : wpAny (model prog w) A.in1.in1 (truthy (.ref a)) (fun b s' => Q (.bool b) s') E s := truthy_of_def X I hb hf ht hc
    repeat (any_goals (first | assumption | (with_reducible refine wpAny_bind (wpAny_mono T (fun b s' hq => ?_) fun _ _ y => y)) | wp_step))
    exact ⟨⟨_, rfl⟩, by assumption⟩
  refine codeAny_mono (codeAny_call_builtin ft.plain F.entry_bool_new (wpAny_of_eq hcn body)) fun r s₁ hr => ?_
  cases r with
  | error e => exact hr
  | ok fl =>
    cases fl with
    | ret obj =>
      obtain ⟨⟨b, rfl⟩, hq⟩ := hr
      have hli := ft.init.lookup
      have hbi := ft.init.bind (.bool b)
      have hT : s₁.TypeIs (.bool b) "bool" := rfl
      repeat (any_goals (first | assumption | wp_step))
      refine codeAny_mono (codeAny_call_builtin ft.init.plain F.entry_object_init (ft.init.check _ _ _ _ _ _ _ _ hT (F.args_object_init_2 _ (.ref a)) (object_init_meets ft.init.lookup ft.made F.newNe_bool prog w A.in1 (wants (fun r s₂ => r = .none ∧ Q (.bool b) s₂) E) s₁ ⟨hT, rfl, hq⟩))) fun r₂ s₂ hr₂ => ?_
      cases r₂ with
      | error e => exact hr₂
      | ok fl₂ =>
        cases fl₂ with
        | ret r =>
          obtain ⟨rfl, hq⟩ := hr₂
          repeat (any_goals (first | assumption | wp_step))
        | _ => exact hr₂.elim
    | _ => exact hr.elim
end
end L2
namespace DL
open PySem PySem.Spec PyProof.Rows L2
variable [Tb]
section
variable {X : Cx} {W : WX} {k : Nat} {f C : Addr} {fd : FuncData} {ps : List Str} {wf : WF} {x m : Str} {p pos apos : Pos} {e o : Expr} {es : List Expr} {we wo : WE} {ws : WA}
/-! ### repr -/
def gRepr : List D → Sto → KD → Prop := fun ds st Kn => match ds with
  | [d] => match pyS d st with
    | some p => fitR p ∧ Kn (.str p.shown) st
    | none => False
  | _ => False
theorem calll_repr {K : PySem.W.Frag} : CallL (rRepr K) gRepr := fun ds vs H st Kn Q h hold dn k => by
  unfold gRepr at h
  split at h
  · split at h
    · rename_i p e1
      obtain ⟨v, r, rfl, d1, dn⟩ := dn.inv
      cases dn.nil_inv
      exact ⟨v, p, rfl, pyS_dp hold d1 e1, h.1, .inl (k _ _ _ _ h.2 (To.refl hold) mk_str)⟩
    · exact h.elim
  · exact h.elim
/-! ### repr, bool of an instance, by own methods -/
structure RepC (K : PySem.W.Frag) (C f : Addr) : Prop where
  rp : PySem.W.findIn K (.ref C) "__repr__" = some (some (.ref f))
  fn : PySem.W.typeIn K (.ref f) = some (.type "function")
def wReprO (C : Addr) (wf : WF) (ws : WA) : WE := fun env st Kn Kx => ws env st (fun ds st1 => ∃ a fs, (ds = [.ref a] ∧ st1.lookup a = some (.ins C fs)) ∧ wf [.ref a] st1 (fun r st2 => match r with
      | .str n => Kn (.str n) st2
      | _ => False) Kx) Kx
def wBoolO (C : Addr) (wf : WF) (ws : WA) : WE := fun env st Kn Kx => ws env st (fun ds st1 => ∃ a fs, (ds = [.ref a] ∧ st1.lookup a = some (.ins C fs)) ∧ wf [.ref a] st1 (fun r st2 => match r with
      | .int n => (0 ≤ n ∧ n < 2 ^ 63) ∧ Kn (.bl (n != 0)) st2
      | _ => False) Kx) Kx
theorem own_arg {pins : List (Addr × Obj)} {s : Shared} {σ : L2.St} {H : Hp} {n : Nat} {G : V → Hp → Prop} {Kx : KX} {env : DEnv} {st : Sto} {tR : D → Sto → Prop} (ha : PDA X W [e] ws) (I : Inv X pins σ H s) (hold : Hold H st) (er : EnvR H env σ) (hl1 : n = 1)
    (hw : ws env st (fun ds st1 => ∃ a fs, (ds = [.ref a] ∧ st1.lookup a = some (.ins C fs)) ∧ wf [.ref a] st1 tR Kx) Kx) (hx : ∀ x st' cls dd H', Kx x st' → To H st H' st' → XRel H' x cls dd → W cls dd σ H')
    (hG : ∀ d st2 v H2, tR d st2 → To H st H2 st2 → Dn H2 d v → G v H2) :
    wpAny (model X.prog X.w) X.A (spliced (backTo pos (starEach [e] X.env))) (AP X pins σ fun vs H1 => ∃ a dx fs, vs = [.ref a] ∧ H1 a = some (.ins C dx fs) ∧ liftSp n wf [.ref a] H1 G (L2.WE W σ)) X.xe s :=
  ha.run pos pins s σ H _ I ⟨env, st, _, Kx, hold, er, hw, fun ds st1 vs H1 kk t dn => by
      obtain ⟨a, fs, ⟨rfl, l⟩, kk⟩ := kk
      obtain ⟨v, r, rfl, d1, dn⟩ := dn.inv
      cases dn.nil_inv
      obtain ⟨dx, vs, ha, hf⟩ := t.hold.at l
      exact ⟨a, dx, vs, by rw [dn_ref d1], ha, [.ref a], st1, _, Kx, t.hold, .cons mk_ref .nil, hl1.symm, kk, fun d st2 v H2 k2 t2 d2 => hG d st2 v H2 k2 (t.trans t2) d2, fun _ _ _ _ _ k2 t2 x2 => hx _ _ _ _ _ k2 (t.trans t2) x2⟩, hx⟩
theorem pd_reprO (L : RepC X.K C f) (F : FnD X.prog X.w X.K X.mg X.base k f fd ps wf) (hl1 : ps.length = 1) (hr : Rm (k + 1) X.A) (tk : Takes X W) (hb : Binds X.K fd ps []) (hg : Gl X "repr") (hm : X.mg "repr" = none) (ha : PDA X W [e] ws) (hs : starEach [e] X.env = (false, eval e X.env) :: starEach [] X.env := by rfl) :
    PD X W (.Call (.Name "repr" p) [e] [] pos) (wReprO C wf ws) := by
  refine ⟨fun pins s σ H Q I ⟨env, st, Kn, Kx, hold, er, hw, hn, hx⟩ => ?_⟩
  refine wpAny_Call_Name_kw (ld_blt I hg hm (by rfl : bootBuiltins "repr" = some (.builtin "repr")) ?_ (by decide) (by decide))
  refine PyProof.Rows.callWith_builtin1 (thn (own_arg (G := fun v H' => ∃ z, v = .str z ∧ Q (.str z) H') ha I hold er hl1 hw hx fun d st2 v H2 k2 t2 d2 => by
    split at k2
    · exact ⟨_, dn_str d2, hn _ _ _ _ k2 t2 mk_str⟩
    · exact k2.elim) fun us s1 ⟨vs, H1, I1, r1, a, dx, fs, ev, ha1, q⟩ => ?_) hs rfl
  subst ev
  rw [Vals.ref1 r1]
  obtain ⟨mA, O, _⟩ := ins_get I1.hok ha1
  obtain ⟨od, J, _⟩ := O.look
  refine repr_of_def I1.kIn J L.rp L.fn (by have := hr.in1.un; omega) (run_lenD F hr.in1 rfl tk I1 hb q fun v u H' s' I' rv ⟨n, ev, q2⟩ => ?_)
  subst ev
  obtain ⟨t', rfl⟩ := rv
  exact ⟨n, t', rfl, .str n, H', I', ⟨_, rfl⟩, q2⟩
theorem pd_boolO (L : LenC X.K C f) (F : FnD X.prog X.w X.K X.mg X.base k f fd ps wf) (hl1 : ps.length = 1) (hr : Rm (k + 3) X.A) (tk : Takes X W) (hb : Binds X.K fd ps []) (hg : Gl X "bool") (hm : X.mg "bool" = none) (ha : PDA X W [e] ws) (hs : starEach [e] X.env = (false, eval e X.env) :: starEach [] X.env := by rfl) :
    PD X W (.Call (.Name "bool" p) [e] [] pos) (wBoolO C wf ws) := by
  refine ⟨fun pins s σ H Q I ⟨env, st, Kn, Kx, hold, er, hw, hn, hx⟩ => ?_⟩
  refine wpAny_Call_Name_kw (ld_blt I hg hm (by rfl : bootBuiltins "bool" = some (.type "bool")) ?_ (by decide) (by decide))
  refine PyProof.Rows.callWith_type1 (thn (own_arg (G := fun v H' => ∃ n : Int, v = .int n ∧ 0 ≤ n ∧ n < 2 ^ 63 ∧ Q (.bl (n != 0)) H') ha I hold er hl1 hw hx fun d st2 v H2 k2 t2 d2 => by
    split at k2
    · exact ⟨_, dn_int d2, k2.1.1, k2.1.2, hn _ _ _ _ k2.2 t2 mk_bl⟩
    · exact k2.elim) fun us s1 ⟨vs, H1, I1, r1, a, dx, fs, ev, ha1, q⟩ => ?_) hs rfl
  subst ev
  rw [Vals.ref1 r1]
  obtain ⟨mA, O, _⟩ := ins_get I1.hok ha1
  obtain ⟨od, J, _⟩ := O.look
  refine bool_of_def I1.kIn J L.nob L.len L.fn (run_lenD F hr.in1.in1.in1 rfl tk I1 hb q fun v u H' s' I' rv ⟨n, ev, h0, h1, q2⟩ => ?_)
  subst ev
  obtain ⟨t', rfl⟩ := rv
  exact ⟨n, t', rfl, h0, h1, .bl (n != 0), H', I'.tok _, rfl, q2⟩
end
end DL

namespace L2
open PySem PySem.Spec PyProof.Rows
/-! ### l.count(x), data of any depth -/
def rCountD (K : PySem.W.Frag) : V → List V → Hp → VK → Prop := fun x xs H Q => ∃ (a : Addr) (y : V) (d : PyData) (ds : List PyData), x = V.ref a ∧ xs = [y] ∧ Dp K H (V.ref a) (.list ds) ∧ Dp K H y d ∧
  SeqAt.shaped (.list ds) = true ∧ SeqAt.shaped d = true ∧ Q (.int (ds.countP fun z => PyData.eqv z d : Nat)) H
theorem mt_countD {X : Cx} (hu : X.A.units + 65 < cLine) : MtR X "list.count" (rCountD X.K) := by
  intro pins s σ H x xs v us Q I rx rxs h
  obtain ⟨a, y, d, ds, rfl, rfl, hl, hy, sl, sd, q⟩ := h
  cases rx
  cases rxs with
  | cons ry rt =>
    rename_i uy ut
    cases rt
    obtain ⟨bs, r1⟩ := Dp.reads I d y uy hy ry
    have hxs : PyData.canLayAll0 ds = true := SeqAt.canLay_of_shaped sl
    have hroom : X.A.units + 1 + min (PyData.depthAll ds) d.depth < cLine := room_in_shaped sd hu
    cases hl with
    | lst hs ha =>
      obtain ⟨its, rv, ⟨⟨cls, dd, data, sls⟩, n, ho, hc, hdn, hdt⟩, hlen⟩ := I.list hs
      simp only at hc hdt
      subst hc hdt
      obtain ⟨as, h4⟩ := Dp.readsAll I ds _ its ha rv
      have hmap : its.map (SeqAt.readOf s.heap) = ds := SeqAt.readsAll_map ds its as hxs h4
      refine call_meets PySem.F.slot_list_count ⟨_, ho, rfl⟩ PySem.F.entry_list_count (PySem.F.args_list_count_2 _ _)
        (SeqAt.list_countAt a its.toArray n dd sls uy (fun u => PyData.eqv (SeqAt.readOf s.heap u) d)) ⟨ho, SeqAt.items_eqAt (vs := its.toArray) (show ReadsAll s.heap its.toArray.toList ds as from h4) r1 hxs (SeqAt.canLay_of_shaped sd) hroom, ?_⟩
      have ec : its.toArray.toList.countP (fun u => PyData.eqv (SeqAt.readOf s.heap u) d) = ds.countP fun z => PyData.eqv z d := by
        rw [← hmap, List.countP_map]; rfl
      refine ⟨.int (ds.countP fun z => PyData.eqv z d : Nat), H, I.tok _, ⟨s.toks, ?_⟩, q⟩
      show Value.int ((its.toArray.toList.countP (fun u => PyData.eqv (SeqAt.readOf s.heap u) d) : Nat) : Int) s.toks = _
      rw [ec]
end L2
namespace DL
open PySem PySem.Spec PyProof.Rows L2
variable [Tb]
section
variable {X : Cx} {W : WX} {k : Nat} {f C : Addr} {fd : FuncData} {ps : List Str} {wf : WF} {x m : Str} {p pos apos : Pos} {e o i value : Expr} {es : List Expr} {we wo wi wv : WE} {ws : WA}
/-! ### l.index(x), l.count(x) -/
def gIndex : D → List D → Sto → KD → Prop := fun l xs st Kn => match pyS l st, xs with
  | some (.list ps), [x] => match pyS x st with
    | some q => match ps.findIdx? fun z => PyData.eqv z q with
      | some j => (SeqAt.shaped (.list ps) = true ∧ SeqAt.shaped q = true) ∧ Kn (.int (j : Nat)) st
      | none => False
    | none => False
  | _, _ => False
def gCount : D → List D → Sto → KD → Prop := fun l xs st Kn => match pyS l st, xs with
  | some (.list ps), [x] => match pyS x st with
    | some q => (SeqAt.shaped (.list ps) = true ∧ SeqAt.shaped q = true) ∧ Kn (.int (ps.countP fun z => PyData.eqv z q : Nat)) st
    | none => False
  | _, _ => False
/-- x a list: by value or one that changes -/
def isLs (l : D) (st : Sto) : Prop := ∃ ds, lsOf l st = some ds
def wBMl (g : D → List D → Sto → KD → Prop) (wo : WE) (ws : WA) : WE := fun env st Kn Kx => wo env st (fun l st1 => isLs l st1 ∧ ws env st1 (fun xs st2 => g l xs st2 Kn) Kx) Kx
theorem dp_ref {K : PySem.W.Frag} {H : Hp} {v : V} {ps : List PyData} (h : Dp K H v (.list ps)) : ∃ a, v = .ref a := by cases h; exact ⟨_, rfl⟩
theorem pd_index (hu : X.A.units + 65 < cLine) (ho : PD X W o wo) (ha : PDA X W [e] ws) (hbase : attributeBase o "index" X.env (eval o X.env) = eval o X.env := by rfl)
    (hfew : ((backTo pos (starEach [e] X.env)).all (fun x => !x.1) && (backToKw pos (keywordEach [] X.env)).all (fun x => x.1.isSome)
      && decide ([e].length + ([] : List Keyword).length + (if ([] : List Keyword).isEmpty then 0 else 1) < 30)) = true := by rfl)
    (hline : (apos.endLine == pos.line) = true := by rfl) (hs : starEach [e] X.env = (false, eval e X.env) :: starEach [] X.env := by rfl) (hplain : (backTo pos (starEach [] X.env)).any (·.1) = false := by rfl) :
    PD X W (.Call (.Attribute o "index" apos) [e] [] pos) (wBMl gIndex wo ws) :=
  PE.imp (pe_bm PySem.F.plainAttrs_list PySem.F.slot_list_index PySem.F.type_list_index (mt_indexD hu) ho ha hbase hfew hline hs hplain) fun σ H Q ⟨env, st, Kn, Kx, hold, er, hw, hn, hx⟩ => ⟨env, st, _, Kx, hold, er, hw, fun d st1 v H1 k1 t1 d1 => by
    obtain ⟨⟨ds, l⟩, k1⟩ := k1
    obtain ⟨a, xs, rfl, ha, r⟩ := lsOf_rd t1.hold d1 l
    refine ⟨.inl ⟨rfl, xs, SqL.rd ha⟩, env, st1, _, Kx, t1.hold, er.le t1, k1, fun x st2 u H2 k2 t2 d2 => ?_, fun _ _ _ _ _ k2 t2 xr => hx _ _ _ _ _ k2 (t1.trans t2) xr⟩
    unfold gIndex at k2
    split at k2
    · rename_i l1 l2 ps y e1
      split at k2
      · rename_i q e2
        split at k2
        · rename_i j ej
          obtain ⟨y, r2, rfl, d3, dn⟩ := d2.inv
          cases dn.nil_inv
          obtain ⟨hj, h1, h2⟩ := List.findIdx?_eq_some_iff_getElem.mp ej
          exact ⟨a, y, q, ps, j, ps[j], rfl, rfl, pyS_dp t2.hold (t2.dn d1) e1, pyS_dp t2.hold d3 e2, k2.1.1, k2.1.2, List.getElem?_eq_getElem hj, h1, fun m z hm hz => by
            obtain ⟨hm', hz⟩ := List.getElem?_eq_some_iff.mp hz
            have := h2 m hm
            rw [hz] at this
            simpa using this, hn _ _ _ _ k2.2 (t1.trans t2) mk_int⟩
        · exact k2.elim
      · exact k2.elim
    · exact k2.elim, hx⟩
theorem pd_count (hu : X.A.units + 65 < cLine) (ho : PD X W o wo) (ha : PDA X W [e] ws) (hbase : attributeBase o "count" X.env (eval o X.env) = eval o X.env := by rfl)
    (hfew : ((backTo pos (starEach [e] X.env)).all (fun x => !x.1) && (backToKw pos (keywordEach [] X.env)).all (fun x => x.1.isSome)
      && decide ([e].length + ([] : List Keyword).length + (if ([] : List Keyword).isEmpty then 0 else 1) < 30)) = true := by rfl)
    (hline : (apos.endLine == pos.line) = true := by rfl) (hs : starEach [e] X.env = (false, eval e X.env) :: starEach [] X.env := by rfl) (hplain : (backTo pos (starEach [] X.env)).any (·.1) = false := by rfl) :
    PD X W (.Call (.Attribute o "count" apos) [e] [] pos) (wBMl gCount wo ws) :=
  PE.imp (pe_bm PySem.F.plainAttrs_list PySem.F.slot_list_count PySem.F.type_list_count (mt_countD hu) ho ha hbase hfew hline hs hplain) fun σ H Q ⟨env, st, Kn, Kx, hold, er, hw, hn, hx⟩ => ⟨env, st, _, Kx, hold, er, hw, fun d st1 v H1 k1 t1 d1 => by
    obtain ⟨⟨ds, l⟩, k1⟩ := k1
    obtain ⟨a, xs, rfl, ha, r⟩ := lsOf_rd t1.hold d1 l
    refine ⟨.inl ⟨rfl, xs, SqL.rd ha⟩, env, st1, _, Kx, t1.hold, er.le t1, k1, fun x st2 u H2 k2 t2 d2 => ?_, fun _ _ _ _ _ k2 t2 xr => hx _ _ _ _ _ k2 (t1.trans t2) xr⟩
    unfold gCount at k2
    split at k2
    · rename_i l1 l2 ps y e1
      split at k2
      · rename_i q e2
        obtain ⟨y, r2, rfl, d3, dn⟩ := d2.inv
        cases dn.nil_inv
        exact ⟨a, y, q, ps, rfl, rfl, pyS_dp t2.hold (t2.dn d1) e1, pyS_dp t2.hold d3 e2, k2.1.1, k2.1.2, hn _ _ _ _ k2.2 (t1.trans t2) mk_int⟩
      · exact k2.elim
    · exact k2.elim, hx⟩
/-! ### x is True, x is not False -/
def gIsB (neg : Bool) : D → D → Sto → KD → Prop := fun dx dy st Kn => match dx, dy with
  | .bl a, .bl b => Kn (.bl (if neg then !decide (a = b) else decide (a = b))) st
  | _, _ => False
theorem opl_isB : OpC (fun x y H Q => ∃ a b, x = .bl a ∧ y = .bl b ∧ Q (.bl (decide (a = b))) H) (gIsB false) := fun dx dy x y H st Kn Q h hold d1 d2 k => by
  unfold gIsB at h
  split at h
  · exact ⟨_, _, dn_bl d1, dn_bl d2, k _ _ _ _ h (To.refl hold) mk_bl⟩
  · exact h.elim
theorem opl_isnotB : OpC (fun x y H Q => ∃ a b, x = .bl a ∧ y = .bl b ∧ Q (.bl (!decide (a = b))) H) (gIsB true) := fun dx dy x y H st Kn Q h hold d1 d2 k => by
  unfold gIsB at h
  split at h
  · exact ⟨_, _, dn_bl d1, dn_bl d2, k _ _ _ _ h (To.refl hold) mk_bl⟩
  · exact h.elim
/-! ### f-strings -/
def wFmt (we : WE) : WE := fun env st Kn Kx => we env st (fun d st1 => match d with
  | .str y => y.length ≤ sizeLine ∧ Kn (.str y) st1
  | .int i => i.natAbs.log2 < 1920 ∧ Kn (.str (toString i)) st1
  | _ => False) Kx
theorem pd_fmt (he : PD X W e we) : PD X W (.FormattedValue e (-1) none pos) (wFmt we) :=
  PE.imp (pe_fmt he) fun σ H Q ⟨env, st, Kn, Kx, hold, er, hw, hn, hx⟩ => ⟨env, st, _, Kx, hold, er, hw, fun d st1 v H1 k1 t1 d1 => by
    split at k1
    · exact .inl ⟨_, dn_str d1, k1.1, hn _ _ _ _ k1.2 t1 mk_str⟩
    · exact .inr ⟨_, dn_int d1, k1.1, hn _ _ _ _ k1.2 t1 mk_str⟩
    · exact k1.elim, hx⟩
inductive PDJ (X : Cx) (W : WX) : List Expr → List WE → Prop where
  | nil : PDJ X W [] []
  | cons {e : Expr} {t : WE} {es : List Expr} {ts : List WE} (h : PD X W e t) (r : PDJ X W es ts) : PDJ X W (e :: es) (t :: ts)
def wJs : List WE → Str → DEnv → Sto → KD → KX → Prop
  | [], acc, _, st, Kn, _ => Kn (.str acc) st
  | t :: ts, acc, env, st, Kn, Kx => t env st (fun d st1 => match d with
    | .str y => (acc ++ y).length ≤ sizeLine ∧ wJs ts (acc ++ y) env st1 Kn Kx
    | _ => False) Kx
theorem PDJ.pj {es : List Expr} {ts : List WE} (h : PDJ X W es ts) : PJ X es (ts.map (lfE W)) := by
  induction h with
  | nil => exact .nil
  | cons h r ih => exact .cons h ih
theorem lf_js : ∀ (ts : List WE) (acc : Str) (σ : L2.St) (H : Hp) (Q : VK) (env : DEnv) (st : Sto) (Kn : KD) (Kx : KX), Hold H st → EnvR H env σ → wJs ts acc env st Kn Kx → (∀ d st' v H', Kn d st' → To H st H' st' → Dn H' d v → Q v H') →
    (∀ x st' cls dd H', Kx x st' → To H st H' st' → XRel H' x cls dd → W cls dd σ H') → tJs (ts.map (lfE W)) acc σ H fun out H1 => Q (.str out) H1
  | [], acc, σ, H, Q, env, st, Kn, Kx, hold, er, h, hn, hx => hn _ _ _ _ h (To.refl hold) mk_str
  | t :: ts, acc, σ, H, Q, env, st, Kn, Kx, hold, er, h, hn, hx => ⟨env, st, _, Kx, hold, er, h, fun d st1 v H1 k1 t1 d1 => by
    split at k1
    · exact ⟨_, dn_str d1, k1.1, lf_js ts _ σ H1 Q env st1 Kn Kx t1.hold (er.le t1) k1.2 (fun _ _ _ _ k2 t2 d2 => hn _ _ _ _ k2 (t1.trans t2) d2) fun _ _ _ _ _ k2 t2 xr => hx _ _ _ _ _ k2 (t1.trans t2) xr⟩
    · exact k1.elim, hx⟩
def wFS (ts : List WE) : WE := fun env st Kn Kx => wJs ts Str.empty env st Kn Kx
theorem pd_fs {v1 v2 : Expr} {rest : List Expr} {ts : List WE} (h : PDJ X W (v1 :: v2 :: rest) ts) : PD X W (.JoinedStr (v1 :: v2 :: rest) pos) (wFS ts) :=
  PE.imp (pe_joined h.pj) fun σ H Q ⟨env, st, Kn, Kx, hold, er, hw, hn, hx⟩ => lf_js ts _ σ H Q env st Kn Kx hold er hw hn hx
theorem pd_fs1 (he : PD X W e we) : PD X W (.JoinedStr [e] pos) we := pe_joined1 he
/-! ### dicts with tuples of ints and texts as keys -/
def keyOf : D → Option Key
  | .int i => some (.inl i)
  | .str x => some (.inr x)
  | _ => none
def keysOf : List D → Option (List Key)
  | [] => some []
  | d :: ds => match keyOf d, keysOf ds with
    | some a, some b => some (a :: b)
    | _, _ => none
def keyT : D → Option (List Key)
  | .tup ds => keysOf ds
  | _ => none
theorem keysOf_eq {H : Hp} : ∀ {ds : List D} {ks : List Key} {vs : List V}, keysOf ds = some ks → Dns H ds vs → vs = ks.map kV
  | [], ks, vs, e, h => by simp only [keysOf] at e; cases e; exact h.nil_inv
  | d :: ds, ks, vs, e, h => by
    simp only [keysOf] at e
    split at e
    · rename_i a b e1 e2
      cases e
      obtain ⟨v, r, rfl, h1, h2⟩ := h.inv
      rw [keysOf_eq e2 h2, List.map_cons]
      cases d with
      | int i => cases e1; rw [dn_int h1]; rfl
      | str x => cases e1; rw [dn_str h1]; rfl
      | _ => cases e1
    · cases e
theorem keyT_eq {H : Hp} {d : D} {v : V} {k : List Key} (e : keyT d = some k) (h : Dn H d v) : ∃ b, v = .ref b ∧ H b = some (.tup (k.map kV)) := by
  cases d with
  | tup ds =>
    obtain ⟨a, xs, rfl, ha, r⟩ := dn_tup h
    exact ⟨a, rfl, by rw [ha, keysOf_eq e r]⟩
  | _ => cases e
/-- what a table of keys and values holds -/
def getT : List (List Key) → List D → List Key → Option D
  | k :: ks, d :: ds, j => if k = j then some d else getT ks ds j
  | _, _, _ => none
def repT : List (List Key) → List D → List Key → D → List D
  | k :: ks, d :: ds, j, x => (if k = j then x else d) :: repT ks ds j x
  | _, ds, _, _ => ds
def putT (ks : List (List Key)) (ds : List D) (j : List Key) (x : D) : List (List Key) × List D :=
  if (ks.any fun k => decide (k = j)) = true then (ks, repT ks ds j x) else (ks ++ [j], ds ++ [x])
theorem getT_val {H : Hp} {j : List Key} {d : D} : ∀ {xs : List (List Key × V)} {ds : List D}, getT (xs.map (·.1)) ds j = some d → Dns H ds (xs.map (·.2)) → ∃ v, valV xs j = some v ∧ Dn H d v
  | [], ds, e, h => by cases ds <;> simp [getT] at e
  | (k, u) :: xs, [], e, h => by simp [getT] at e
  | (k, u) :: xs, y :: ds, e, h => by
    obtain ⟨v, r, e1, h1, h2⟩ := h.inv
    simp only [List.map_cons, List.cons.injEq] at e1
    obtain ⟨rfl, rfl⟩ := e1
    simp only [List.map_cons, getT] at e
    split at e
    · rename_i ek
      cases e
      exact ⟨u, valV_pos ek, h1⟩
    · rename_i ek
      rw [valV_neg ek]
      exact getT_val e h2
theorem repT_eq {H : Hp} {j : List Key} {d : D} {v : V} (hd : Dn H d v) : ∀ {xs : List (List Key × V)} {ds : List D}, Dns H ds (xs.map (·.2)) → Dns H (repT (xs.map (·.1)) ds j d) ((xs.map fun kv => if kv.1 = j then (kv.1, v) else kv).map (·.2))
  | [], ds, h => by
    have := h.length
    cases ds with
    | nil => exact .nil
    | cons _ _ => cases this
  | (k, u) :: xs, [], h => by have := h.length; cases this
  | (k, u) :: xs, y :: ds, h => by
    obtain ⟨v', r, e1, h1, h2⟩ := h.inv
    simp only [List.map_cons, List.cons.injEq] at e1
    obtain ⟨rfl, rfl⟩ := e1
    simp only [List.map_cons, repT]
    by_cases ek : k = j
    · simp only [ek, if_true]
      exact .cons hd (repT_eq hd h2)
    · simp only [ek, if_false]
      exact .cons h1 (repT_eq hd h2)
theorem putT_eq {H : Hp} {j : List Key} {d : D} {v : V} {xs : List (List Key × V)} {ds : List D} (hd : Dn H d v) (h : Dns H ds (xs.map (·.2))) :
    (putK xs j v).map (·.1) = (putT (xs.map (·.1)) ds j d).1 ∧ Dns H (putT (xs.map (·.1)) ds j d).2 ((putK xs j v).map (·.2)) := by
  have ea : ((xs.map (·.1)).any fun k => decide (k = j)) = (xs.any fun kv => decide (kv.1 = j)) := by rw [List.any_map]; rfl
  unfold putK putT
  rw [ea]
  by_cases e : (xs.any fun kv => decide (kv.1 = j)) = true
  · rw [if_pos e, if_pos e]
    refine ⟨?_, repT_eq hd h⟩
    rw [List.map_map]
    refine List.map_congr_left fun p _ => ?_
    show (if p.1 = j then (p.1, v) else p).1 = p.1
    split <;> rfl
  · rw [if_neg e, if_neg e]
    refine ⟨by rw [List.map_append]; rfl, ?_⟩
    rw [List.map_append]
    exact h.append (.cons hd .nil)
/-- {} -/
def wDNew : WE := fun _ st Kn _ => ∀ p, ¬ st.on p → Kn (.ref p) ((p, .dT [] []) :: st)
theorem pd_dnew : PD X W (.Dict [] [] pos) wDNew :=
  PE.imp pe_dnewT fun σ H Q ⟨env, st, Kn, Kx, hold, er, hw, hn, hx⟩ => fun p hp => hn _ _ _ _ (hw p (hold.fresh hp)) (hold.cell hp (c := .dT [] []) ⟨[], upd_same, rfl, .nil⟩) mk_ref
/-- d[k] -/
def wDGet (wo wi : WE) : WE := fun env st Kn Kx => wo env st (fun o st1 => wi env st1 (fun y st2 => ∃ a ks ds k d, (o = .ref a ∧ st2.lookup a = some (.dT ks ds) ∧ keyT y = some k ∧ getT ks ds k = some d) ∧ Kn d st2) Kx) Kx
theorem pd_dget (hu : X.A.units + 1 < cLine) (ho : PD X W o wo) (hi : PD X W i wi) (hs : NoSl i := by first | (intro _ _; rfl) | rfl) : PD X W (.Subscript o i pos) (wDGet wo wi) :=
  PE.imp (pe_dget hu ho hi hs) fun σ H Q ⟨env, st, Kn, Kx, hold, er, hw, hn, hx⟩ => ⟨env, st, _, Kx, hold, er, hw, fun d1 st1 v1 H1 k1 t1 e1 =>
    ⟨env, st1, _, Kx, t1.hold, er.le t1, k1, fun d2 st2 v2 H2 k2 t2 e2 => by
      obtain ⟨a, ks, ds, k, d, ⟨rfl, l, ek, eg⟩, k2⟩ := k2
      obtain ⟨xs, ha, rfl, r⟩ := t2.hold.at l
      obtain ⟨b, rfl, hb⟩ := keyT_eq ek e2
      obtain ⟨v, ev, dv⟩ := getT_val eg r
      exact ⟨a, v, dn_ref e1, by rw [← ev]; exact DGet.t ha hb, hn _ _ _ _ k2 (t1.trans t2) dv⟩, fun _ _ _ _ _ k2 t2 xr => hx _ _ _ _ _ k2 (t1.trans t2) xr⟩, hx⟩
/-- d[k] = v -/
def wDPut (wo wi wv : WE) : WS := fun DD env st => wv env st (fun d st1 => wo env st1 (fun o st2 => wi env st2 (fun y st3 => ∃ a ks ds k, (o = .ref a ∧ st3.lookup a = some (.dT ks ds) ∧ keyT y = some k ∧ ks.length < sizeLine) ∧ DD.nx env (st3.put a (.dT (putT ks ds k d).1 (putT ks ds k d).2))) fun x st' => DD.ex x env st') fun x st' => DD.ex x env st') fun x st' => DD.ex x env st'
theorem pds_dput {spos tpos : Pos} (hu : X.A.units + 1 < cLine) (ho : PD X W o wo) (hi : PD X W i wi) (hv : PD X W value wv) (hs : swapsWith value (some (.Subscript o i tpos)) spos.line X.env = pure false := by rfl) :
    PDS X W (.Assign [.Subscript o i tpos] value spos) (wDPut wo wi wv) :=
  PS.imp (ps_dput hu ho hi hv hs) fun D σ H ⟨env, st, DD, hold, er, hw, h1, h2, h3, h4, h5⟩ => ⟨env, st, _, _, hold, er, hw, fun d0 st0 v0 H0 k0 t0 e0 =>
    ⟨env, st0, _, _, t0.hold, er.le t0, k0, fun d1 st1 v1 H1 k1 t1 e1 =>
      ⟨env, st1, _, _, t1.hold, (er.le t0).le t1, k1, fun d2 st2 v2 H2 k2 t2 e2 => by
        obtain ⟨a, ks, ds, k, ⟨rfl, l, ek, hz⟩, k2⟩ := k2
        obtain ⟨xs, ha, rfl, r⟩ := t2.hold.at l
        obtain ⟨b, rfl, hb⟩ := keyT_eq ek e2
        have t := (t0.trans t1).trans t2
        obtain ⟨q1, q2⟩ := putT_eq (j := k) ((t1.trans t2).dn e0) r
        have tw := t2.hold.write (o := .dT (putK xs k v0)) (on_of l) (c := .dT (putT (xs.map (·.1)) ds k d0).1 (putT (xs.map (·.1)) ds k d0).2) ⟨_, upd_same, q1, Dns.ext (ext_write ha trivial) _ _ q2⟩
        exact ⟨a, _, dn_ref (t2.dn e1), DPut.t ha hb (by rw [List.length_map] at hz; exact hz), h1 _ _ _ _ k2 (t.trans tw) (er.le (t.trans tw))⟩,
        lfE_s ((er.le t0).le t1) fun _ _ _ _ _ _ _ k2 t2 e2 xr => h5 _ _ _ _ _ _ _ k2 ((t0.trans t1).trans t2) e2 xr⟩,
      lfE_s (er.le t0) fun _ _ _ _ _ _ _ k2 t2 e2 xr => h5 _ _ _ _ _ _ _ k2 (t0.trans t2) e2 xr⟩, lfE_s er h5⟩
end
end DL

namespace DL
open PySem PySem.Spec PyProof.Rows L2
/-! ### own errors, out of what K says -/
section
/-- an own exception class with an own dict, over the tail -/
def excOwnIn (K : PySem.W.Frag) (C : Addr) (tail : List Value) (newId : String) : Bool := match K.lookup C with
  | some ⟨.type "type", _, .cls cd, sl⟩ => (match cd.mro, sl.toList with
    | .ref C' :: bm, [_, _, _, _, some (.builtin n), _] => C' == C && n == newId && !cd.hasDel && cd.hasDict && PySem.OwnX.refsT tail bm
    | _, _ => false)
  | _ => false
theorem excOwn_of {K : PySem.W.Frag} {C : Addr} {tail : List Value} {newId : String} (q : excOwnIn K C tail newId = true) :
    ∃ nm q N bs bm sn sub ab col dd k0 k1 k2 k3 k5, K.lookup C = some (excClassObj nm q C N bs bm true sn sub ab col dd k0 k1 k2 k3 k5 newId) ∧ PySem.OwnX.refsT tail bm = true := by
  unfold excOwnIn at q
  split at q
  · rename_i dd cd sl ho
    split at q
    · rename_i C' bm k0 k1 k2 k3 n k5 hm hs
      simp only [Bool.and_eq_true, beq_iff_eq, Bool.not_eq_true'] at q
      obtain ⟨⟨⟨⟨rfl, rfl⟩, hdel⟩, hdict⟩, ht⟩ := q
      obtain ⟨nm, bs, mro, ns, qn, hd, sn, sub, ab, col, del⟩ := cd
      dsimp only at hm hdel hdict
      subst hm hdel hdict
      have hsl : sl = #[k0, k1, k2, k3, some (.builtin n), k5] := by
        obtain ⟨l⟩ := sl
        simp only at hs
        rw [hs]
      subst hsl
      exact ⟨nm, qn, ns, bs, bm, sn, sub, ab, col, dd, k0, k1, k2, k3, k5, ho, ht⟩
    · cases q
  · cases q
/-- what is asked of a class whose instances are looked at when they are caught -/
def excCB (K : PySem.W.Frag) (C : Addr) : Bool := (PySem.W.clsIn K C).isSome && (decide (PySem.W.findIn K (.ref C) "__getattribute__" = some (some (.builtin "BaseException.__getattribute__"))) && (decide (PySem.W.findIn K (.ref C) "__getattr__" = some none) && (decide (PySem.W.subIn K (.ref C) (.type "BaseException") = some true) &&
  (decide (PySem.W.findIn K (.ref C) "__class__" = some (some (.builtin "object.__class__"))) && (decide (PySem.W.specialIn K (.builtin "object.__class__") "__get__" = some (some (.builtin "getset_descriptor.__get__"))) && (decide (PySem.W.takesIn K (.builtin "object.__class__") = some true) && (decide (PySem.W.mroIn K C (.type "object") = some true) && PySem.W.hasDictIn K C)))))))
theorem excCB_ok {K : PySem.W.Frag} {C : Addr} (h : excCB K C = true) : ExcC K C := by
  unfold excCB at h
  simp only [Bool.and_eq_true, decide_eq_true_eq] at h
  obtain ⟨h1, h2, h3, h4, h5, h6, h7, h8, h9⟩ := h
  exact ⟨h1, h2, h3, h4, h5, h6, h7, h8, h9⟩
/-- .. whose instances are raised -/
def rsB (K : PySem.W.Frag) (C : Addr) : Bool := decide (PySem.W.subIn K (.ref C) (.type "BaseException") = some true) && (decide (PySem.W.typeIn K (.ref C) = some (.type "type")) && PySem.W.keepIn K (.ref C))
structure RsC (K : PySem.W.Frag) (C : Addr) : Prop where
  sub : PySem.W.subIn K (.ref C) (.type "BaseException") = some true
  ty : PySem.W.typeIn K (.ref C) = some (.type "type")
  kp : PySem.W.keepIn K (.ref C) = true
theorem rsB_ok {K : PySem.W.Frag} {C : Addr} (h : rsB K C = true) : RsC K C := by
  unfold rsB at h
  simp only [Bool.and_eq_true, decide_eq_true_eq] at h
  exact ⟨h.1, h.2.1, h.2.2⟩
theorem RsC.raises {X : Cx} {C : Addr} (r : RsC X.K C) : Raises X (.ref C) := raises_own r.sub r.ty
/-- an error with an own __init__ that keeps one field -/
def errB (K : PySem.W.Frag) (f : Str) (tail : List Value) (newId : String) (C fI : Addr) : Bool := excOwnIn K C tail newId && (decide (PySem.W.findIn K (.ref C) "__setattr__" = some (some (.builtin "object.__setattr__"))) && (decide (PySem.W.findIn K (.ref C) "__getattribute__" = some (some (.builtin "BaseException.__getattribute__"))) &&
  (decide (PySem.W.findIn K (.ref C) "__getattr__" = some none) && (decide (PySem.W.findIn K (.ref C) f = some none) && (decide (PySem.W.findIn K (.ref C) "__init__" = some (some (.ref fI))) && (decide (PySem.W.typeIn K (.ref fI) = some (.type "function")) && PySem.W.hasDictIn K C))))))
structure ErrF (K : PySem.W.Frag) (f : Str) (tail : List Value) (newId : String) (C fI : Addr) : Prop where
  cls : ∃ nm q N bs bm sn sub ab col dd k0 k1 k2 k3 k5, K.lookup C = some (excClassObj nm q C N bs bm true sn sub ab col dd k0 k1 k2 k3 k5 newId) ∧ PySem.OwnX.refsT tail bm = true
  sa : PySem.W.findIn K (.ref C) "__setattr__" = some (some (.builtin "object.__setattr__"))
  ga : PySem.W.findIn K (.ref C) "__getattribute__" = some (some (.builtin "BaseException.__getattribute__"))
  gg : PySem.W.findIn K (.ref C) "__getattr__" = some none
  noN : PySem.W.findIn K (.ref C) f = some none
  iC : PySem.W.findIn K (.ref C) "__init__" = some (some (.ref fI))
  tC : PySem.W.typeIn K (.ref fI) = some (.type "function")
  hdC : PySem.W.hasDictIn K C = true
theorem errB_ok {K : PySem.W.Frag} {f : Str} {tail : List Value} {newId : String} {C fI : Addr} (h : errB K f tail newId C fI = true) : ErrF K f tail newId C fI := by
  unfold errB at h
  simp only [Bool.and_eq_true, decide_eq_true_eq] at h
  obtain ⟨h1, h2, h3, h4, h5, h6, h7, h8⟩ := h
  exact ⟨excOwn_of h1, h2, h3, h4, h5, h6, h7, h8⟩
theorem FunD.fnI {K : PySem.W.Frag} {x qual : Str} {params : Arguments} {body : List Stmt} {scope : Scope} {f : Addr} {fd : FuncData} (F : FunD K x qual params body scope [] [] f fd) : ∃ (oc : Value) (od : Option Addr) (kV doc pm : Value) (an : Option Addr) (cdv ct : Value) (osl : Array (Option Value)),
    K.lookup f = some ⟨oc, od, .func (PySem.W.fnOf x qual params body scope .none kV doc pm an cdv ct), osl⟩ ∧ PySem.W.codeIn K cdv qual = true := by
  obtain ⟨oc, od, dV, kV, doc, pm, an, cdv, ct, osl, rfl, lk, hcd, hD, hK⟩ := F.ex
  rcases hD with ⟨_, rfl⟩ | ⟨e, _⟩
  · exact ⟨oc, od, kV, doc, pm, an, cdv, ct, osl, lk, hcd⟩
  · exact absurd rfl e
variable {K : PySem.W.Frag} {mg : Str → Option Value} {B newId initId : String} {tail : List Value} {x q : Str} {C fI : Addr} {fd : FuncData} {p1 p2 q1 q2 q3 q4 : Pos}
theorem low_value (b : ExcBaseFacts B newId initId tail) (t : PySem.OwnX.TailOk tail) (g : mg x = some (.ref C)) (e : ErrF K "value" tail newId C fI) (r : RsC K C) (F : FunD K "__init__" q (PySem.OwnXvalue.iA p1 p2) (PySem.OwnXvalue.iB q1 q2 q3 q4) PySem.OwnXvalue.iS [] [] fI fd) : PySem.OwnXvalue.LowTxt K mg B newId initId tail x q C fI := by
  obtain ⟨oc, od, kV, doc, pm, an, cdv, ct, osl, lk, hcd⟩ := FunD.fnI F
  exact ⟨b, t, g, e.cls, e.sa, e.ga, e.gg, e.noN, e.iC, e.tC, r.kp, r.sub, r.ty, e.hdC, oc, od, kV, doc, pm, an, cdv, ct, osl, p1, p2, q1, q2, q3, q4, lk, hcd⟩
theorem low_index (b : ExcBaseFacts B newId initId tail) (t : PySem.OwnX.TailOk tail) (g : mg x = some (.ref C)) (e : ErrF K "index" tail newId C fI) (r : RsC K C) (F : FunD K "__init__" q (PySem.OwnXindex.iA p1 p2) (PySem.OwnXindex.iB q1 q2 q3 q4) PySem.OwnXindex.iS [] [] fI fd) : PySem.OwnXindex.LowTxt K mg B newId initId tail x q C fI := by
  obtain ⟨oc, od, kV, doc, pm, an, cdv, ct, osl, lk, hcd⟩ := FunD.fnI F
  exact ⟨b, t, g, e.cls, e.sa, e.ga, e.gg, e.noN, e.iC, e.tC, r.kp, r.sub, r.ty, e.hdC, oc, od, kV, doc, pm, an, cdv, ct, osl, p1, p2, q1, q2, q3, q4, lk, hcd⟩
theorem low_limit (b : ExcBaseFacts B newId initId tail) (t : PySem.OwnX.TailOk tail) (g : mg x = some (.ref C)) (e : ErrF K "limit" tail newId C fI) (r : RsC K C) (F : FunD K "__init__" q (PySem.OwnXlimit.iA p1 p2) (PySem.OwnXlimit.iB q1 q2 q3 q4) PySem.OwnXlimit.iS [] [] fI fd) : PySem.OwnXlimit.LowTxt K mg B newId initId tail x q C fI := by
  obtain ⟨oc, od, kV, doc, pm, an, cdv, ct, osl, lk, hcd⟩ := FunD.fnI F
  exact ⟨b, t, g, e.cls, e.sa, e.ga, e.gg, e.noN, e.iC, e.tC, r.kp, r.sub, r.ty, e.hdC, oc, od, kV, doc, pm, an, cdv, ct, osl, p1, p2, q1, q2, q3, q4, lk, hcd⟩
end
section
variable [Tb] {X : Cx} {W : WX} {a : Expr} {ws : WA} {k : Nat} {B newId initId : String} {tail : List Value} {x q : Str} {C fI : Addr} {p pos pos2 : Pos}
theorem pds_raise_value (T : PySem.OwnXvalue.LowTxt X.K X.mg B newId initId tail x q C fI) (hc : X.calm = true) (tk : Takes X W) (hr : Rm k X.A) (ha : PDA X W [a] ws) (hg : Gl X x := by rfl) (hdb : (x == ("__debug__" : Str)) = false := by decide)
    (he : starEach (a :: []) X.env = (false, eval a X.env) :: starEach [] X.env := by rfl) (hpl : (backTo pos (starEach [] X.env)).any (·.1) = false := by rfl) : PDS X W (.Raise (some (.Call (.Name x p) [a] [] pos)) none pos2) (wRaise C "value" ws) :=
  pds_raise1 hc tk (pmk_value T hr.rm ha hg hdb he hpl)
theorem pds_raise_index (T : PySem.OwnXindex.LowTxt X.K X.mg B newId initId tail x q C fI) (hc : X.calm = true) (tk : Takes X W) (hr : Rm k X.A) (ha : PDA X W [a] ws) (hg : Gl X x := by rfl) (hdb : (x == ("__debug__" : Str)) = false := by decide)
    (he : starEach (a :: []) X.env = (false, eval a X.env) :: starEach [] X.env := by rfl) (hpl : (backTo pos (starEach [] X.env)).any (·.1) = false := by rfl) : PDS X W (.Raise (some (.Call (.Name x p) [a] [] pos)) none pos2) (wRaise C "index" ws) :=
  pds_raise1 hc tk (pmk_index T hr.rm ha hg hdb he hpl)
theorem pds_raise_limit (T : PySem.OwnXlimit.LowTxt X.K X.mg B newId initId tail x q C fI) (hc : X.calm = true) (tk : Takes X W) (hr : Rm k X.A) (ha : PDA X W [a] ws) (hg : Gl X x := by rfl) (hdb : (x == ("__debug__" : Str)) = false := by decide)
    (he : starEach (a :: []) X.env = (false, eval a X.env) :: starEach [] X.env := by rfl) (hpl : (backTo pos (starEach [] X.env)).any (·.1) = false := by rfl) : PDS X W (.Raise (some (.Call (.Name x p) [a] [] pos)) none pos2) (wRaise C "limit" ws) :=
  pds_raise1 hc tk (pmk_limit T hr.rm ha hg hdb he hpl)
/-- an error without an own __init__ -/
structure Err0 (K : PySem.W.Frag) (mg : Str → Option Value) (B newId initId : String) (tail : List Value) (x : Str) (C : Addr) : Prop where
  base : ExcBaseFacts B newId initId tail
  ex : PySem.W.excIn K C tail newId = true
  gC : mg x = some (.ref C)
  rs : RsC K C
theorem pds_raise_0 (T : Err0 X.K X.mg B newId initId tail x C) (hc : X.calm = true) (tk : Takes X W) (hg : Gl X x := by rfl) (hdb : (x == ("__debug__" : Str)) = false := by decide) : PDS X W (.Raise (some (.Call (.Name x p) [] [] pos)) none pos2) (wRaise0 C) :=
  pds_raise0 hc tk (pmk_own0 T.base T.ex T.gC T.rs.kp T.rs.raises hg hdb)
end
/-! ### a def that makes functions: its code object is known -/
section
variable [Tb]
theorem fn_dC {P : Program} {w : World} {K : PySem.W.Frag} {mg : Str → Option Value} {base : Heap} {x qual : Str} {params : Arguments} {body : List Stmt} {scope : Scope} {dvs : List V} {kws : List (Str × V)} {at_ : He.Defn} {fd : FuncData} {N ps : List Str} {k : Nat} {wb : WS} {wf : WF}
    (F : FunD K x qual params body scope dvs kws (He.fAd K at_) fd) (S : FnScope N ps scope)
    (hbody : ∀ (A : Around) (outer : List PySem.Env) (s : Shared) (H : Hp) (E : XK), Rm k (A.deeper (envOfC qual scope s.heap.objs.size (He.fAd K at_) (.ref (He.cT K at_).1))) → Takes (defX P w K mg base N qual scope (He.fAd K at_) (.ref (He.cT K at_).1) A outer s H E) (fun cls d _ H => E cls d H) → PDSs (defX P w K mg base N qual scope (He.fAd K at_) (.ref (He.cT K at_).1) A outer s H E) (fun cls d _ H => E cls d H) body wb)
    (hsp : ∀ ds st Kn Kx, ds.length = ps.length → wf ds st Kn Kx → wb (endsD Kn Kx) (startD N ds) st) : FnD P w K mg base (k + 1) (He.fAd K at_) fd ps wf := by
  obtain ⟨oc, od, dV, kV, doc, pm, an, cdv, ct, osl, rfl, lk, hcd, _, _⟩ := F.ex
  obtain ⟨c, rfl⟩ := He.codeIn_ref hcd
  have ec : c = (He.cT K at_).1 := (He.codeOf_eq lk rfl).symm
  subst ec
  refine ⟨fun A outer s H args us vs Q E hr e0 hb r h => ?_⟩
  refine LamX.run_ofS lk hcd S hr.rm e0 hb r (liftSp_len h) fun _ => ⟨_, hbody A outer s H E (hr.deeper _) (takes_of rfl rfl rfl rfl), ?_⟩
  obtain ⟨ds, st, Kn, Kx, hold, dn, e, hw, h1, h2⟩ := h
  exact ⟨startD N ds, st, endsD Kn Kx, hold, EnvR.start dn, hsp _ _ _ _ e hw, fun _ _ _ _ k t _ => h1 _ _ _ _ k t mk_non, fun _ _ _ _ k t d => h1 _ _ _ _ k t d, fun _ _ _ _ k _ _ => k.elim, fun _ _ _ _ k _ _ => k.elim, fun _ _ _ _ _ _ _ k t _ xr => h2 _ _ _ _ _ k t xr⟩
/-- the tables of the defs tf, as they are named -/
def tabsOf (K : PySem.W.Frag) (tf : List (He.Defn × (Nat → Nat → Str))) : List NdefX.NTab := tf.map fun p => ((He.cT K p.1).2, p.2)
/-- what the making of functions asks -/
structure TbF (K : PySem.W.Frag) (mg : Str → Option Value) (base : Heap) (tf : List (He.Defn × (Nat → Nat → Str))) : Prop where
  T : Tb.T = tabsOf K tf
  tb : ∀ p ∈ tf, LamX.TabB base mg (He.cT K p.1).1 (He.cT K p.1).2
  nd : (tf.map fun p => (He.cT K p.1).2).Nodup
theorem nodup_uni {α β : Type} {f : α → β} : ∀ {l : List α}, (l.map f).Nodup → ∀ a ∈ l, ∀ b ∈ l, f a = f b → a = b
  | [], _, a, ha, _, _, _ => by cases ha
  | x :: l, h, a, ha, b, hb, e => by
    rw [List.map_cons, List.nodup_cons] at h
    rcases List.mem_cons.mp ha with ea | ha'
    · rcases List.mem_cons.mp hb with eb | hb'
      · rw [ea, eb]
      · exact (h.1 (List.mem_map.mpr ⟨b, hb', by rw [← e, ea]⟩)).elim
    · rcases List.mem_cons.mp hb with eb | hb'
      · exact (h.1 (List.mem_map.mpr ⟨a, ha', by rw [e, eb]⟩)).elim
      · exact nodup_uni h.2 a ha' b hb' e
theorem TbF.tabD {tf : List (He.Defn × (Nat → Nat → Str))} {X : Cx} (t : TbF X.K X.mg X.base tf) (i : Nat) {at_ : He.Defn} {nm : Nat → Nat → Str} {pos : Pos} (h : tf[i]? = some (at_, nm)) (hc : X.env.code = .ref (He.cT X.K at_).1) (hn : nm pos.line pos.col = X.env.qual ++ "<lambda>") :
    TabD X pos (He.cT X.K at_).1 (He.cT X.K at_).2 nm := by
  have hm := List.mem_of_getElem? h
  refine ⟨t.tb _ hm, hc, by rw [t.T]; exact List.mem_map.mpr ⟨_, hm, rfl⟩, hn, fun p hp e => ?_⟩
  rw [t.T] at hp
  obtain ⟨q, hq, rfl⟩ := List.mem_map.mp hp
  rw [nodup_uni t.nd q hq _ hm e]
def OkP (P : Program) (w : World) (K : PySem.W.Frag) (mg : Str → Option Value) (base : Heap) (k kc : Nat) (x : Str) (f : Addr) (ps : List Str) (wf : Clo → WF) : Prop := ∃ fd, FnP P w K mg base k kc f fd ps wf ∧ OkB K mg x f fd ps
def OkE (P : Program) (w : World) (K : PySem.W.Frag) (mg : Str → Option Value) (base : Heap) (k : Nat) (x : Str) (f : Addr) (ps : List Str) (wf : Addr → Addr → Option Addr → WF) : Prop := ∃ fd, FnE P w K mg base k f fd ps wf ∧ OkB K mg x f fd ps
end
theorem hu64H {k : Nat} {A : Around} (h : L2H.RoomH k A) : A.units + 64 < cLine := by have := h.un; omega
theorem hu65H {k : Nat} {A : Around} (h : L2H.RoomH k A) : A.units + 65 < cLine := by have := h.un; omega
theorem hu1H {k : Nat} {A : Around} (h : L2H.RoomH k A) : A.units + 1 < cLine := by have := h.un; omega
theorem hu151 {k : Nat} {A : Around} (h : Rm k A) : A.units + 151 < cLine := by have := h.un; omega
theorem hu1 {k : Nat} {A : Around} (h : Rm k A) : A.units + 1 < cLine := by have := h.un; omega
theorem repC_of {K : PySem.W.Frag} {C f : Addr} (m : Meth K C "__repr__" f) : RepC K C f := ⟨m.at_, beq_iff_eq.mp m.fn⟩
theorem lamD_by {X : Cx} {params : Arguments} {scope : Scope} {lps fr N : List Str} {js : List Nat} (h1 : NdefX.nscB N lps fr scope = true) (h2 : NdefX.ndefB X.env.scope scope fr = true) (h3 : js.map (fun j => X.N[j]?) = fr.map some) (h4 : defaultsOf params X.env = ([], []))
    (h5 : ∀ (q : Str) (cl : List (Str × Addr)) (body : Expr) (pm cv ctv : Value) (us : List Value), us.length = lps.length → bindArgs (PySem.W.kla_fn "<lambda>" q params body scope cl pm cv ctv) ⟨us, []⟩ = pure (lps.zip us)) : LamD X params scope lps fr N js := ⟨NdefX.nscope_by h1, h2, h3, h4, h5⟩
end DL

namespace DL
open PySem PySem.Spec PyProof.Rows L2
variable [Tb]
omit [Tb] in
theorem rm_caller {k : Nat} (h1 : callerA.depth + 3 * k + 5 < recursionLimit := by decide) (h2 : callerA.units + 16 * k + 200 < cLine := by decide) : Rm k callerA := ⟨⟨rfl, h1, h2⟩, rfl⟩
/-! ### the reading of the heap at the law's call: the script, the empty tables, nothing else -/
section
omit [Tb]
def endH (a : Addr) (xs : List V) (sc : Obj) (Ts : List Addr) : Hp := fun c => if c = a then some (.frz sc (.lst xs)) else if c ∈ Ts then some (.tbl #[]) else none
/-- an object that is neither the script nor a table -/
def Apart (u : Obj) : Prop := (∀ its c, u.data ≠ .seq its c) ∧ u.data ≠ .fields #[]
structure EndAt (g : Heap) (a : Addr) (its : List Value) (Ts : List Addr) : Prop where
  script : g.get? a = some { cls := .type "list", data := .seq its.toArray }
  table : ∀ c ∈ Ts, g.get? c = some { cls := .none, data := .fields #[] }
variable {g : Heap} {a : Addr} {its : List Value} {Ts : List Addr} {xs : List V} {sc : Obj}
theorem EndAt.no (e : EndAt g a its Ts) : a ∉ Ts := fun m => by
  have q := (e.script.symm.trans (e.table a m))
  have q2 := congrArg Obj.data (Option.some.inj q)
  cases q2
theorem EndAt.apart (e : EndAt g a its Ts) {c : Addr} {u : Obj} (h : g.get? c = some u) (z : Apart u) : endH a xs sc Ts c = none := by
  unfold endH
  by_cases c1 : c = a
  · subst c1
    have q := e.script.symm.trans h
    cases q
    exact (z.1 _ _ rfl).elim
  · rw [if_neg c1]
    by_cases c2 : c ∈ Ts
    · have q := (e.table c c2).symm.trans h
      cases q
      exact (z.2 rfl).elim
    · rw [if_neg c2]
theorem EndAt.here (e : EndAt g a its Ts) {c : Addr} {u : Obj} (h : g.get? c = some u) (z : Apart u) : (L2.hidT g (endH a xs sc Ts)).get? c = some u := L2.hidT_get h (e.apart h z)
theorem apart_dict {u : Obj} {es : Array DictEntry} {ep : Nat} (h : u.data = .dict es ep) : Apart u := ⟨fun _ _ z => (nomatch h.symm.trans z), fun z => nomatch h.symm.trans z⟩
theorem apart_plain {u : Obj} (h : u.data = .plain) : Apart u := ⟨fun _ _ z => (nomatch h.symm.trans z), fun z => nomatch h.symm.trans z⟩
theorem EndAt.ns (e : EndAt g a its Ts) {c : Addr} {m : Str → Option Value} (h : g.Ns c m) : (L2.hidT g (endH a xs sc Ts)).Ns c m := by
  obtain ⟨u, es, ep, q, qd, r⟩ := h
  exact ⟨u, es, ep, e.here q (apart_dict qd), qd, r⟩
theorem EndAt.hok {P : Program} {w : World} (e : EndAt g a its Ts) (rv : Vals xs its) (z : xs.length ≤ sizeLine) : HOk P w (endH a xs { cls := .type "list", data := .seq its.toArray } Ts) g := fun c u q => by
  unfold endH at q
  by_cases c1 : c = a
  · rw [if_pos c1] at q
    cases q
    rw [c1]
    exact ⟨e.script, z, its, _, rv, e.script⟩
  · rw [if_neg c1] at q
    by_cases c2 : c ∈ Ts
    · rw [if_pos c2] at q
      cases q
      exact e.table c c2
    · rw [if_neg c2] at q
      cases q
theorem EndAt.tabB (e : EndAt g a its Ts) {mg : Str → Option Value} {c P : Addr} (hP : P ∈ Ts) (hd : PySem.W.CodeHd g c P) (gl : g.Ns mainGlobals mg)
    (bm : ∃ (b : Addr) (ob : Obj), mg "__builtins__" = some (.ref b) ∧ b ≠ builtinsNs ∧ g.get? b = some ob ∧ ob.cls = .type "module" ∧ ob.dict = some builtinsNs ∧ ob.data = .plain) : LamX.TabB (L2.hidT g (endH a xs sc Ts)) mg c P := by
  obtain ⟨go, ges, gep, g1, g2, _⟩ := gl
  have tP := e.table P hP
  refine ⟨?_, ?_, fun q => ?_⟩
  · obtain ⟨u, us, f1, f2, f3, f4, f5, f6, f7, h1, h2, h3, rest⟩ := hd
    refine ⟨u, us, f1, f2, f3, f4, f5, f6, f7, e.here h1 ⟨fun _ _ z => ?_, fun z => ?_⟩, h2, h3, rest⟩
    · rw [h3] at z; cases z
    · rw [h3] at z
      cases z
      have := rest.1
      simp at this
  · obtain ⟨b, ob, b1, b2, b3, b4, b5, b6⟩ := bm
    refine ⟨b, ob, b1, b2, fun q => ?_, fun q => ?_, e.here b3 (apart_plain b6), b4, b5, b6⟩
    · rw [q] at b3
      cases g1.symm.trans b3
      rw [g2] at b6; cases b6
    · rw [q] at b3
      cases tP.symm.trans b3
      cases b6
  · rw [q] at g1
    cases tP.symm.trans g1
    cases g2
end
/-- the law's def, called with the script -/
theorem law_callD {P : Program} {w : World} {K : PySem.W.Frag} {mg mb : Str → Option Value} {k : Nat} {fa a : Addr} {cs : List (Addr × Addr)} {fd : FuncData} {x : Str} {wf : WF} {s₁ : Shared} {vs : List Value} {ns : List Int}
    (KX : K.In s₁.heap) (gl : s₁.heap.Ns mainGlobals mg) (bl : s₁.heap.Ns builtinsNs mb) (bb : ∀ x : Str, x ≠ "__name__" → mb x = bootBuiltins x) (lim : s₁.heap.NoLimit) (hg : s₁.gens = #[]) (hKl : ∀ (a : Addr) (o : Obj), K.lookup a = some o → o.cls = .type "list" → False)
    (hT : ∀ p ∈ cs, s₁.heap.get? p.2 = some { cls := .none, data := .fields #[] }) (nT : ∀ p ∈ cs, K.lookup p.2 = none) (C : ∀ p ∈ cs, PySem.W.CodeHd s₁.heap p.1 p.2)
    (bm : ∃ (b : Addr) (ob : Obj), mg "__builtins__" = some (.ref b) ∧ b ≠ builtinsNs ∧ s₁.heap.get? b = some ob ∧ ob.cls = .type "module" ∧ ob.dict = some builtinsNs ∧ ob.data = .plain)
    (ha : s₁.heap.get? a = some { cls := .type "list", data := .seq vs.toArray }) (hi : IntsAre vs ns) (hl : ns.length ≤ sizeLine) (hr : Rm k callerA)
    (F : ∀ base : Heap, K.In base → base.Ns mainGlobals mg → (∀ p ∈ cs, LamX.TabB base mg p.1 p.2) → FnD P w K mg base k fa fd [x] wf) (hbind : ∀ (s : Shared) (u : Value), BindsTo s fd ⟨[u], []⟩ [(x, u)])
    (hsp : ∀ H : Hp, (∀ p ∈ cs, H p.2 = some (.tbl #[])) → (∃ o, H a = some (.frz o (.lst (ns.map V.int)))) → liftSp 1 wf [.ref a] H (fun v _ => v = .bl true) fun _ _ _ => False) :
    codeAny (model P w) callerA (.call (.ref fa) ⟨[.ref a], []⟩) (fun r s' => r = .ok (.ret (.bool true)) ∧ OldK s₁.heap s'.heap ∧ s'.os = s₁.os ∧ AllBare s'.gens) s₁ := by
  have tin : ∀ p ∈ cs, p.2 ∈ cs.map (·.2) := fun p hp => List.mem_map.mpr ⟨p, hp, rfl⟩
  have E : EndAt s₁.heap a vs (cs.map (·.2)) := ⟨ha, fun c hc => by obtain ⟨p, hp, rfl⟩ := List.mem_map.mp hc; exact hT p hp⟩
  have rv := vals_ints hi
  have hz : (ns.map V.int).length ≤ sizeLine := by rw [List.length_map]; exact hl
  let H := endH a (ns.map V.int) { cls := .type "list", data := .seq vs.toArray } (cs.map (·.2))
  have Ha : H a = some (.frz { cls := .type "list", data := .seq vs.toArray } (.lst (ns.map V.int))) := if_pos rfl
  have Ht : ∀ p ∈ cs, H p.2 = some (.tbl #[]) := fun p hp => (if_neg (fun q => E.no (by rw [← q]; exact tin p hp))).trans (if_pos (tin p hp))
  have Hn : ∀ c, c ≠ a → c ∉ cs.map (·.2) → H c = none := fun c c1 c2 => (if_neg c1).trans (if_neg c2)
  have KB : K.In (L2.hidT s₁.heap H) := fun c o e => L2.hidT_get (KX c o e) (by
    by_cases c1 : c = a
    · subst c1
      cases ha.symm.trans (KX _ _ e)
      exact (hKl _ _ e rfl).elim
    · refine Hn c c1 fun m => ?_
      obtain ⟨p, hp, q⟩ := List.mem_map.mp m
      rw [← q, nT p hp] at e
      cases e)
  have hM : L2.Mod K mg (L2.hidT s₁.heap H) := ⟨KB, E.ns gl, ⟨mb, E.ns bl, bb⟩, let ⟨m, h1, h2⟩ := lim; ⟨m, E.ns h1, h2⟩⟩
  have e0 : Env0 P w K mg (L2.hidT s₁.heap H) callerA [] s₁ H := { frames := rfl, mod := hM, bs := fun c o e => L2.of_hidT e, bsz := Nat.le_of_eq (L2.hidT_size _ _), funs := trivial, frf := fun c hc => (by cases (show c ∈ ([] : List Addr) from hc)), hok := E.hok rv hz, bare := .of_eq hg }
  have call := (F _ KB (E.ns gl) fun p hp => E.tabB (tin p hp) (C p hp) gl bm).run callerA [] s₁ H ⟨[.ref a], []⟩ [.ref a] [.ref a] _ _ hr e0 (hbind s₁ (.ref a)) (.cons rfl .nil) (hsp H Ht ⟨_, Ha⟩)
  refine codeAny_mono call fun r s' h => ?_
  match r, h with
  | .error e, ⟨_, _, _, _, _, _, _, _, _, _, _, _, z⟩ => exact z.elim
  | .ok (.ret u), ⟨v, H', os, bare, un, hok', r', q⟩ =>
    have q : v = .bl true := q
    subst q
    obtain rfl : u = Value.bool true := r'
    have same : ∀ c o, c ∉ cs.map (·.2) → s₁.heap.get? c = some o → s'.heap.get? c = some o := fun c o nc e => by
      by_cases c1 : c = a
      · subst c1
        cases ha.symm.trans e
        exact (hok' _ _ (un.frzs _ _ _ Ha)).1
      · exact un.keep c o e (Hn c c1 nc) (fun m => by cases (show c ∈ ([] : List Addr) from m)) (by simp)
    have more : ∀ p ∈ cs, ∃ l : Array Value, s'.heap.get? p.2 = some { cls := .none, data := .fields l } := fun p hp => by
      obtain ⟨l, z⟩ := un.tbls p.2 #[] (Ht p hp)
      exact ⟨_, hok' p.2 _ z⟩
    refine ⟨rfl, ⟨fun c o e => ?_, fun c o e => ?_⟩, os, bare⟩ <;> by_cases hc : c ∈ cs.map (·.2)
    · obtain ⟨p, hp, q⟩ := List.mem_map.mp hc
      subst q
      obtain ⟨l, z⟩ := more p hp
      cases (hT p hp).symm.trans e
      exact .inr (.inl ⟨((C p hp).tab (hT p hp)).isCodeTable, rfl, #[], l, rfl, by rw [Array.empty_append]; exact z⟩)
    · exact .inl (same c o hc e)
    · obtain ⟨p, hp, q⟩ := List.mem_map.mp hc
      subst q
      obtain ⟨l, z⟩ := more p hp
      exact ⟨_, z⟩
    · exact ⟨o, same c o hc e⟩
omit [Tb] in
/-- what is known of the law's promise at the head's heap h -/
def LawAtD (l : PySem.W.OpenLaw) (w : World) (k n : Nat) (x : Str) (mg : Str → Option Value) (fa : Addr) (h : Heap) : Prop :=
  ∃ (K : PySem.W.Frag) (I : Tb) (fd : FuncData) (cs : List (Addr × Addr)) (wf : WF), K.In h ∧ (∀ (a : Addr) (o : Obj), K.lookup a = some o → o.cls = .type "list" → False) ∧ (∀ p ∈ cs, h.get? p.2 = some { cls := .none, data := .fields #[] }) ∧ (∀ p ∈ cs, K.lookup p.2 = none) ∧ (∀ p ∈ cs, PySem.W.CodeHd h p.1 p.2) ∧
    (∀ (s : Shared) (u : Value), BindsTo s fd ⟨[u], []⟩ [(x, u)]) ∧
    (∀ (H : Hp) (a : Addr) (ns : List Int), ns.length ≤ n → (∀ p ∈ cs, H p.2 = some (.tbl #[])) → (∃ o, H a = some (.frz o (.lst (ns.map V.int)))) → @liftSp I 1 wf [.ref a] H (fun v _ => v = .bl true) fun _ _ _ => False) ∧
    ∀ base : Heap, K.In base → base.Ns mainGlobals mg → (∀ p ∈ cs, LamX.TabB base mg p.1 p.2) → @FnD I l.prog w K mg base k fa fd [x] wf
omit [Tb] in
theorem walk_D {l : PySem.W.OpenLaw} {n k : Nat} {q : Program} {loose : List Str} {XP : (Str → Option Value) → Heap → Prop} {YP : World → Heap → Prop} {d : DefRec} {x : Str}
    (hn : l.most = some n) (hn2 : n ≤ sizeLine) (hdf : d.params.defaults = []) (hr : Rm k callerA)
    (F : ∀ (w : World) (mg : Str → Option Value) (fa : Addr) (h : Heap), YP w h → h.Ns mainGlobals mg → mg d.name = some (.ref fa) → LawAtD l w k n x mg fa h) :
    PySem.W.WalkO q loose XP YP l.row.toRowW d [] (fun f vs => PySem.call f vs) := by
  refine Att.attach_callB hn hdf fun w s₀ s₁ mg mb fa o pm cd doc a vs ns G Y ho hd hcd hmg hobj hints hlen hbits hg => ?_
  obtain ⟨K, I, fd, cs, wf, KX, hKl, hT, nT, C, hb, hsp, hF⟩ := F w mg fa _ Y G.T.g hmg
  exact law_callD KX G.T.g G.T.b G.T.builtins G.T.nolimit hg hKl hT nT C G.T.bmain hobj hints (Nat.le_trans hlen hn2) hr hF hb fun H hH hO => hsp H a ns hlen hH hO
/-- the script handed to the law's promise -/
theorem script_sp {K : PySem.W.Frag} {T : List (He.Defn × (Nat → Nat → Str))} {wf : WF} {H : Hp} {a : Addr} {ns : List Int} (eT : Tb.T = tabsOf K T) (hT : ∀ p ∈ T, H (He.cT K p.1).2 = some (.tbl #[]))
    (hS : ∃ o, H a = some (.frz o (.lst (ns.map V.int)))) (hw : wf [.scr ns] [] (fun d _ => d = .bl true) fun _ _ => False) : liftSp 1 wf [.ref a] H (fun v _ => v = .bl true) fun _ _ _ => False := by
  obtain ⟨o, e⟩ := hS
  refine ⟨[.scr ns], [], fun d _ => d = .bl true, fun _ _ => False, ⟨List.nodup_nil, fun q hq => (by cases hq), fun p hp => ?_⟩, .cons ?_ .nil, rfl, hw, fun d st' v H' k t dn => ?_, fun _ _ _ _ _ k _ _ => False.elim k⟩
  · rw [eT] at hp
    obtain ⟨q, hq, rfl⟩ := List.mem_map.mp hp
    exact TabF.nil (hT q hq)
  · simp only [Dn]
    exact ⟨a, o, _, rfl, e, Dns.ints ns⟩
  · subst k
    exact dn_bl dn
end DL

namespace GV
open PySem PySem.Spec PyProof.Rows L2 DL
abbrev cM (K : PySem.W.Frag) : Addr := He.ga K "Mixture"
abbrev cP (K : PySem.W.Frag) : Addr := He.ga K "Pot"
/-! ### errors -/
inductive Er where
  | mixture (v : D) | pattern (v : D) | pot (v : D) | kind (v : D) | line (v : D) | order (v : D) | deeds (v : D) | nothing | busy | many (n : Int)
def Er.cls : Er → Str
  | .mixture _ => "NotAMixture" | .pattern _ => "NotAPattern" | .pot _ => "NotAPot" | .kind _ => "InvalidKind" | .line _ => "InvalidLine" | .order _ => "InvalidOrder" | .deeds _ => "InvalidDeeds"
  | .nothing => "NothingToUndo" | .busy => "Busy" | .many _ => "TooMany"
def Er.fs : Er → List (Str × D)
  | .mixture v => [("value", v)] | .pattern v => [("value", v)] | .pot v => [("value", v)] | .kind v => [("value", v)] | .line v => [("value", v)] | .order v => [("index", v)] | .deeds v => [("index", v)]
  | .nothing => [] | .busy => [] | .many n => [("limit", .int n)]
def Er.word : Er → Str
  | .mixture _ => "mixture" | .pattern _ => "pattern" | .pot _ => "pot" | .kind _ => "kind" | .line _ => "line" | .order _ => "order" | .deeds _ => "deeds"
  | .nothing => "nothing" | .busy => "busy" | .many _ => "many"
def Er.kept : Er → D
  | .mixture v => v | .pattern v => v | .pot v => v | .kind v => v | .line v => v | .order v => v | .deeds v => v
  | .nothing => .str "" | .busy => .str "" | .many n => .int n
def xE (K : PySem.W.Frag) (e : Er) : XD := (He.ga K e.cls, e.fs)
/-- the place of a class in the law's list -/
def Er.at_ : Er → Nat
  | .mixture _ => 0 | .pattern _ => 1 | .pot _ => 2 | .kind _ => 3 | .line _ => 4 | .order _ => 5 | .deeds _ => 6 | .nothing => 7 | .busy => 8 | .many _ => 9
def erNames : List Str := ["NotAMixture", "NotAPattern", "NotAPot", "InvalidKind", "InvalidLine", "InvalidOrder", "InvalidDeeds", "NothingToUndo", "Busy", "TooMany"]
theorem er_at (e : Er) : erNames[e.at_]? = some e.cls := by cases e <;> rfl
def bases : List Str := ["InputError", "StateError", "SizeError"]
def kins : List String := ["ValueError", "LookupError", "ArithmeticError"]
def rootOf (i : Nat) : Nat := if i < 7 then 0 else if i < 9 then 1 else 2
/-! ### what K says -/
structure TP (K : PySem.W.Frag) : Prop where
  inM : InsTy K (cM K)
  inP : InsTy K (cP K)
  ec : ∀ x ∈ erNames, ExcC K (He.ga K x)
  kit : ∀ (i j : Nat) (x y : Str), erNames[i]? = some x → erNames[j]? = some y → PySem.W.kitOne K (.ref (He.ga K x)) (.ref (He.ga K y)) = some (decide (i = j))
  kitB : ∀ (i j : Nat) (x y : Str), erNames[i]? = some x → bases[j]? = some y → PySem.W.kitOne K (.ref (He.ga K x)) (.ref (He.ga K y)) = some (decide (rootOf i = j))
  kitK : ∀ (i j : Nat) (x : Str) (y : String), erNames[i]? = some x → kins[j]? = some y → PySem.W.kitOne K (.ref (He.ga K x)) (.type y) = some (decide (rootOf i = j))
  exm : ∀ x ∈ erNames, PySem.W.exmAny K (.ref (He.ga K x)) [.ref (He.ga K "InputError"), .ref (He.ga K "StateError"), .ref (He.ga K "SizeError")] = some true
  nof : ∀ x ∈ erNames, ∀ f ∈ (["value", "index", "limit"] : List Str), PySem.W.findIn K (.ref (He.ga K x)) f = some none
/-! ### the things -/
structure Mx where
  c : Int
  st : List (Int × Int)
  tb : List (Int × Int)
  ks : List Int
def pD (p : Int × Int) : D := .tup [.int p.1, .int p.2]
def mixD (m : Mx) : D := .tup [.int m.c, .tup (m.st.map pD), .tup (m.tb.map pD)]
def mxF (m : Mx) : List (Str × D) := [("count", .int m.c), ("starts", .tup (m.st.map pD)), ("table", .tup (m.tb.map pD)), ("told", mixD m), ("kinds", .tup (m.ks.map D.int))]
def okE (c : Int) (p : Int × Int) : Prop := 0 ≤ p.1 ∧ p.1 < c ∧ 0 ≤ p.2 ∧ p.2 ≤ 1000000
structure MxOk (c : Int) (st tb : List (Int × Int)) : Prop where
  c1 : 1 ≤ c
  c8 : c ≤ 8
  s1 : 1 ≤ st.length
  s3 : st.length ≤ 3
  so : ∀ p ∈ st, okE c p
  tl : (tb.length : Int) = c * (c + 1) / 2
  to : ∀ p ∈ tb, okE c p
def mixC (K : PySem.W.Frag) (m : Mx) : Cell := .ins (cM K) (mxF m)
def mixAt (K : PySem.W.Frag) (st : Sto) (a : Addr) (m : Mx) : Prop := st.lookup a = some (mixC K m) ∧ MxOk m.c m.st m.tb
structure Ph where
  ks : List Int
  g : Int
  am : List Int
def phD (p : Ph) : D := .tup [.tup (p.ks.map D.int), .int p.g, .tup (p.am.map D.int)]
def potF (a : Addr) (p : Ph) (past : List Ph) (b : Bool) : List (Str × D) := [("mixture", .ref a), ("kinds", .tup (p.ks.map D.int)), ("given", .int p.g), ("amounts", .tup (p.am.map D.int)), ("past", .tup (past.map phD)), ("busy", .bl b)]
def potC (K : PySem.W.Frag) (a : Addr) (p : Ph) (past : List Ph) (b : Bool) : Cell := .ins (cP K) (potF a p past b)
def lowI (i j : Int) : Int := if j < i then j else i
def highI (i j : Int) : Int := if j > i then j else i
def placeI (c i j : Int) : Int := lowI i j * c - lowI i j * (lowI i j - 1) / 2 + highI i j - lowI i j
def metM (m : Mx) (i j : Int) : Int × Int := m.tb.getD (placeI m.c i j).toNat (0, 0)
def jn (ks : List Int) (k : Int) (i j : Int) : List Int := cutD ks none (some i) ++ [k] ++ cutD ks (some (i + 1)) (some j) ++ cutD ks (some (j + 1)) none
def bump : Nat → Int → List Int → List Int
  | _, _, [] => []
  | k, n, x :: r => (x + if (k : Int) = n then 1 else 0) :: bump (k + 1) n r
def kat (ks : List Int) (i : Int) : Int := ks.getD i.toNat 0
/-- a state, behind n deeds -/
structure PhOk (m : Mx) (n : Nat) (q : Ph) : Prop where
  kl : q.ks.length ≤ n
  kr : ∀ k ∈ q.ks, 0 ≤ k ∧ k < m.c
  g0 : 0 ≤ q.g
  g1 : q.g ≤ n * 1000000
  al : q.am.length = m.st.length
  ar : ∀ x ∈ q.am, 0 ≤ x ∧ x ≤ n
structure PotOk (m : Mx) (past : List Ph) (ph : Ph) : Prop where
  pl : past.length ≤ 60
  all : ∀ (i : Nat) (q : Ph), (past ++ [ph])[i]? = some q → PhOk m i q
structure PotAt (K : PySem.W.Frag) (st : Sto) (p a : Addr) (m : Mx) (ph : Ph) (past : List Ph) (b : Bool) : Prop where
  l : st.lookup p = some (potC K a ph past b)
  mx : mixAt K st a m
  ok : PotOk m past ph
/-! ### values -/
/-- plain, and not great -/
def okV (v : D) : Prop := ∃ p, v.py = some p ∧ p.leavesShort 60 = true ∧ p.showable = true ∧ p.hasDict = false ∧ p.depth ≤ 20 ∧ p.bulk ≤ 1000 ∧ SeqAt.shaped p = true
def inB (v : D) (lo hi : Int) : Bool := match v with
  | .int i => decide (lo ≤ i ∧ i ≤ hi)
  | _ => false
def intOf : D → Int
  | .int i => i
  | _ => 0
/-! ### deeds -/
inductive Deed where
  | put (v : D) | meet (a b : D) | undo
def deedD : Deed → D
  | .put v => .tup [.str "put", v]
  | .meet a b => .tup [.str "meet", a, b]
  | .undo => .tup [.str "undo"]
def okDeed : Deed → Prop
  | .put v => okV v
  | .meet a b => okV a ∧ okV b
  | .undo => True
def putS (m : Mx) (ph : Ph) (n : Int) : Int × Ph := ((m.st.getD n.toNat (0, 0)).2, ⟨ph.ks ++ [(m.st.getD n.toNat (0, 0)).1], ph.g + (m.st.getD n.toNat (0, 0)).2, bump 0 n ph.am⟩)
def meetS (m : Mx) (ph : Ph) (i j : Int) : Int × Ph := ((metM m (kat ph.ks i) (kat ph.ks j)).2, ⟨jn ph.ks (metM m (kat ph.ks i) (kat ph.ks j)).1 i j, ph.g + (metM m (kat ph.ks i) (kat ph.ks j)).2, ph.am⟩)
/-- a pair of places, the smaller first -/
def isPl (a b : D) (n : Int) : Bool := inB a 0 (n - 1) && inB b (intOf a + 1) (n - 1)
def putR (m : Mx) (past : List Ph) (ph : Ph) (v : D) : Except Er (Int × Ph) := if inB v 0 ((m.st.length : Int) - 1) = true then if past.length = 60 then .error (.many 60) else .ok (putS m ph (intOf v)) else .error (.kind v)
def meetR (m : Mx) (past : List Ph) (ph : Ph) (a b : D) : Except Er (Int × Ph) := if isPl a b ph.ks.length = true then if past.length = 60 then .error (.many 60) else .ok (meetS m ph (intOf a) (intOf b)) else .error (.order .non)
/-- a deed: what it gives, the state and the past behind it -/
def stepR (m : Mx) (past : List Ph) (ph : Ph) : Deed → Except Er (D × Ph × List Ph)
  | .put v => match putR m past ph v with
    | .ok (g, q) => .ok (.int g, q, past ++ [ph])
    | .error e => .error e
  | .meet a b => match meetR m past ph a b with
    | .ok (g, q) => .ok (.int g, q, past ++ [ph])
    | .error e => .error e
  | .undo => match past.getLast? with
    | some q => .ok (.non, q, past.dropLast)
    | none => .error .nothing
def erD (e : Er) : D := .tup [.str e.word, e.kept]
def outD : Except Er (D × Ph × List Ph) → D
  | .ok (d, _) => .tup [.str "gave", d]
  | .error e => erD e
def sttD (past : List Ph) (ph : Ph) : D := .lst ((past ++ [ph]).map phD)
/-! ### the bin -/
def binD (x y z : Int) : Cell := .lst [.int x, .int y, .int z]
def binAt (st : Sto) (b : Addr) : Prop := ∃ x y z, st.lookup b = some (binD x y z)
/-- what stands stays -/
def Grow (st st' : Sto) : Prop := ∀ x c, st.lookup x = some c → st'.lookup x = some c
/-- .. but for the bin at b, which stays a bin -/
def Kp (b : Addr) (st st' : Sto) : Prop := binAt st' b ∧ ∀ x c, x ≠ b → st.lookup x = some c → st'.lookup x = some c
end GV

namespace GV
open PySem PySem.Spec PyProof.Rows L2 DL
/-! ### the promises: the program -/
def sp_is_between (K : PySem.W.Frag) : WF := fun ds st Kn Kx => ∃ (v : D) (lo hi : Int), ds = [v, .int lo, .int hi] ∧ okV v ∧ Kn (.bl (inB v lo hi)) st
def sp_is_entry (K : PySem.W.Frag) : WF := fun ds st Kn Kx => ∃ (p : Int × Int) (c : Int), ds = [pD p, .int c] ∧ (okE c p ∧ c ≤ 100) ∧ Kn (.bl true) st
def sp_wrong_entry (K : PySem.W.Frag) : WF := fun ds st Kn Kx => ∃ (l : List (Int × Int)) (c : Int), ds = [.tup (l.map pD), .int c] ∧ ((∀ p ∈ l, okE c p) ∧ c ≤ 100) ∧ Kn .non st
def sp_check_starts (K : PySem.W.Frag) : WF := fun ds st Kn Kx => ∃ (l : List (Int × Int)) (c : Int), ds = [.tup (l.map pD), .int c] ∧ (1 ≤ l.length ∧ l.length ≤ 3) ∧ ((∀ p ∈ l, okE c p) ∧ c ≤ 100) ∧ Kn .non st
def sp_check_table (K : PySem.W.Frag) : WF := fun ds st Kn Kx => ∃ (l : List (Int × Int)) (c : Int), ds = [.tup (l.map pD), .int c, .int l.length] ∧ ((∀ p ∈ l, okE c p) ∧ c ≤ 100) ∧ Kn .non st
def sp_place_in_table (K : PySem.W.Frag) : WF := fun ds st Kn Kx => ∃ c i j : Int, ds = [.int c, .int i, .int j] ∧ (0 ≤ c ∧ c ≤ 1000 ∧ 0 ≤ i ∧ i ≤ 1000 ∧ 0 ≤ j ∧ j ≤ 1000) ∧ Kn (.int (placeI c i j)) st
def sp_arising (K : PySem.W.Frag) : WF := fun ds st Kn Kx => ∃ (c : Int) (s t : List (Int × Int)), ds = [.int c, .tup (s.map pD), .tup (t.map pD)] ∧ MxOk c s t ∧ ∀ ks : List Int, Kn (.tup (ks.map D.int)) st
def sp_MixtureX_initX (K : PySem.W.Frag) : WF := fun ds st Kn Kx => ∃ (a : Addr) (c : Int) (s t : List (Int × Int)), ds = [.ref a, .int c, .tup (s.map pD), .tup (t.map pD)] ∧ st.lookup a = some (.ins (cM K) []) ∧ MxOk c s t ∧ ∀ ks : List Int, Kn .non (st.put a (mixC K ⟨c, s, t, ks⟩))
def sp_Mixture_met (K : PySem.W.Frag) : WF := fun ds st Kn Kx => ∃ (a : Addr) (m : Mx) (i j : Int), ds = [.ref a, .int i, .int j] ∧ mixAt K st a m ∧ (0 ≤ i ∧ i < m.c ∧ 0 ≤ j ∧ j < m.c) ∧ Kn (pD (metM m i j)) st
def sp_check_mixture (K : PySem.W.Frag) : WF := fun ds st Kn Kx => ∃ (a : Addr) (m : Mx), ds = [.ref a] ∧ mixAt K st a m ∧ Kn .non st
def sp_is_pair_of_places (K : PySem.W.Frag) : WF := fun ds st Kn Kx => ∃ (a b : D) (n : Int), ds = [.tup [a, b], .int n] ∧ (okV a ∧ okV b) ∧ Kn (.bl (isPl a b n)) st
def sp_joined (K : PySem.W.Frag) : WF := fun ds st Kn Kx => ∃ (a : Addr) (m : Mx) (ks : List Int) (i j : Int), ds = [.ref a, .tup (ks.map D.int), .int i, .int j] ∧ mixAt K st a m ∧ (0 ≤ i ∧ i < j ∧ j < ks.length) ∧ ks.length ≤ 100 ∧ (∀ k ∈ ks, 0 ≤ k ∧ k < m.c) ∧
  Kn (.tup [.tup ((jn ks (metM m (kat ks i) (kat ks j)).1 i j).map D.int), .int (metM m (kat ks i) (kat ks j)).2]) st
def sp_PotX_initX (K : PySem.W.Frag) : WF := fun ds st Kn Kx => ∃ (p a : Addr) (m : Mx), ds = [.ref p, .ref a] ∧ st.lookup p = some (.ins (cP K) []) ∧ mixAt K st a m ∧ Kn .non (st.put p (potC K a ⟨[], 0, List.replicate m.st.length 0⟩ [] false))
def sp_Pot_become (K : PySem.W.Frag) : WF := fun ds st Kn Kx => ∃ (p a : Addr) (ph : Ph) (past : List Ph) (b : Bool) (ks : List Int) (g : Int) (am : List Int), ds = [.ref p, .tup (ks.map D.int), .int g, .tup (am.map D.int)] ∧ st.lookup p = some (potC K a ph past b) ∧ past.length ≤ 100 ∧ Kn .non (st.put p (potC K a ⟨ks, g, am⟩ (past ++ [ph]) b))
def sp_Pot_check_idle (K : PySem.W.Frag) : WF := fun ds st Kn Kx => ∃ (p a : Addr) (ph : Ph) (past : List Ph) (b : Bool), ds = [.ref p] ∧ st.lookup p = some (potC K a ph past b) ∧ if b = true then Kx (xE K .busy) st else Kn .non st
def sp_Pot_check_room (K : PySem.W.Frag) : WF := fun ds st Kn Kx => ∃ (p a : Addr) (ph : Ph) (past : List Ph) (b : Bool), ds = [.ref p] ∧ st.lookup p = some (potC K a ph past b) ∧ if past.length = 60 then Kx (xE K (.many 60)) st else Kn .non st
/-- what a deed of a pot gives -/
def resP (K : PySem.W.Frag) (p a : Addr) (past : List Ph) (ph : Ph) (b : Bool) (st : Sto) (Kn : KD) (Kx : KX) : Except Er (Int × Ph) → Prop
  | .ok (g, q) => Kn (.int g) (st.put p (potC K a q (past ++ [ph]) b))
  | .error e => Kx (xE K e) st
def sp_Pot_put_in (K : PySem.W.Frag) : WF := fun ds st Kn Kx => ∃ (p a : Addr) (m : Mx) (ph : Ph) (past : List Ph) (b : Bool) (v : D), ds = [.ref p, v] ∧ PotAt K st p a m ph past b ∧ okV v ∧ resP K p a past ph b st Kn Kx (putR m past ph v)
def sp_Pot_let_meet (K : PySem.W.Frag) : WF := fun ds st Kn Kx => ∃ (p a : Addr) (m : Mx) (ph : Ph) (past : List Ph) (b : Bool) (v w : D), ds = [.ref p, v, w] ∧ PotAt K st p a m ph past b ∧ (okV v ∧ okV w) ∧ resP K p a past ph b st Kn Kx (meetR m past ph v w)
def sp_Pot_put (K : PySem.W.Frag) : WF := fun ds st Kn Kx => ∃ (p a : Addr) (m : Mx) (ph : Ph) (past : List Ph) (b : Bool) (v : D), ds = [.ref p, v] ∧ PotAt K st p a m ph past b ∧ okV v ∧ if b = true then Kx (xE K .busy) st else resP K p a past ph b st Kn Kx (putR m past ph v)
def sp_Pot_meet (K : PySem.W.Frag) : WF := fun ds st Kn Kx => ∃ (p a : Addr) (m : Mx) (ph : Ph) (past : List Ph) (b : Bool) (v w : D), ds = [.ref p, v, w] ∧ PotAt K st p a m ph past b ∧ (okV v ∧ okV w) ∧ if b = true then Kx (xE K .busy) st else resP K p a past ph b st Kn Kx (meetR m past ph v w)
def sp_Pot_undo (K : PySem.W.Frag) : WF := fun ds st Kn Kx => ∃ (p a : Addr) (ph : Ph) (past : List Ph) (b : Bool), ds = [.ref p] ∧ st.lookup p = some (potC K a ph past b) ∧ past.length ≤ 100 ∧ if b = true then Kx (xE K .busy) st else match past.getLast? with
  | some q => Kn .non (st.put p (potC K a q past.dropLast b))
  | none => Kx (xE K .nothing) st
def sp_PotX_lenX (K : PySem.W.Frag) : WF := fun ds st Kn Kx => ∃ (p a : Addr) (ph : Ph) (past : List Ph) (b : Bool), ds = [.ref p] ∧ st.lookup p = some (potC K a ph past b) ∧ Kn (.int ph.ks.length) st
/-- what repr of a pot tells -/
def potStr (ph : Ph) : Str := (((("Pot(" : Str) ++ (toString ((ph.ks.length : Nat) : Int) : Str)) ++ " things, ") ++ (toString ph.g : Str)) ++ " given)"
def sp_PotX_reprX (K : PySem.W.Frag) : WF := fun ds st Kn Kx => ∃ (p a : Addr) (ph : Ph) (past : List Ph) (b : Bool), ds = [.ref p] ∧ st.lookup p = some (potC K a ph past b) ∧ (ph.ks.length ≤ 100 ∧ ph.g.natAbs < 10 ^ 12) ∧ Kn (.str (potStr ph)) st
/-! ### the promises: what the laws share -/
def sp_law_bin (K : PySem.W.Frag) : WF := fun ds st Kn Kx => ∃ (ns : List Int) (t : Int), ds = [.scr ns, .int t] ∧ (0 ≤ t ∧ t < 100) ∧ ns.length ≤ 63 ∧ ∀ b x y z, ¬ st.on b → Kn (.ref b) ((b, binD x y z) :: st)
def sp_law_nip (K : PySem.W.Frag) : WF := fun ds st Kn Kx => ∃ (b : Addr) (n : Int), ds = [.ref b, .int n] ∧ binAt st b ∧ (1 ≤ n ∧ n < 1073741824) ∧ ∀ v st', 0 ≤ v → v < n → Kp b st st' → Kn (.int v) st'
def sp_law_pick (K : PySem.W.Frag) : WF := fun ds st Kn Kx => ∃ (b : Addr) (x : D) (xs : List D), (ds = [.ref b, .lst xs] ∨ ds = [.ref b, .tup xs]) ∧ binAt st b ∧ (xs ≠ [] ∧ xs.length ≤ 1000) ∧ ∀ v st', v ∈ xs → Kp b st st' → Kn v st'
def sp_law_mix (K : PySem.W.Frag) : WF := fun ds st Kn Kx => ∃ (b : Addr) (n : Int), ds = [.ref b, .int n] ∧ binAt st b ∧ (1 ≤ n ∧ n ≤ 8) ∧ ∀ m st', MxOk m.c m.st m.tb → m.c ≤ n → m.ks = [] → Kp b st st' → Kn (mixD m) st'
def sp_law_made (K : PySem.W.Frag) : WF := fun ds st Kn Kx => ∃ m : Mx, ds = [mixD m] ∧ MxOk m.c m.st m.tb ∧ ∀ a ks, ¬ st.on a → Kn (.ref a) ((a, mixC K { m with ks := ks }) :: st)
/-- the dict of a table -/
def entK (i j : Int) : List Key := [.inl i, .inl j]
def entsAt (st : Sto) (d : Addr) (m : Mx) : Prop := ∃ ks ds, st.lookup d = some (.dT ks ds) ∧ ∀ i j, 0 ≤ i → i < m.c → 0 ≤ j → j < m.c → getT ks ds (entK i j) = some (pD (metM m i j))
def sp_law_entries (K : PySem.W.Frag) : WF := fun ds st Kn Kx => ∃ m : Mx, ds = [mixD m] ∧ MxOk m.c m.st m.tb ∧ ∀ d st', ¬ st.on d → entsAt st' d m → Grow st st' → Kn (.ref d) st'
def sp_law_is_in (K : PySem.W.Frag) : WF := sp_is_between K
def sp_law_after (K : PySem.W.Frag) : WF := fun ds st Kn Kx => ∃ (m : Mx) (past : List Ph) (ph : Ph) (d : Deed), ds = [mixD m, sttD past ph, deedD d] ∧ MxOk m.c m.st m.tb ∧ PotOk m past ph ∧ okDeed d ∧ ∀ st', Grow st st' → match stepR m past ph d with
  | .ok (r, q, past') => Kn (.tup [.tup [.str "gave", r], sttD past' q]) st'
  | .error e => Kn (.tup [erD e, sttD past ph]) st'
def sp_law_begun (K : PySem.W.Frag) : WF := fun ds st Kn Kx => ∃ m : Mx, ds = [mixD m] ∧ MxOk m.c m.st m.tb ∧ Kn (sttD [] ⟨[], 0, List.replicate m.st.length 0⟩) st
def sp_law_shows (K : PySem.W.Frag) : WF := fun ds st Kn Kx => ∃ (p a : Addr) (m : Mx) (ph : Ph) (past past' : List Ph), ds = [.ref p, sttD past' ph] ∧ PotAt K st p a m ph past false ∧ Kn (.bl true) st
def sp_law_do (K : PySem.W.Frag) : WF := fun ds st Kn Kx => ∃ (p a : Addr) (m : Mx) (ph : Ph) (past : List Ph) (d : Deed), ds = [.ref p, deedD d] ∧ PotAt K st p a m ph past false ∧ okDeed d ∧ match stepR m past ph d with
  | .ok (r, q, past') => Kn r (st.put p (potC K a q past' false))
  | .error e => Kx (xE K e) st
def sp_law_alike (K : PySem.W.Frag) : WF := fun ds st Kn Kx => ∃ (d : D) (p : PyData), ds = [d, d] ∧ d.py = some p ∧ fitR p ∧ Kn (.bl true) st
def sp_law_sort (K : PySem.W.Frag) : Addr → Addr → Option Addr → WF := fun a C dd ds st Kn Kx => ∃ e : Er, ds = [.exc a C dd (e.fs.map (·.1)) (e.fs.map (·.2))] ∧ C = He.ga K e.cls ∧ (e.fs ≠ [] → dd ≠ none) ∧ Kn (erD e) st
def sp_law_caught (K : PySem.W.Frag) : Clo → WF := fun Φ ds st Kn Kx => ∃ (g : Addr) (wf : WF), ds = [.ref g] ∧ Φ g = some (0, wf) ∧ wf [] st (fun d st' => Kn (.tup [.str "gave", d]) st') (fun x st' => ∃ e : Er, x = xE K e ∧ Kn (erD e) st')
def sp_law_deed (K : PySem.W.Frag) : WF := fun ds st Kn Kx => ∃ (b : Addr) (m : Mx) (past : List Ph) (ph : Ph), ds = [.ref b, mixD m, sttD past ph] ∧ binAt st b ∧ MxOk m.c m.st m.tb ∧ PotOk m past ph ∧ ∀ d st', okDeed d → Kp b st st' → Kn (deedD d) st'
def sp_law_right (K : PySem.W.Frag) : WF := fun ds st Kn Kx => ∃ b, ds = [.ref b] ∧ binAt st b ∧ ∀ st', Kn (.bl true) st'
def sp_law (K : PySem.W.Frag) : WF := fun ds st Kn Kx => ∃ ns : List Int, ds = [.scr ns] ∧ ns.length ≤ 63 ∧ ∀ st', Kn (.bl true) st'
end GV

namespace GV
open PySem PySem.Spec PyProof.Rows L2 DL
abbrev wb_is_between (K : PySem.W.Frag) : WS := (wRet (wAndV (wCB (gIsi K) (wCons (wVar 0) (wCons (wC (.ty "int")) wNil))) (wAndV (wNotV (wCB (gIsi K) (wCons (wVar 0) (wCons (wC (.ty "bool")) wNil)))) (wChain gLe gLe (wVar 1) (wVar 0) (wVar 2)))))
abbrev Pu_is_between (K : PySem.W.Frag) : Prop := ∀ ds st Kn Kx, ds.length = 3 → sp_is_between K ds st Kn Kx → wb_is_between K (endsD Kn Kx) (startD ["value", "low", "high"] ds) st
abbrev wb_is_entry (K : PySem.W.Frag) : WS := (wSeq (wIf (wOr (wNot (wTv (wCB (gIsi K) (wCons (wVar 0) (wCons (wC (.ty "tuple")) wNil))))) (wTv (wOp gNe (wCB gLen (wCons (wVar 0) wNil)) (wC (.int 2))))) (wRet (wC (.bl false))) wNext)
    (wRet (wAndV (wCallN 3 (sp_is_between K) (wCons (wOp gIx (wVar 0) (wC (.int 0))) (wCons (wC (.int 0)) (wCons (wOp gSub (wVar 1) (wC (.int 1))) wNil)))) (wCallN 3 (sp_is_between K) (wCons (wOp gIx (wVar 0) (wC (.int 1))) (wCons (wC (.int 0)) (wCons (wC (.int 1000000)) wNil)))))))
abbrev Pu_is_entry (K : PySem.W.Frag) : Prop := ∀ ds st Kn Kx, ds.length = 2 → sp_is_entry K ds st Kn Kx → wb_is_entry K (endsD Kn Kx) (startD ["value", "count"] ds) st
abbrev wb_wrong_entry (K : PySem.W.Frag) : WS := (wSeq (wForE (wCons (wVar 0) wNil) (dgT 2 (dgCons (dgN 2) (dgCons (dgN 3) dgNil))) (wIf (wNot (wTv (wCallN 2 (sp_is_entry K) (wCons (wVar 3) (wCons (wVar 1) wNil))))) (wRet (wVar 2)) wNext))
    (wRet (wC .non)))
abbrev Pu_wrong_entry (K : PySem.W.Frag) : Prop := ∀ ds st Kn Kx, ds.length = 2 → sp_wrong_entry K ds st Kn Kx → wb_wrong_entry K (endsD Kn Kx) (startD ["entries", "count", "index", "entry"] ds) st
abbrev wb_check_starts (K : PySem.W.Frag) : WS := (wSeq (wIf (wOr (wNot (wTv (wCB (gIsi K) (wCons (wVar 0) (wCons (wC (.ty "tuple")) wNil))))) (wNot (wTv (wChain gLe gLe (wC (.int 1)) (wCB gLen (wCons (wVar 0) wNil)) (wC (.int 3)))))) (fun _ _ _ => False) wNext)
    (wSeq (wAsg (wCallN 2 (sp_wrong_entry K) (wCons (wVar 0) (wCons (wVar 1) wNil))) (dgN 2))
    (wIf (wTv (wOp gNotN (wVar 2) (wC .non))) (fun _ _ _ => False) wNext)))
abbrev Pu_check_starts (K : PySem.W.Frag) : Prop := ∀ ds st Kn Kx, ds.length = 2 → sp_check_starts K ds st Kn Kx → wb_check_starts K (endsD Kn Kx) (startD ["value", "count", "index"] ds) st
abbrev wb_check_table (K : PySem.W.Frag) : WS := (wSeq (wIf (wOr (wNot (wTv (wCB (gIsi K) (wCons (wVar 0) (wCons (wC (.ty "tuple")) wNil))))) (wTv (wOp gNe (wCB gLen (wCons (wVar 0) wNil)) (wVar 2)))) (fun _ _ _ => False) wNext)
    (wSeq (wAsg (wCallN 2 (sp_wrong_entry K) (wCons (wVar 0) (wCons (wVar 1) wNil))) (dgN 3))
    (wIf (wTv (wOp gNotN (wVar 3) (wC .non))) (fun _ _ _ => False) wNext)))
abbrev Pu_check_table (K : PySem.W.Frag) : Prop := ∀ ds st Kn Kx, ds.length = 3 → sp_check_table K ds st Kn Kx → wb_check_table K (endsD Kn Kx) (startD ["value", "count", "size", "index"] ds) st
abbrev wb_place_in_table (K : PySem.W.Frag) : WS := (wSeq (wPar 3 4 (wCons (wCB gMin2 (wCons (wVar 1) (wCons (wVar 2) wNil))) (wCons (wCB gMax2 (wCons (wVar 1) (wCons (wVar 2) wNil))) wNil)))
    (wRet (wOp gSub (wOp gAdd (wOp gSub (wOp gMul (wVar 3) (wVar 0)) (wOp gFdiv (wOp gMul (wVar 3) (wOp gSub (wVar 3) (wC (.int 1)))) (wC (.int 2)))) (wVar 4)) (wVar 3))))
abbrev Pu_place_in_table (K : PySem.W.Frag) : Prop := ∀ ds st Kn Kx, ds.length = 3 → sp_place_in_table K ds st Kn Kx → wb_place_in_table K (endsD Kn Kx) (startD ["count", "one", "other", "low", "high"] ds) st
abbrev wb_arising (K : PySem.W.Frag) : WS := (wSeq (wAsg (wSortSet (wLc (wVar 1) (tg2 7 8) wYes (wVar 7) [7, 8])) (dgN 3))
    (wSeq (wAsg (wC (.int 0)) (dgN 4))
    (wSeq (wWhile (wTv (wOp gNe (wVar 4) (wCB gLen (wCons (wVar 3) wNil)))) (wSeq (wAsg (wCB gLen (wCons (wVar 3) wNil)) (dgN 4))
    (wForL (wCB gListOf (wCons (wVar 3) wNil)) (dgN 5) (wSeq (wAsg (wLcL (wVar 3) (tg1 9) wYes (wOp gIx (wOp gIx (wVar 2) (wCallN 3 (sp_place_in_table K) (wCons (wVar 0) (wCons (wVar 5) (wCons (wVar 9) wNil))))) (wC (.int 0))) [9]) (dgN 6))
    (wAsg (wSortSet (wOp gAdd (wVar 3) (wVar 6))) (dgN 3))))))
    (wRet (wCB gTupOf (wCons (wVar 3) wNil))))))
abbrev Pu_arising (K : PySem.W.Frag) : Prop := ∀ ds st Kn Kx, ds.length = 3 → sp_arising K ds st Kn Kx → wb_arising K (endsD Kn Kx) (startD ["count", "starts", "table", "found", "before", "one", "fresh", "kind", "gift", "other"] ds) st
abbrev wb_MixtureX_initX (K : PySem.W.Frag) : WS := (wSeq (wIf (wNot (wTv (wCallN 3 (sp_is_between K) (wCons (wVar 1) (wCons (wC (.int 1)) (wCons (wC (.int 8)) wNil)))))) (fun _ _ _ => False) wNext)
    (wSeq (wDrop (wCallN 2 (sp_check_starts K) (wCons (wVar 2) (wCons (wVar 1) wNil))))
    (wSeq (wDrop (wCallN 3 (sp_check_table K) (wCons (wVar 3) (wCons (wVar 1) (wCons (wOp gFdiv (wOp gMul (wVar 1) (wOp gAdd (wVar 1) (wC (.int 1)))) (wC (.int 2))) wNil)))))
    (wSeq (wSetFC (He.ga K "Mixture") "count" (wVar 1) (wVar 0))
    (wSeq (wSetFC (He.ga K "Mixture") "starts" (wVar 2) (wVar 0))
    (wSeq (wSetFC (He.ga K "Mixture") "table" (wVar 3) (wVar 0))
    (wSeq (wSetFC (He.ga K "Mixture") "told" (wTup (wCons (wVar 1) (wCons (wVar 2) (wCons (wVar 3) wNil)))) (wVar 0))
    (wSetFC (He.ga K "Mixture") "kinds" (wCallN 3 (sp_arising K) (wCons (wVar 1) (wCons (wVar 2) (wCons (wVar 3) wNil)))) (wVar 0)))))))))
abbrev Pu_MixtureX_initX (K : PySem.W.Frag) : Prop := ∀ ds st Kn Kx, ds.length = 4 → sp_MixtureX_initX K ds st Kn Kx → wb_MixtureX_initX K (endsD Kn Kx) (startD ["self", "count", "starts", "table"] ds) st
abbrev wb_Mixture_met (K : PySem.W.Frag) : WS := (wRet (wOp gIx (wFldC (He.ga K "Mixture") "table" (wVar 0)) (wCallN 3 (sp_place_in_table K) (wCons (wFldC (He.ga K "Mixture") "count" (wVar 0)) (wCons (wVar 1) (wCons (wVar 2) wNil))))))
abbrev Pu_Mixture_met (K : PySem.W.Frag) : Prop := ∀ ds st Kn Kx, ds.length = 3 → sp_Mixture_met K ds st Kn Kx → wb_Mixture_met K (endsD Kn Kx) (startD ["self", "one", "other"] ds) st
abbrev wb_check_mixture (K : PySem.W.Frag) : WS := (wIf (wNot (wTv (wCB (gIsi K) (wCons (wVar 0) (wCons (wC (.ref (He.ga K "Mixture"))) wNil))))) (fun _ _ _ => False) wNext)
abbrev Pu_check_mixture (K : PySem.W.Frag) : Prop := ∀ ds st Kn Kx, ds.length = 1 → sp_check_mixture K ds st Kn Kx → wb_check_mixture K (endsD Kn Kx) (startD ["value"] ds) st
abbrev wb_is_pair_of_places (K : PySem.W.Frag) : WS := (wSeq (wIf (wOr (wNot (wTv (wCB (gIsi K) (wCons (wVar 0) (wCons (wC (.ty "tuple")) wNil))))) (wTv (wOp gNe (wCB gLen (wCons (wVar 0) wNil)) (wC (.int 2))))) (wRet (wC (.bl false))) wNext)
    (wRet (wAndV (wCallN 3 (sp_is_between K) (wCons (wOp gIx (wVar 0) (wC (.int 0))) (wCons (wC (.int 0)) (wCons (wOp gSub (wVar 1) (wC (.int 1))) wNil)))) (wAndV (wCallN 3 (sp_is_between K) (wCons (wOp gIx (wVar 0) (wC (.int 1))) (wCons (wC (.int 0)) (wCons (wOp gSub (wVar 1) (wC (.int 1))) wNil)))) (wOp gLt (wOp gIx (wVar 0) (wC (.int 0))) (wOp gIx (wVar 0) (wC (.int 1))))))))
abbrev Pu_is_pair_of_places (K : PySem.W.Frag) : Prop := ∀ ds st Kn Kx, ds.length = 2 → sp_is_pair_of_places K ds st Kn Kx → wb_is_pair_of_places K (endsD Kn Kx) (startD ["value", "size"] ds) st
abbrev wb_joined (K : PySem.W.Frag) : WS := (wSeq (wAsg (wMethN (He.ga K "Mixture") "met" 3 (sp_Mixture_met K) (wVar 0) (wCons (wOp gIx (wVar 1) (wVar 2)) (wCons (wOp gIx (wVar 1) (wVar 3)) wNil))) (dgT 2 (dgCons (dgN 4) (dgCons (dgN 5) dgNil))))
    (wRet (wTup (wCons (wOp gAdd (wOp gAdd (wOp gAdd (wSl (wVar 1) wNoPart (wPart (wVar 2))) (wTup (wCons (wVar 4) wNil))) (wSl (wVar 1) (wPart (wOp gAdd (wVar 2) (wC (.int 1)))) (wPart (wVar 3)))) (wSl (wVar 1) (wPart (wOp gAdd (wVar 3) (wC (.int 1)))) wNoPart)) (wCons (wVar 5) wNil)))))
abbrev Pu_joined (K : PySem.W.Frag) : Prop := ∀ ds st Kn Kx, ds.length = 4 → sp_joined K ds st Kn Kx → wb_joined K (endsD Kn Kx) (startD ["mixture", "kinds", "i", "j", "kind", "gift"] ds) st
abbrev wb_PotX_initX (K : PySem.W.Frag) : WS := (wSeq (wDrop (wCallN 1 (sp_check_mixture K) (wCons (wVar 1) wNil)))
    (wSeq (wSetFC (He.ga K "Pot") "mixture" (wVar 1) (wVar 0))
    (wSeq (wSetFC (He.ga K "Pot") "kinds" (wTup wNil) (wVar 0))
    (wSeq (wSetFC (He.ga K "Pot") "given" (wC (.int 0)) (wVar 0))
    (wSeq (wSetFC (He.ga K "Pot") "amounts" (wOp gMulTup (wTup (wCons (wC (.int 0)) wNil)) (wCB gLen (wCons (wFldC (He.ga K "Mixture") "starts" (wVar 1)) wNil))) (wVar 0))
    (wSeq (wSetFC (He.ga K "Pot") "past" (wTup wNil) (wVar 0))
    (wSetFC (He.ga K "Pot") "busy" (wC (.bl false)) (wVar 0))))))))
abbrev Pu_PotX_initX (K : PySem.W.Frag) : Prop := ∀ ds st Kn Kx, ds.length = 2 → sp_PotX_initX K ds st Kn Kx → wb_PotX_initX K (endsD Kn Kx) (startD ["self", "mixture"] ds) st
abbrev wb_Pot_become (K : PySem.W.Frag) : WS := (wSeq (wSetFC (He.ga K "Pot") "past" (wTup (wStar (wFldC (He.ga K "Pot") "past" (wVar 0)) (wCons (wTup (wCons (wFldC (He.ga K "Pot") "kinds" (wVar 0)) (wCons (wFldC (He.ga K "Pot") "given" (wVar 0)) (wCons (wFldC (He.ga K "Pot") "amounts" (wVar 0)) wNil)))) wNil))) (wVar 0))
    (wAsg (wTup (wCons (wVar 1) (wCons (wVar 2) (wCons (wVar 3) wNil)))) (dgT 3 (dgCons (dgFldC (He.ga K "Pot") "kinds" (wVar 0)) (dgCons (dgFldC (He.ga K "Pot") "given" (wVar 0)) (dgCons (dgFldC (He.ga K "Pot") "amounts" (wVar 0)) dgNil))))))
abbrev Pu_Pot_become (K : PySem.W.Frag) : Prop := ∀ ds st Kn Kx, ds.length = 4 → sp_Pot_become K ds st Kn Kx → wb_Pot_become K (endsD Kn Kx) (startD ["self", "kinds", "given", "amounts"] ds) st
abbrev wb_Pot_check_idle (K : PySem.W.Frag) : WS := (wIf (wTru (wFldC (He.ga K "Pot") "busy" (wVar 0))) (wRaise0 (He.ga K "Busy")) wNext)
abbrev Pu_Pot_check_idle (K : PySem.W.Frag) : Prop := ∀ ds st Kn Kx, ds.length = 1 → sp_Pot_check_idle K ds st Kn Kx → wb_Pot_check_idle K (endsD Kn Kx) (startD ["self"] ds) st
abbrev wb_Pot_check_room (K : PySem.W.Frag) : WS := (wIf (wTv (wOp gEq (wCB gLen (wCons (wFldC (He.ga K "Pot") "past" (wVar 0)) wNil)) (wC (.int 60)))) (wRaise (He.ga K "TooMany") "limit" (wCons (wC (.int 60)) wNil)) wNext)
abbrev Pu_Pot_check_room (K : PySem.W.Frag) : Prop := ∀ ds st Kn Kx, ds.length = 1 → sp_Pot_check_room K ds st Kn Kx → wb_Pot_check_room K (endsD Kn Kx) (startD ["self"] ds) st
abbrev wb_Pot_put_in (K : PySem.W.Frag) : WS := (wSeq (wIf (wNot (wTv (wCallN 3 (sp_is_between K) (wCons (wVar 1) (wCons (wC (.int 0)) (wCons (wOp gSub (wCB gLen (wCons (wFldC (He.ga K "Pot") "amounts" (wVar 0)) wNil)) (wC (.int 1))) wNil)))))) (wRaise (He.ga K "InvalidKind") "value" (wCons (wVar 1) wNil)) wNext)
    (wSeq (wDrop (wMethN (He.ga K "Pot") "check_room" 1 (sp_Pot_check_room K) (wVar 0) wNil))
    (wSeq (wAsg (wOp gIx (wFldC (He.ga K "Mixture") "starts" (wFldC (He.ga K "Pot") "mixture" (wVar 0))) (wVar 1)) (dgT 2 (dgCons (dgN 2) (dgCons (dgN 3) dgNil))))
    (wSeq (wAsg (wCB gTupOf (wCons (wLcE (wCons (wFldC (He.ga K "Pot") "amounts" (wVar 0)) wNil) (tg2 5 6) wYes (wOp gAdd (wVar 6) (wCB gInt (wCons (wOp gEq (wVar 5) (wVar 1)) wNil))) [5, 6]) wNil)) (dgN 4))
    (wSeq (wDrop (wMethN (He.ga K "Pot") "become" 4 (sp_Pot_become K) (wVar 0) (wCons (wOp gAdd (wFldC (He.ga K "Pot") "kinds" (wVar 0)) (wTup (wCons (wVar 2) wNil))) (wCons (wOp gAdd (wFldC (He.ga K "Pot") "given" (wVar 0)) (wVar 3)) (wCons (wVar 4) wNil)))))
    (wRet (wVar 3)))))))
abbrev Pu_Pot_put_in (K : PySem.W.Frag) : Prop := ∀ ds st Kn Kx, ds.length = 2 → sp_Pot_put_in K ds st Kn Kx → wb_Pot_put_in K (endsD Kn Kx) (startD ["self", "number", "kind", "gift", "amounts", "place", "amount"] ds) st
abbrev wb_Pot_let_meet (K : PySem.W.Frag) : WS := (wSeq (wIf (wNot (wTv (wCallN 2 (sp_is_pair_of_places K) (wCons (wTup (wCons (wVar 1) (wCons (wVar 2) wNil))) (wCons (wCB gLen (wCons (wFldC (He.ga K "Pot") "kinds" (wVar 0)) wNil)) wNil))))) (wRaise (He.ga K "InvalidOrder") "index" (wCons (wC .non) wNil)) wNext)
    (wSeq (wDrop (wMethN (He.ga K "Pot") "check_room" 1 (sp_Pot_check_room K) (wVar 0) wNil))
    (wSeq (wAsg (wCallN 4 (sp_joined K) (wCons (wFldC (He.ga K "Pot") "mixture" (wVar 0)) (wCons (wFldC (He.ga K "Pot") "kinds" (wVar 0)) (wCons (wVar 1) (wCons (wVar 2) wNil))))) (dgT 2 (dgCons (dgN 3) (dgCons (dgN 4) dgNil))))
    (wSeq (wDrop (wMethN (He.ga K "Pot") "become" 4 (sp_Pot_become K) (wVar 0) (wCons (wVar 3) (wCons (wOp gAdd (wFldC (He.ga K "Pot") "given" (wVar 0)) (wVar 4)) (wCons (wFldC (He.ga K "Pot") "amounts" (wVar 0)) wNil)))))
    (wRet (wVar 4))))))
abbrev Pu_Pot_let_meet (K : PySem.W.Frag) : Prop := ∀ ds st Kn Kx, ds.length = 3 → sp_Pot_let_meet K ds st Kn Kx → wb_Pot_let_meet K (endsD Kn Kx) (startD ["self", "i", "j", "kinds", "gift"] ds) st
abbrev wb_Pot_put (K : PySem.W.Frag) : WS := (wSeq (wDrop (wMethN (He.ga K "Pot") "check_idle" 1 (sp_Pot_check_idle K) (wVar 0) wNil))
    (wRet (wMethN (He.ga K "Pot") "put_in" 2 (sp_Pot_put_in K) (wVar 0) (wCons (wVar 1) wNil))))
abbrev Pu_Pot_put (K : PySem.W.Frag) : Prop := ∀ ds st Kn Kx, ds.length = 2 → sp_Pot_put K ds st Kn Kx → wb_Pot_put K (endsD Kn Kx) (startD ["self", "number"] ds) st
abbrev wb_Pot_meet (K : PySem.W.Frag) : WS := (wSeq (wDrop (wMethN (He.ga K "Pot") "check_idle" 1 (sp_Pot_check_idle K) (wVar 0) wNil))
    (wRet (wMethN (He.ga K "Pot") "let_meet" 3 (sp_Pot_let_meet K) (wVar 0) (wCons (wVar 1) (wCons (wVar 2) wNil)))))
abbrev Pu_Pot_meet (K : PySem.W.Frag) : Prop := ∀ ds st Kn Kx, ds.length = 3 → sp_Pot_meet K ds st Kn Kx → wb_Pot_meet K (endsD Kn Kx) (startD ["self", "i", "j"] ds) st
abbrev wb_Pot_undo (K : PySem.W.Frag) : WS := (wSeq (wDrop (wMethN (He.ga K "Pot") "check_idle" 1 (sp_Pot_check_idle K) (wVar 0) wNil))
    (wSeq (wIf (wTv (wOp gEq (wCB gLen (wCons (wFldC (He.ga K "Pot") "past" (wVar 0)) wNil)) (wC (.int 0)))) (wRaise0 (He.ga K "NothingToUndo")) wNext)
    (wSeq (wAsg (wOp gIx (wFldC (He.ga K "Pot") "past" (wVar 0)) (wUn gNeg (wC (.int 1)))) (dgT 3 (dgCons (dgFldC (He.ga K "Pot") "kinds" (wVar 0)) (dgCons (dgFldC (He.ga K "Pot") "given" (wVar 0)) (dgCons (dgFldC (He.ga K "Pot") "amounts" (wVar 0)) dgNil)))))
    (wSetFC (He.ga K "Pot") "past" (wSl (wFldC (He.ga K "Pot") "past" (wVar 0)) wNoPart (wPart (wUn gNeg (wC (.int 1))))) (wVar 0)))))
abbrev Pu_Pot_undo (K : PySem.W.Frag) : Prop := ∀ ds st Kn Kx, ds.length = 1 → sp_Pot_undo K ds st Kn Kx → wb_Pot_undo K (endsD Kn Kx) (startD ["self"] ds) st
abbrev wb_PotX_lenX (K : PySem.W.Frag) : WS := (wRet (wCB gLen (wCons (wFldC (He.ga K "Pot") "kinds" (wVar 0)) wNil)))
abbrev Pu_PotX_lenX (K : PySem.W.Frag) : Prop := ∀ ds st Kn Kx, ds.length = 1 → sp_PotX_lenX K ds st Kn Kx → wb_PotX_lenX K (endsD Kn Kx) (startD ["self"] ds) st
abbrev wb_PotX_reprX (K : PySem.W.Frag) : WS := (wRet (wFS [(wC (.str ("Pot(" : PySem.Str))), (wFmt (wCB gLen (wCons (wFldC (He.ga K "Pot") "kinds" (wVar 0)) wNil))), (wC (.str (" things, " : PySem.Str))), (wFmt (wFldC (He.ga K "Pot") "given" (wVar 0))), (wC (.str (" given)" : PySem.Str)))]))
abbrev Pu_PotX_reprX (K : PySem.W.Frag) : Prop := ∀ ds st Kn Kx, ds.length = 1 → sp_PotX_reprX K ds st Kn Kx → wb_PotX_reprX K (endsD Kn Kx) (startD ["self"] ds) st
abbrev wb_law_bin (K : PySem.W.Frag) : WS := (wSeq (wAsg (wOp gAdd (wC (.int 662607)) (wOp gMul (wC (.int 20011)) (wVar 1))) (dgN 2))
    (wSeq (wForL (wSl (wVar 0) wNoPart (wPart (wC (.int 8)))) (dgN 3) (wAsg (wOp gMod (wCB gInt (wCons (wOp gAdd (wOp gAdd (wOp gMul (wVar 2) (wC (.int 61417))) (wOp gMul (wCB gInt (wCons (wVar 3) wNil)) (wC (.int 17)))) (wVar 1)) wNil)) (wC (.int 2147483179))) (dgN 2)))
    (wSeq (wAsg (wIfE (wTv (wOp gLt (wVar 1) (wCB gLen (wCons (wVar 0) wNil)))) (wCB gInt (wCons (wOp gIx (wVar 0) (wVar 1)) wNil)) (wVar 2)) (dgN 4))
    (wRet (wLstC (wCons (wIfE (wOr (wTv (wOp gLt (wVar 4) (wC (.int 0)))) (wTv (wOp gGe (wVar 4) (wOp gPow (wC (.int 10)) (wC (.int 18)))))) (wCB (g1I (fun _ => True) fun i => .int (if i < 0 then -i else i)) (wCons (wVar 4) wNil)) (wC (.int 0))) (wCons (wOp gMod (wCB gInt (wCons (wOp gAdd (wVar 2) (wOp gMul (wVar 4) (wC (.int 19)))) wNil)) (wC (.int 2147483179))) (wCons (wC (.int 0)) wNil))))))))
abbrev Pu_law_bin (K : PySem.W.Frag) : Prop := ∀ ds st Kn Kx, ds.length = 2 → sp_law_bin K ds st Kn Kx → wb_law_bin K (endsD Kn Kx) (startD ["script", "turn", "state", "each", "own"] ds) st
abbrev wb_law_nip (K : PySem.W.Frag) : WS := (wSeq (wAsg (wOp gAdd (wOp gIx (wVar 0) (wC (.int 2))) (wC (.int 1))) (dgSub (wVar 0) (wC (.int 2)) gSetL))
    (wSeq (wIf (wTv (wOp gGt (wOp gIx (wVar 0) (wC (.int 0))) (wC (.int 0)))) (wSeq (wAsg (wCB gDivmod (wCons (wOp gIx (wVar 0) (wC (.int 0))) (wCons (wVar 1) wNil))) (dgT 2 (dgCons (dgSub (wVar 0) (wC (.int 0)) gSetL) (dgCons (dgN 2) dgNil))))
    (wRet (wVar 2))) wNext)
    (wSeq (wAsg (wOp gMod (wCB gInt (wCons (wOp gAdd (wOp gAdd (wOp gMul (wOp gIx (wVar 0) (wC (.int 1))) (wC (.int 40013))) (wOp gMul (wC (.int 9161)) (wOp gIx (wVar 0) (wC (.int 2))))) (wC (.int 1))) wNil)) (wC (.int 2147483179))) (dgSub (wVar 0) (wC (.int 1)) gSetL))
    (wRet (wOp gMod (wCB gInt (wCons (wOp gFdiv (wOp gIx (wVar 0) (wC (.int 1))) (wC (.int 256))) wNil)) (wVar 1))))))
abbrev Pu_law_nip (K : PySem.W.Frag) : Prop := ∀ ds st Kn Kx, ds.length = 2 → sp_law_nip K ds st Kn Kx → wb_law_nip K (endsD Kn Kx) (startD ["bin_here", "size", "digit"] ds) st
abbrev wb_law_pick (K : PySem.W.Frag) : WS := (wRet (wOp gIx (wVar 1) (wCallN 2 (sp_law_nip K) (wCons (wVar 0) (wCons (wCB gLen (wCons (wVar 1) wNil)) wNil)))))
abbrev Pu_law_pick (K : PySem.W.Frag) : Prop := ∀ ds st Kn Kx, ds.length = 2 → sp_law_pick K ds st Kn Kx → wb_law_pick K (endsD Kn Kx) (startD ["bin_here", "some"] ds) st
abbrev wb_law_mix (K : PySem.W.Frag) : WS := (wSeq (wPar 2 3 (wCons (wOp gAdd (wC (.int 1)) (wCallN 2 (sp_law_nip K) (wCons (wVar 0) (wCons (wVar 1) wNil)))) (wCons (wCallN 2 (sp_law_pick K) (wCons (wVar 0) (wCons (wLst (wCons (wC (.int 1)) (wCons (wC (.int 5)) (wCons (wOp gPow (wC (.int 10)) (wC (.int 6))) wNil)))) wNil))) wNil)))
    (wSeq (wPar 4 5 (wCons (wLstC wNil) (wCons (wLstC wNil) wNil)))
    (wSeq (wForR1 (wCons (wOp gAdd (wC (.int 1)) (wCallN 2 (sp_law_nip K) (wCons (wVar 0) (wCons (wC (.int 3)) wNil)))) wNil) (dgN 6) (wSeq (wAsg (wCallN 2 (sp_law_pick K) (wCons (wVar 0) (wCons (wLst (wCons (wC (.int 0)) (wCons (wC (.int 0)) (wCons (wCallN 2 (sp_law_nip K) (wCons (wVar 0) (wCons (wOp gAdd (wVar 3) (wC (.int 1))) wNil))) (wCons (wVar 3) wNil))))) wNil))) (dgN 7))
    (wDrop (wApp (wVar 4) (wCons (wTup (wCons (wCallN 2 (sp_law_nip K) (wCons (wVar 0) (wCons (wVar 2) wNil))) (wCons (wVar 7) wNil))) wNil)))))
    (wSeq (wForR1 (wCons (wOp gFdiv (wOp gMul (wVar 2) (wOp gAdd (wVar 2) (wC (.int 1)))) (wC (.int 2))) wNil) (dgN 6) (wSeq (wAsg (wCallN 2 (sp_law_pick K) (wCons (wVar 0) (wCons (wLst (wCons (wC (.int 0)) (wCons (wC (.int 1)) (wCons (wCallN 2 (sp_law_nip K) (wCons (wVar 0) (wCons (wOp gAdd (wVar 3) (wC (.int 1))) wNil))) (wCons (wVar 3) wNil))))) wNil))) (dgN 7))
    (wDrop (wApp (wVar 5) (wCons (wTup (wCons (wCallN 2 (sp_law_nip K) (wCons (wVar 0) (wCons (wVar 2) wNil))) (wCons (wVar 7) wNil))) wNil)))))
    (wRet (wTup (wCons (wVar 2) (wCons (wCB gTupOf (wCons (wVar 4) wNil)) (wCons (wCB gTupOf (wCons (wVar 5) wNil)) wNil)))))))))
abbrev Pu_law_mix (K : PySem.W.Frag) : Prop := ∀ ds st Kn Kx, ds.length = 2 → sp_law_mix K ds st Kn Kx → wb_law_mix K (endsD Kn Kx) (startD ["bin_here", "most", "count_here", "top", "starts_here", "table_here", "turn", "gift"] ds) st
abbrev wb_law_made (K : PySem.W.Frag) : WS := (wRet (wMakeN (He.ga K "Mixture") 4 (sp_MixtureX_initX K) (wCons (wOp gIx (wVar 0) (wC (.int 0))) (wCons (wOp gIx (wVar 0) (wC (.int 1))) (wCons (wOp gIx (wVar 0) (wC (.int 2))) wNil)))))
abbrev Pu_law_made (K : PySem.W.Frag) : Prop := ∀ ds st Kn Kx, ds.length = 1 → sp_law_made K ds st Kn Kx → wb_law_made K (endsD Kn Kx) (startD ["mix"] ds) st
abbrev wb_law_entries (K : PySem.W.Frag) : WS := (wSeq (wPar 1 2 (wCons wDNew (wCons (wC (.int 0)) wNil)))
    (wSeq (wForR1 (wCons (wOp gIx (wVar 0) (wC (.int 0))) wNil) (dgN 3) (wForR2 (wCons (wVar 3) (wCons (wOp gIx (wVar 0) (wC (.int 0))) wNil)) (dgN 4) (wSeq (wDPut (wVar 1) (wTup (wCons (wVar 3) (wCons (wVar 4) wNil))) (wOp gIx (wOp gIx (wVar 0) (wC (.int 2))) (wVar 2)))
    (wSeq (wDPut (wVar 1) (wTup (wCons (wVar 4) (wCons (wVar 3) wNil))) (wOp gIx (wOp gIx (wVar 0) (wC (.int 2))) (wVar 2)))
    (wAsg (wOp gAdd (wVar 2) (wC (.int 1))) (dgN 2))))))
    (wRet (wVar 1))))
abbrev Pu_law_entries (K : PySem.W.Frag) : Prop := ∀ ds st Kn Kx, ds.length = 1 → sp_law_entries K ds st Kn Kx → wb_law_entries K (endsD Kn Kx) (startD ["mix", "found", "at", "a", "b"] ds) st
abbrev wb_law_is_in (K : PySem.W.Frag) : WS := (wRet (wAndV (wCB (gIsi K) (wCons (wVar 0) (wCons (wC (.ty "int")) wNil))) (wAndV (wNotV (wCB (gIsi K) (wCons (wVar 0) (wCons (wC (.ty "bool")) wNil)))) (wChain gLe gLe (wVar 1) (wVar 0) (wVar 2)))))
abbrev Pu_law_is_in (K : PySem.W.Frag) : Prop := ∀ ds st Kn Kx, ds.length = 3 → sp_law_is_in K ds st Kn Kx → wb_law_is_in K (endsD Kn Kx) (startD ["thing", "least", "top"] ds) st
abbrev wb_law_after (K : PySem.W.Frag) : WS := (wSeq (wAsg (wOp gIx (wVar 1) (wUn gNeg (wC (.int 1)))) (dgT 3 (dgCons (dgN 3) (dgCons (dgN 4) (dgCons (dgN 5) dgNil)))))
    (wSeq (wIf (wTv (wOp gEq (wOp gIx (wVar 2) (wC (.int 0))) (wC (.str ("undo" : PySem.Str))))) (wRet (wIfE (wTv (wOp gGt (wCB gLen (wCons (wVar 1) wNil)) (wC (.int 1)))) (wTup (wCons (wTup (wCons (wC (.str ("gave" : PySem.Str))) (wCons (wC .non) wNil))) (wCons (wSl (wVar 1) wNoPart (wPart (wUn gNeg (wC (.int 1))))) wNil))) (wTup (wCons (wTup (wCons (wC (.str ("nothing" : PySem.Str))) (wCons (wC (.str ("" : PySem.Str))) wNil))) (wCons (wVar 1) wNil))))) wNext)
    (wSeq (wIf (wTv (wOp gEq (wOp gIx (wVar 2) (wC (.int 0))) (wC (.str ("put" : PySem.Str))))) (wSeq (wIf (wNot (wTv (wCallN 3 (sp_law_is_in K) (wCons (wOp gIx (wVar 2) (wC (.int 1))) (wCons (wC (.int 0)) (wCons (wOp gSub (wCB gLen (wCons (wOp gIx (wVar 0) (wC (.int 1))) wNil)) (wC (.int 1))) wNil)))))) (wRet (wTup (wCons (wTup (wCons (wC (.str ("kind" : PySem.Str))) (wCons (wOp gIx (wVar 2) (wC (.int 1))) wNil))) (wCons (wVar 1) wNil)))) wNext)
    (wSeq (wAsg (wOp gIx (wOp gIx (wVar 0) (wC (.int 1))) (wOp gIx (wVar 2) (wC (.int 1)))) (dgT 2 (dgCons (dgN 6) (dgCons (dgN 7) dgNil))))
    (wSeq (wAsg (wOp gIx (wVar 2) (wC (.int 1))) (dgN 8))
    (wSeq (wAsg (wOp gAdd (wOp gAdd (wSl (wVar 5) wNoPart (wPart (wVar 8))) (wTup (wCons (wOp gAdd (wOp gIx (wVar 5) (wVar 8)) (wC (.int 1))) wNil))) (wSl (wVar 5) (wPart (wOp gAdd (wVar 8) (wC (.int 1)))) wNoPart)) (dgN 5))
    (wAsg (wTup (wCons (wOp gAdd (wVar 3) (wTup (wCons (wVar 6) wNil))) (wCons (wOp gAdd (wVar 4) (wVar 7)) (wCons (wVar 5) wNil)))) (dgN 9)))))) (wSeq (wPar 10 11 (wCons (wOp gIx (wVar 2) (wC (.int 1))) (wCons (wOp gIx (wVar 2) (wC (.int 2))) wNil)))
    (wSeq (wIf (wOr (wNot (wTv (wCallN 3 (sp_law_is_in K) (wCons (wVar 10) (wCons (wC (.int 0)) (wCons (wOp gSub (wCB gLen (wCons (wVar 3) wNil)) (wC (.int 1))) wNil)))))) (wNot (wTv (wCallN 3 (sp_law_is_in K) (wCons (wVar 11) (wCons (wOp gAdd (wVar 10) (wC (.int 1))) (wCons (wOp gSub (wCB gLen (wCons (wVar 3) wNil)) (wC (.int 1))) wNil))))))) (wRet (wTup (wCons (wTup (wCons (wC (.str ("order" : PySem.Str))) (wCons (wC .non) wNil))) (wCons (wVar 1) wNil)))) wNext)
    (wSeq (wAsg (wDGet (wCallN 1 (sp_law_entries K) (wCons (wVar 0) wNil)) (wTup (wCons (wOp gIx (wVar 3) (wVar 10)) (wCons (wOp gIx (wVar 3) (wVar 11)) wNil)))) (dgT 2 (dgCons (dgN 6) (dgCons (dgN 7) dgNil))))
    (wSeq (wAsg (wOp gAdd (wOp gAdd (wOp gAdd (wSl (wVar 3) wNoPart (wPart (wVar 10))) (wTup (wCons (wVar 6) wNil))) (wSl (wVar 3) (wPart (wOp gAdd (wVar 10) (wC (.int 1)))) (wPart (wVar 11)))) (wSl (wVar 3) (wPart (wOp gAdd (wVar 11) (wC (.int 1)))) wNoPart)) (dgN 12))
    (wAsg (wTup (wCons (wVar 12) (wCons (wOp gAdd (wVar 4) (wVar 7)) (wCons (wVar 5) wNil)))) (dgN 9)))))))
    (wSeq (wIf (wTv (wOp gGt (wCB gLen (wCons (wVar 1) wNil)) (wC (.int 60)))) (wRet (wTup (wCons (wTup (wCons (wC (.str ("many" : PySem.Str))) (wCons (wC (.int 60)) wNil))) (wCons (wVar 1) wNil)))) wNext)
    (wRet (wTup (wCons (wTup (wCons (wC (.str ("gave" : PySem.Str))) (wCons (wVar 7) wNil))) (wCons (wOp gAdd (wVar 1) (wLst (wCons (wVar 9) wNil))) wNil))))))))
abbrev Pu_law_after (K : PySem.W.Frag) : Prop := ∀ ds st Kn Kx, ds.length = 3 → sp_law_after K ds st Kn Kx → wb_law_after K (endsD Kn Kx) (startD ["mix", "states", "deed", "kinds_here", "given_here", "amounts_here", "kind", "gift", "at", "fresh", "a", "b", "left"] ds) st
abbrev wb_law_begun (K : PySem.W.Frag) : WS := (wRet (wLst (wCons (wTup (wCons (wTup wNil) (wCons (wC (.int 0)) (wCons (wOp gMulTup (wTup (wCons (wC (.int 0)) wNil)) (wCB gLen (wCons (wOp gIx (wVar 0) (wC (.int 1))) wNil))) wNil)))) wNil)))
abbrev Pu_law_begun (K : PySem.W.Frag) : Prop := ∀ ds st Kn Kx, ds.length = 1 → sp_law_begun K ds st Kn Kx → wb_law_begun K (endsD Kn Kx) (startD ["mix"] ds) st
abbrev wb_law_shows (K : PySem.W.Frag) : WS := (wSeq (wAsg (wOp gIx (wVar 1) (wUn gNeg (wC (.int 1)))) (dgT 3 (dgCons (dgN 2) (dgCons (dgN 3) (dgCons (dgN 4) dgNil)))))
    (wSeq (wAsg (wLst (wCons (wFldC (He.ga K "Pot") "kinds" (wVar 0)) (wCons (wFldC (He.ga K "Pot") "given" (wVar 0)) (wCons (wFldC (He.ga K "Pot") "amounts" (wVar 0)) (wCons (wLenO (He.ga K "Pot") (sp_PotX_lenX K) (wCons (wVar 0) wNil)) (wCons (wBoolO (He.ga K "Pot") (sp_PotX_lenX K) (wCons (wVar 0) wNil)) (wCons (wReprO (He.ga K "Pot") (sp_PotX_reprX K) (wCons (wVar 0) wNil)) wNil))))))) (dgN 5))
    (wSeq (wAsg (wOp gAdd (wOp gAdd (wOp gAdd (wOp gAdd (wC (.str ("Pot(" : PySem.Str))) (wCB (g1I (fun i => i.natAbs.log2 < 1920) fun i => .str (toString i)) (wCons (wCB gLen (wCons (wVar 2) wNil)) wNil))) (wC (.str (" things, " : PySem.Str)))) (wCB (g1I (fun i => i.natAbs.log2 < 1920) fun i => .str (toString i)) (wCons (wVar 3) wNil))) (wC (.str (" given)" : PySem.Str)))) (dgN 6))
    (wSeq (wAsg (wLst (wCons (wVar 2) (wCons (wVar 3) (wCons (wVar 4) (wCons (wCB gLen (wCons (wVar 2) wNil)) (wCons (wOp gNe (wVar 2) (wTup wNil)) (wCons (wVar 6) wNil))))))) (dgN 7))
    (wRet (wAndV (wOp gEq (wCB gRepr (wCons (wVar 5) wNil)) (wCB gRepr (wCons (wVar 7) wNil))) (wOp (gIsB false) (wFldC (He.ga K "Pot") "busy" (wVar 0)) (wC (.bl false)))))))))
abbrev Pu_law_shows (K : PySem.W.Frag) : Prop := ∀ ds st Kn Kx, ds.length = 2 → sp_law_shows K ds st Kn Kx → wb_law_shows K (endsD Kn Kx) (startD ["pot_here", "states", "kinds_here", "given_here", "amounts_here", "told", "spelled", "due"] ds) st
abbrev wb_law_do (K : PySem.W.Frag) : WS := (wSeq (wIf (wTv (wOp gEq (wOp gIx (wVar 1) (wC (.int 0))) (wC (.str ("undo" : PySem.Str))))) (wRet (wMethN (He.ga K "Pot") "undo" 1 (sp_Pot_undo K) (wVar 0) wNil)) wNext)
    (wRet (wIfE (wTv (wOp gEq (wOp gIx (wVar 1) (wC (.int 0))) (wC (.str ("put" : PySem.Str))))) (wMethN (He.ga K "Pot") "put" 2 (sp_Pot_put K) (wVar 0) (wCons (wOp gIx (wVar 1) (wC (.int 1))) wNil)) (wMethN (He.ga K "Pot") "meet" 3 (sp_Pot_meet K) (wVar 0) (wCons (wOp gIx (wVar 1) (wC (.int 1))) (wCons (wOp gIx (wVar 1) (wC (.int 2))) wNil))))))
abbrev Pu_law_do (K : PySem.W.Frag) : Prop := ∀ ds st Kn Kx, ds.length = 2 → sp_law_do K ds st Kn Kx → wb_law_do K (endsD Kn Kx) (startD ["pot_here", "deed"] ds) st
abbrev wb_law_alike (K : PySem.W.Frag) : WS := (wRet (wOp gEq (wCB gRepr (wCons (wVar 0) wNil)) (wCB gRepr (wCons (wVar 1) wNil))))
abbrev Pu_law_alike (K : PySem.W.Frag) : Prop := ∀ ds st Kn Kx, ds.length = 2 → sp_law_alike K ds st Kn Kx → wb_law_alike K (endsD Kn Kx) (startD ["told", "due"] ds) st
abbrev wb_law_sort (K : PySem.W.Frag) (a C : Addr) (d : Option Addr) : WS := (wSeq (wAsg (wLst (wCons (wCB (gIsiE K a C d) (wCons (wVar 0) (wCons (wC (.ref (He.ga K "NotAMixture"))) wNil))) (wCons (wCB (gIsiE K a C d) (wCons (wVar 0) (wCons (wC (.ref (He.ga K "NotAPattern"))) wNil))) (wCons (wCB (gIsiE K a C d) (wCons (wVar 0) (wCons (wC (.ref (He.ga K "NotAPot"))) wNil))) (wCons (wCB (gIsiE K a C d) (wCons (wVar 0) (wCons (wC (.ref (He.ga K "InvalidKind"))) wNil))) wNil))))) (dgN 1))
    (wSeq (wAsg (wOp gAdd (wVar 1) (wLst (wCons (wCB (gIsiE K a C d) (wCons (wVar 0) (wCons (wC (.ref (He.ga K "InvalidLine"))) wNil))) (wCons (wCB (gIsiE K a C d) (wCons (wVar 0) (wCons (wC (.ref (He.ga K "InvalidOrder"))) wNil))) (wCons (wCB (gIsiE K a C d) (wCons (wVar 0) (wCons (wC (.ref (He.ga K "InvalidDeeds"))) wNil))) wNil))))) (dgN 1))
    (wSeq (wAsg (wOp gAdd (wVar 1) (wLst (wCons (wCB (gIsiE K a C d) (wCons (wVar 0) (wCons (wC (.ref (He.ga K "NothingToUndo"))) wNil))) (wCons (wCB (gIsiE K a C d) (wCons (wVar 0) (wCons (wC (.ref (He.ga K "Busy"))) wNil))) (wCons (wCB (gIsiE K a C d) (wCons (wVar 0) (wCons (wC (.ref (He.ga K "TooMany"))) wNil))) wNil))))) (dgN 1))
    (wSeq (wAsg (wLst (wCons (wCB (gIsiE K a C d) (wCons (wVar 0) (wCons (wC (.ref (He.ga K "InputError"))) wNil))) (wCons (wCB (gIsiE K a C d) (wCons (wVar 0) (wCons (wC (.ref (He.ga K "StateError"))) wNil))) (wCons (wCB (gIsiE K a C d) (wCons (wVar 0) (wCons (wC (.ref (He.ga K "SizeError"))) wNil))) wNil)))) (dgN 2))
    (wSeq (wAsg (wLst (wCons (wCB (gIsiE K a C d) (wCons (wVar 0) (wCons (wC (.ty "ValueError")) wNil))) (wCons (wCB (gIsiE K a C d) (wCons (wVar 0) (wCons (wC (.ty "LookupError")) wNil))) (wCons (wCB (gIsiE K a C d) (wCons (wVar 0) (wCons (wC (.ty "ArithmeticError")) wNil))) wNil)))) (dgN 3))
    (wSeq (wAsg (wIfE (wTv (wOp gEq (wBMl gCount (wVar 1) (wCons (wC (.bl true)) wNil)) (wC (.int 1)))) (wBMl gIndex (wVar 1) (wCons (wC (.bl true)) wNil)) (wC (.int 10))) (dgN 4))
    (wSeq (wIf (wOr (wTv (wOp gNe (wVar 2) (wVar 3))) (wTv (wOp gNe (wVar 2) (wLst (wCons (wOp gLt (wVar 4) (wC (.int 7))) (wCons (wChain gLt gLt (wC (.int 6)) (wVar 4) (wC (.int 9))) (wCons (wOp gEq (wVar 4) (wC (.int 9))) wNil))))))) (wRet (wTup (wCons (wC (.str ("odd" : PySem.Str))) (wCons (wC (.str ("" : PySem.Str))) wNil)))) wNext)
    (wSeq (wAsg (wLst (wCons (wC (.str ("mixture" : PySem.Str))) (wCons (wC (.str ("pattern" : PySem.Str))) (wCons (wC (.str ("pot" : PySem.Str))) (wCons (wC (.str ("kind" : PySem.Str))) (wCons (wC (.str ("line" : PySem.Str))) (wCons (wC (.str ("order" : PySem.Str))) (wCons (wC (.str ("deeds" : PySem.Str))) (wCons (wC (.str ("nothing" : PySem.Str))) (wCons (wC (.str ("busy" : PySem.Str))) (wCons (wC (.str ("many" : PySem.Str))) wNil))))))))))) (dgN 5))
    (wSeq (wIf (wTv (wOp (gIn false) (wVar 4) (wLst (wCons (wC (.int 7)) (wCons (wC (.int 8)) wNil))))) (wRet (wTup (wCons (wOp gIx (wVar 5) (wVar 4)) (wCons (wC (.str ("" : PySem.Str))) wNil)))) wNext)
    (wSeq (wIf (wTv (wOp gEq (wVar 4) (wC (.int 9)))) (wRet (wTup (wCons (wC (.str ("many" : PySem.Str))) (wCons (wByE K a C d "limit" (wVar 0)) wNil)))) wNext)
    (wRet (wTup (wCons (wOp gIx (wVar 5) (wVar 4)) (wCons (wIfE (wTv (wOp gLt (wVar 4) (wC (.int 5)))) (wByE K a C d "value" (wVar 0)) (wByE K a C d "index" (wVar 0))) wNil))))))))))))))
abbrev Pu_law_sort (K : PySem.W.Frag) : Prop := ∀ a C d ds st Kn Kx, ds.length = 1 → sp_law_sort K a C d ds st Kn Kx → wb_law_sort K a C d { nx := fun _ st => Kn .non st, rt := Kn, ex := fun _ _ _ => False } (startD ["e", "own", "bases", "kin", "at", "words"] ds) st
abbrev wb_law_caught (K : PySem.W.Frag) (Φ : Clo) : WS := (wSeq (wTryT K [.ref (He.ga K "InputError"), .ref (He.ga K "StateError"), .ref (He.ga K "SizeError")] 2 (wAsg (wCallV Φ 0 wNil) (dgN 1)) (fun a C d => (wRet (wCallE K a C d (sp_law_sort K) 1 (wCons (wVar 2) wNil)))))
    (wRet (wTup (wCons (wC (.str ("gave" : PySem.Str))) (wCons (wVar 1) wNil)))))
abbrev Pu_law_caught (K : PySem.W.Frag) : Prop := ∀ Φ ds st Kn Kx, ds.length = 1 → sp_law_caught K Φ ds st Kn Kx → wb_law_caught K Φ (endsD Kn Kx) (startD ["act_here", "back", "e"] ds) st
abbrev wb_law_deed (K : PySem.W.Frag) : WS := (wSeq (wPar 3 4 (wCons (wCB gLen (wCons (wOp gIx (wOp gIx (wVar 2) (wUn gNeg (wC (.int 1)))) (wC (.int 0))) wNil)) (wCons (wCallN 2 (sp_law_nip K) (wCons (wVar 0) (wCons (wC (.int 9)) wNil))) wNil)))
    (wSeq (wIf (wOr (wTv (wOp gLt (wVar 4) (wC (.int 4)))) (wAnd (wTv (wOp gLt (wVar 3) (wC (.int 2)))) (wTv (wOp gLt (wVar 4) (wC (.int 8)))))) (wRet (wTup (wCons (wC (.str ("put" : PySem.Str))) (wCons (wCallN 2 (sp_law_nip K) (wCons (wVar 0) (wCons (wOp gAdd (wCB gLen (wCons (wOp gIx (wVar 1) (wC (.int 1))) wNil)) (wCB gInt (wCons (wOp gEq (wCallN 2 (sp_law_nip K) (wCons (wVar 0) (wCons (wC (.int 9)) wNil))) (wC (.int 0))) wNil))) wNil))) wNil)))) wNext)
    (wSeq (wIf (wTv (wOp gLt (wVar 4) (wC (.int 8)))) (wSeq (wAsg (wCallN 2 (sp_law_nip K) (wCons (wVar 0) (wCons (wOp gSub (wVar 3) (wC (.int 1))) wNil))) (dgN 5))
    (wSeq (wAsg (wOp gAdd (wOp gAdd (wVar 5) (wC (.int 1))) (wCallN 2 (sp_law_nip K) (wCons (wVar 0) (wCons (wOp gSub (wOp gSub (wVar 3) (wC (.int 1))) (wVar 5)) wNil)))) (dgN 6))
    (wRet (wIfE (wTv (wOp gGt (wCallN 2 (sp_law_nip K) (wCons (wVar 0) (wCons (wC (.int 9)) wNil))) (wC (.int 0)))) (wTup (wCons (wC (.str ("meet" : PySem.Str))) (wCons (wVar 5) (wCons (wVar 6) wNil)))) (wTup (wCons (wC (.str ("meet" : PySem.Str))) (wCons (wVar 6) (wCons (wVar 5) wNil)))))))) wNext)
    (wRet (wTup (wCons (wC (.str ("undo" : PySem.Str))) wNil))))))
abbrev Pu_law_deed (K : PySem.W.Frag) : Prop := ∀ ds st Kn Kx, ds.length = 3 → sp_law_deed K ds st Kn Kx → wb_law_deed K (endsD Kn Kx) (startD ["bin_here", "mix", "states", "size", "way", "a", "b"] ds) st
abbrev wb_law_right (K : PySem.W.Frag) : WS := (wSeq (wAsg (wCallN 2 (sp_law_mix K) (wCons (wVar 0) (wCons (wC (.int 8)) wNil))) (dgN 1))
    (wSeq (wAsg (wTup (wCons (wMakeN (He.ga K "Pot") 2 (sp_PotX_initX K) (wCons (wCallN 1 (sp_law_made K) (wCons (wVar 1) wNil)) wNil)) (wCons (wCallN 1 (sp_law_begun K) (wCons (wVar 1) wNil)) wNil))) (dgT 2 (dgCons (dgN 6) (dgCons (dgN 2) dgNil))))
    (wSeq (wForR1 (wCons (wC (.int 40)) wNil) (dgN 3) (wSeq (wAsg (wCallN 3 (sp_law_deed K) (wCons (wVar 0) (wCons (wVar 1) (wCons (wVar 2) wNil)))) (dgN 5))
    (wSeq (wAsg (wCallN 3 (sp_law_after K) (wCons (wVar 1) (wCons (wVar 2) (wCons (wVar 5) wNil)))) (dgT 2 (dgCons (dgN 4) (dgCons (dgN 2) dgNil))))
    (wIf (wOr (wNot (wTv (wCallN 2 (sp_law_alike K) (wCons (wCallLam Clo.none 0 ["pot_here", "deed"] [6, 5] (wCallN 2 (sp_law_do K) (wCons (wVar 0) (wCons (wVar 1) wNil))) (sp_law_caught K)) (wCons (wVar 4) wNil))))) (wNot (wTv (wCallN 2 (sp_law_shows K) (wCons (wVar 6) (wCons (wVar 2) wNil)))))) (wRet (wC (.bl false))) wNext))))
    (wRet (wC (.bl true))))))
abbrev Pu_law_right (K : PySem.W.Frag) : Prop := ∀ ds st Kn Kx, ds.length = 1 → sp_law_right K ds st Kn Kx → wb_law_right K (endsD Kn Kx) (startD ["bin_here", "mix", "states", "turn", "due", "deed", "pot_here"] ds) st
abbrev wb_law (K : PySem.W.Frag) : WS := (wRet (wCB (gAll fun bs => bs.all id) (wCons (wLcR1 (wCons (wCB gMax2 (wCons (wC (.int 2)) (wCons (wCB gMin2 (wCons (wCB gLen (wCons (wVar 0) wNil)) (wCons (wC (.int 6)) wNil))) wNil))) wNil) (tg1 1) wYes (wCallN 1 (sp_law_right K) (wCons (wCallN 2 (sp_law_bin K) (wCons (wVar 0) (wCons (wVar 1) wNil))) wNil)) [1]) wNil)))
abbrev Pu_law (K : PySem.W.Frag) : Prop := ∀ ds st Kn Kx, ds.length = 1 → sp_law K ds st Kn Kx → wb_law K (endsD Kn Kx) (startD ["script", "turn"] ds) st
end GV

namespace GV
open PySem PySem.Spec PyProof.Rows L2 DL
variable [Tb]
section
variable {st : Sto} {Kn : KD} {Kb : Bool → Sto → Prop} {i j : Int} {x y : Str} {xs ys : List D} {b : Bool} {lo hi : Option Int}
theorem sAdd1 : gAdd (.int i) (.int j) st Kn ↔ Kn (.int (i + j)) st := Iff.rfl
theorem sAdd2 : gAdd (.str x) (.str y) st Kn ↔ x.length + y.length ≤ sizeLine ∧ Kn (.str (x ++ y)) st := Iff.rfl
theorem sAdd3 : gAdd (.lst xs) (.lst ys) st Kn ↔ xs.length + ys.length ≤ sizeLine ∧ Kn (.lst (xs ++ ys)) st := Iff.rfl
theorem sAdd4 : gAdd (.tup xs) (.tup ys) st Kn ↔ xs.length + ys.length ≤ sizeLine ∧ Kn (.tup (xs ++ ys)) st := Iff.rfl
theorem sMul1 : gMul (.int i) (.int j) st Kn ↔ CMul i j ∧ Kn (.int (i * j)) st := Iff.rfl
theorem sMulT : gMulTup (.tup xs) (.int j) st Kn ↔ (xs ≠ [] ∧ xs.length ≤ 1000 ∧ 1 ≤ j ∧ j ≤ 1000) ∧ Kn (.tup (List.replicate j.toNat xs).flatten) st := Iff.rfl
theorem sLen1 : gLen [.lst xs] st Kn ↔ Kn (.int xs.length) st := Iff.rfl
theorem sLen2 : gLen [.tup xs] st Kn ↔ Kn (.int xs.length) st := Iff.rfl
theorem sLen3 {ns : List Int} : gLen [.scr ns] st Kn ↔ Kn (.int ns.length) st := by
  show Kn (.int ((ns.map D.int).length : Nat)) st ↔ _
  rw [List.length_map]
theorem sInt1 : gInt [.int i] st Kn ↔ Kn (.int i) st := Iff.rfl
theorem sInt2 : gInt [.bl b] st Kn ↔ Kn (.int (if b then 1 else 0)) st := Iff.rfl
theorem sTup1 : gTupOf [.lst xs] st Kn ↔ Kn (.tup xs) st := Iff.rfl
theorem sTup2 : gTupOf [.tup xs] st Kn ↔ Kn (.tup xs) st := Iff.rfl
theorem sLst1 : gListOf [.lst xs] st Kn ↔ Kn (.lst xs) st := Iff.rfl
theorem sLst2 : gListOf [.tup xs] st Kn ↔ Kn (.lst xs) st := Iff.rfl
theorem sSl1 : gSl (.lst xs) lo hi st Kn ↔ Kn (.lst (DL.cutD xs lo hi)) st := Iff.rfl
theorem sSl2 : gSl (.tup xs) lo hi st Kn ↔ Kn (.tup (DL.cutD xs lo hi)) st := Iff.rfl
theorem sSl3 {ns : List Int} : gSl (.scr ns) lo hi st Kn ↔ Kn (.lst (DL.cutD (ns.map D.int) lo hi)) st := Iff.rfl
theorem sTru1 : gTru (.bl b) st Kb ↔ Kb b st := Iff.rfl
theorem sTru2 : gTru (.int i) st Kb ↔ Kb (i != 0) st := Iff.rfl
theorem sTru3 : gTru (.tup xs) st Kb ↔ Kb (!xs.isEmpty) st := Iff.rfl
theorem sDvm : gDivmod [.int i, .int j] st Kn ↔ CDiv i j ∧ Kn (.tup [.int (i / j), .int (i % j)]) st := Iff.rfl
end
theorem ex_some {α : Type} {x : α} {P : α → Prop} : (∃ v, some x = some v ∧ P v) ↔ P x := ⟨fun ⟨_, e, h⟩ => by cases e; exact h, fun h => ⟨x, rfl, h⟩⟩
theorem fldOf_ins {C : Addr} {f : Str} {a : Addr} {st : Sto} {fs : List (Str × D)} (l : st.lookup a = some (.ins C fs)) : fldOf C f (.ref a) st = fs.lookup f := by
  show (match st.lookup a with
    | some (.ins C' fs) => if C' = C then fs.lookup f else none
    | _ => none) = _
  rw [l]
  exact if_pos rfl
theorem shaped_str {x : Str} (h : PyData.strOk x = true) : SeqAt.shaped (.str x) = true := by unfold SeqAt.shaped; simp [PyData.canLay0, PyData.depth, h]
theorem eq_str {x y : Str} {st : Sto} {Kn : KD} : gEq (.str x) (.str y) st Kn ↔ Kn (.bl (x == y)) st := Iff.rfl
theorem ne_str {x y : Str} {st : Sto} {Kn : KD} : gNe (.str x) (.str y) st Kn ↔ Kn (.bl (!(x == y))) st := Iff.rfl
theorem sTru4 {st : Sto} {Kb : Bool → Sto → Prop} : gTru .non st Kb ↔ Kb false st := Iff.rfl
theorem kit_self {K : PySem.W.Frag} (T : String) : PySem.W.kitOne K (.type T) (.type T) = some true := by
  unfold PySem.W.kitOne; rw [if_pos (by simp)]
theorem kit_ref {K : PySem.W.Frag} (a : Addr) : PySem.W.kitOne K (.ref a) (.ref a) = some true := by
  unfold PySem.W.kitOne; rw [if_pos (by simp)]
theorem kit_int_bool {K : PySem.W.Frag} : PySem.W.kitOne K (.type "int") (.type "bool") = some false := by rfl
theorem isi_int {K : PySem.W.Frag} {i : Int} {st : Sto} {Kn : KD} (h : Kn (.bl true) st) : gIsi K [.int i, .ty "int"] st Kn := ⟨_, _, true, rfl, rfl, kit_self _, h⟩
theorem isi_intbl {K : PySem.W.Frag} {i : Int} {st : Sto} {Kn : KD} (h : Kn (.bl false) st) : gIsi K [.int i, .ty "bool"] st Kn := ⟨_, _, false, rfl, rfl, kit_int_bool, h⟩
theorem isi_tup {K : PySem.W.Frag} {ds : List D} {st : Sto} {Kn : KD} (h : Kn (.bl true) st) : gIsi K [.tup ds, .ty "tuple"] st Kn := ⟨_, _, true, rfl, rfl, kit_self _, h⟩
theorem isi_mix {K : PySem.W.Frag} (T : TP K) {a : Addr} {fs : List (Str × D)} {st : Sto} {Kn : KD} (l : st.lookup a = some (.ins (cM K) fs)) (h : Kn (.bl true) st) : gIsi K [.ref a, .ref (cM K)] st Kn := by
  refine ⟨.ref (cM K), .ref (cM K), true, ?_, rfl, kit_ref _, h⟩
  show (match st.lookup a with
    | some (.lst _) => _
    | some (.dT _ _) => _
    | some (.dK _ _) => _
    | some (.ins C _) => _
    | none => _)
  rw [l]
  exact ⟨rfl, T.inM⟩
theorem okV_int (i : Int) (h : i.natAbs < 10 ^ 12) : okV (.int i) := by
  refine ⟨.int i, rfl, ?_, ?_, rfl, by simp [PyData.depth], by simp [PyData.bulk], shaped_int i⟩
  · have := PyData.shown_int_le h
    simp only [PyData.leavesShort, decide_eq_true_eq]
    exact Nat.le_trans this (by decide)
  · simp only [PyData.showable, decide_eq_true_eq]
    by_cases z : i.natAbs = 0
    · rw [z]; decide
    · have h2 : i.natAbs < 2 ^ 1920 := Nat.lt_trans h (by decide +kernel)
      exact (Nat.log2_lt z).mpr h2
def isIB : D → Bool
  | .int _ => true
  | .bl _ => true
  | _ => false
def isBl : D → Bool
  | .bl _ => true
  | _ => false
theorem isi_V {K : PySem.W.Frag} {v : D} {st : Sto} {Kn : KD} (ok : okV v) : (Kn (.bl (isIB v)) st → gIsi K [v, .ty "int"] st Kn) ∧ (Kn (.bl (isBl v)) st → gIsi K [v, .ty "bool"] st Kn) := by
  obtain ⟨p, e, _⟩ := ok
  cases v with
  | non => exact ⟨fun h => ⟨_, _, false, rfl, rfl, by rfl, h⟩, fun h => ⟨_, _, false, rfl, rfl, by rfl, h⟩⟩
  | bl b => exact ⟨fun h => ⟨_, _, true, rfl, rfl, by rfl, h⟩, fun h => ⟨_, _, true, rfl, rfl, kit_self _, h⟩⟩
  | int i => exact ⟨fun h => ⟨_, _, true, rfl, rfl, kit_self _, h⟩, fun h => ⟨_, _, false, rfl, rfl, by rfl, h⟩⟩
  | str x => exact ⟨fun h => ⟨_, _, false, rfl, rfl, by rfl, h⟩, fun h => ⟨_, _, false, rfl, rfl, by rfl, h⟩⟩
  | tup ds => exact ⟨fun h => ⟨_, _, false, rfl, rfl, by rfl, h⟩, fun h => ⟨_, _, false, rfl, rfl, by rfl, h⟩⟩
  | lst ds => exact ⟨fun h => ⟨_, _, false, rfl, rfl, by rfl, h⟩, fun h => ⟨_, _, false, rfl, rfl, by rfl, h⟩⟩
  | ty n => simp only [D.py] at e; cases e
  | ref a => simp only [D.py] at e; cases e
  | emp => simp only [D.py] at e; cases e
  | exc a C dd ks ds => simp only [D.py] at e; cases e
theorem between_wb {K : PySem.W.Frag} {DD : DEnds} {v : D} {lo hi : Int} {st : Sto} (ok : okV v) (h : DD.rt (.bl (inB v lo hi)) st) : wb_is_between K DD [some v, some (.int lo), some (.int hi)] st := by
  simp only [startD, endsD, wRet, wRetN, wAndV, wOrV, wNotV, wCB, wCons, wNil, wVar, wC, wChain, wOp, wUn, wIf, wIfE, wTv, wTru, wNot, wAnd, wOr, wSeq, wNext, wAsg, wDrop, dgN, dgT, dgCons, dgNil, dgSub, dgFldC, wPar, wTup, wLst, wLstC, wFldC, wSetFC, wMeth, wMake, wCall, wSl, wNoPart, wPart, wStar, wLenO, wTruO, wReprO, wBoolO, wCallN, wMakeN, wMethN, wFmt, wFS, wJs, wDNew, wDGet, wDPut, wBMl, wCallV, wCallE, gI20, gI2, gNeg, g1I, g2I, gNotN, gIsN, gIsB, D.isNon, sAdd1, sAdd2, sAdd3, sAdd4, sMul1, sMulT, sLen1, sLen2, sLen3, sInt1, sInt2, sTup1, sTup2, sLst1, sLst2, sSl1, sSl2, sSl3, sTru1, sTru2, sTru3, sTru4, sDvm, List.map, List.length_cons, List.length_nil, List.replicate, List.cons_append, List.nil_append, List.append_nil, List.getElem?_cons_zero, List.getElem?_cons_succ, List.set_cons_zero, List.set_cons_succ, DL.eq_int, DL.ne_int, eq_str, ne_str, Bool.not_true, Bool.not_false, decide_true, decide_false, true_and, and_true, if_true, if_false, Bool.false_eq_true, ex_some]
  refine (isi_V ok).1 ?_
  have no : ∀ {w : D}, isIB w = false → inB w lo hi = false := fun {w} e => by cases w <;> first | rfl | cases e
  cases e : isIB v with
  | false =>
    rw [no e] at h
    simp only [startD, endsD, wRet, wRetN, wAndV, wOrV, wNotV, wCB, wCons, wNil, wVar, wC, wChain, wOp, wUn, wIf, wIfE, wTv, wTru, wNot, wAnd, wOr, wSeq, wNext, wAsg, wDrop, dgN, dgT, dgCons, dgNil, dgSub, dgFldC, wPar, wTup, wLst, wLstC, wFldC, wSetFC, wMeth, wMake, wCall, wSl, wNoPart, wPart, wStar, wLenO, wTruO, wReprO, wBoolO, wCallN, wMakeN, wMethN, wFmt, wFS, wJs, wDNew, wDGet, wDPut, wBMl, wCallV, wCallE, gI20, gI2, gNeg, g1I, g2I, gNotN, gIsN, gIsB, D.isNon, sAdd1, sAdd2, sAdd3, sAdd4, sMul1, sMulT, sLen1, sLen2, sLen3, sInt1, sInt2, sTup1, sTup2, sLst1, sLst2, sSl1, sSl2, sSl3, sTru1, sTru2, sTru3, sTru4, sDvm, List.map, List.length_cons, List.length_nil, List.replicate, List.cons_append, List.nil_append, List.append_nil, List.getElem?_cons_zero, List.getElem?_cons_succ, List.set_cons_zero, List.set_cons_succ, DL.eq_int, DL.ne_int, eq_str, ne_str, Bool.not_true, Bool.not_false, decide_true, decide_false, true_and, and_true, if_true, if_false, Bool.false_eq_true, ex_some]
    exact h
  | true =>
    simp only [startD, endsD, wRet, wRetN, wAndV, wOrV, wNotV, wCB, wCons, wNil, wVar, wC, wChain, wOp, wUn, wIf, wIfE, wTv, wTru, wNot, wAnd, wOr, wSeq, wNext, wAsg, wDrop, dgN, dgT, dgCons, dgNil, dgSub, dgFldC, wPar, wTup, wLst, wLstC, wFldC, wSetFC, wMeth, wMake, wCall, wSl, wNoPart, wPart, wStar, wLenO, wTruO, wReprO, wBoolO, wCallN, wMakeN, wMethN, wFmt, wFS, wJs, wDNew, wDGet, wDPut, wBMl, wCallV, wCallE, gI20, gI2, gNeg, g1I, g2I, gNotN, gIsN, gIsB, D.isNon, sAdd1, sAdd2, sAdd3, sAdd4, sMul1, sMulT, sLen1, sLen2, sLen3, sInt1, sInt2, sTup1, sTup2, sLst1, sLst2, sSl1, sSl2, sSl3, sTru1, sTru2, sTru3, sTru4, sDvm, List.map, List.length_cons, List.length_nil, List.replicate, List.cons_append, List.nil_append, List.append_nil, List.getElem?_cons_zero, List.getElem?_cons_succ, List.set_cons_zero, List.set_cons_succ, DL.eq_int, DL.ne_int, eq_str, ne_str, Bool.not_true, Bool.not_false, decide_true, decide_false, true_and, and_true, if_true, if_false, Bool.false_eq_true, ex_some]
    refine (isi_V ok).2 ?_
    cases v with
    | bl b =>
      simp only [isBl]
      simp only [startD, endsD, wRet, wRetN, wAndV, wOrV, wNotV, wCB, wCons, wNil, wVar, wC, wChain, wOp, wUn, wIf, wIfE, wTv, wTru, wNot, wAnd, wOr, wSeq, wNext, wAsg, wDrop, dgN, dgT, dgCons, dgNil, dgSub, dgFldC, wPar, wTup, wLst, wLstC, wFldC, wSetFC, wMeth, wMake, wCall, wSl, wNoPart, wPart, wStar, wLenO, wTruO, wReprO, wBoolO, wCallN, wMakeN, wMethN, wFmt, wFS, wJs, wDNew, wDGet, wDPut, wBMl, wCallV, wCallE, gI20, gI2, gNeg, g1I, g2I, gNotN, gIsN, gIsB, D.isNon, sAdd1, sAdd2, sAdd3, sAdd4, sMul1, sMulT, sLen1, sLen2, sLen3, sInt1, sInt2, sTup1, sTup2, sLst1, sLst2, sSl1, sSl2, sSl3, sTru1, sTru2, sTru3, sTru4, sDvm, List.map, List.length_cons, List.length_nil, List.replicate, List.cons_append, List.nil_append, List.append_nil, List.getElem?_cons_zero, List.getElem?_cons_succ, List.set_cons_zero, List.set_cons_succ, DL.eq_int, DL.ne_int, eq_str, ne_str, Bool.not_true, Bool.not_false, decide_true, decide_false, true_and, and_true, if_true, if_false, Bool.false_eq_true, ex_some]
      exact h
    | int i =>
      simp only [isBl]
      simp only [startD, endsD, wRet, wRetN, wAndV, wOrV, wNotV, wCB, wCons, wNil, wVar, wC, wChain, wOp, wUn, wIf, wIfE, wTv, wTru, wNot, wAnd, wOr, wSeq, wNext, wAsg, wDrop, dgN, dgT, dgCons, dgNil, dgSub, dgFldC, wPar, wTup, wLst, wLstC, wFldC, wSetFC, wMeth, wMake, wCall, wSl, wNoPart, wPart, wStar, wLenO, wTruO, wReprO, wBoolO, wCallN, wMakeN, wMethN, wFmt, wFS, wJs, wDNew, wDGet, wDPut, wBMl, wCallV, wCallE, gI20, gI2, gNeg, g1I, g2I, gNotN, gIsN, gIsB, D.isNon, sAdd1, sAdd2, sAdd3, sAdd4, sMul1, sMulT, sLen1, sLen2, sLen3, sInt1, sInt2, sTup1, sTup2, sLst1, sLst2, sSl1, sSl2, sSl3, sTru1, sTru2, sTru3, sTru4, sDvm, List.map, List.length_cons, List.length_nil, List.replicate, List.cons_append, List.nil_append, List.append_nil, List.getElem?_cons_zero, List.getElem?_cons_succ, List.set_cons_zero, List.set_cons_succ, DL.eq_int, DL.ne_int, eq_str, ne_str, Bool.not_true, Bool.not_false, decide_true, decide_false, true_and, and_true, if_true, if_false, Bool.false_eq_true, ex_some]
      simp only [inB] at h
      by_cases h1 : lo ≤ i
      · rw [decide_eq_true h1]
        by_cases h2 : i ≤ hi
        · rw [decide_eq_true (⟨h1, h2⟩ : lo ≤ i ∧ i ≤ hi)] at h
          rw [decide_eq_true h2]; exact h
        · rw [decide_eq_false (fun z : lo ≤ i ∧ i ≤ hi => h2 z.2)] at h
          rw [decide_eq_false h2]; exact h
      · rw [decide_eq_false (fun z : lo ≤ i ∧ i ≤ hi => h1 z.1)] at h
        rw [decide_eq_false h1]; exact h
    | _ => cases e
theorem pure_is_between {K : PySem.W.Frag} (T : TP K) : Pu_is_between K := by
  rintro ds st Kn Kx - ⟨v, lo, hi, rfl, ok, h⟩
  exact between_wb ok h
theorem atI_nat {α : Type} {xs : List α} {i : Int} {a : α} (h0 : 0 ≤ i) (h : xs[i.toNat]? = some a) : L2.atI xs i = some a := by
  unfold L2.atI
  have hl : i.toNat < xs.length := (List.getElem?_eq_some_iff.mp h).1
  have e : L2.ixN xs.length i = some i.toNat := by
    unfold L2.ixN
    rw [if_pos h0, if_pos (by omega)]
  rw [e]; exact h
theorem ix_tup {ds : List D} {i : Int} {d : D} {st : Sto} {Kn : KD} (h0 : 0 ≤ i) (h : ds[i.toNat]? = some d) (k : Kn d st) : gIx (.tup ds) (.int i) st Kn := by
  show (match L2.atI ds i with
    | some d => Kn d st
    | none => False)
  rw [atI_nat h0 h]; exact k
theorem btw {K : PySem.W.Frag} {v lo hi : Int} {st : Sto} {Kn : KD} {Kx : KX} (h1 : lo ≤ v) (h2 : v ≤ hi) (k : Kn (.bl true) st) (hz : v.natAbs < 10 ^ 12 := by omega) : sp_is_between K [.int v, .int lo, .int hi] st Kn Kx :=
  ⟨.int v, lo, hi, rfl, okV_int v hz, by simp only [inB]; rw [decide_eq_true (⟨h1, h2⟩ : lo ≤ v ∧ v ≤ hi)]; exact k⟩
theorem pure_is_entry {K : PySem.W.Frag} (T : TP K) : Pu_is_entry K := by
  rintro ds st Kn Kx - ⟨⟨k, g⟩, c, rfl, ⟨⟨h1, h2, h3, h4⟩, hc⟩, h⟩
  dsimp only at h1 h2 h3 h4
  simp only [startD, endsD, wRet, wRetN, wAndV, wOrV, wNotV, wCB, wCons, wNil, wVar, wC, wChain, wOp, wUn, wIf, wIfE, wTv, wTru, wNot, wAnd, wOr, wSeq, wNext, wAsg, wDrop, dgN, dgT, dgCons, dgNil, dgSub, dgFldC, wPar, wTup, wLst, wLstC, wFldC, wSetFC, wMeth, wMake, wCall, wSl, wNoPart, wPart, wStar, wLenO, wTruO, wReprO, wBoolO, wCallN, wMakeN, wMethN, wFmt, wFS, wJs, wDNew, wDGet, wDPut, wBMl, wCallV, wCallE, gI20, gI2, gNeg, g1I, g2I, gNotN, gIsN, gIsB, D.isNon, sAdd1, sAdd2, sAdd3, sAdd4, sMul1, sMulT, sLen1, sLen2, sLen3, sInt1, sInt2, sTup1, sTup2, sLst1, sLst2, sSl1, sSl2, sSl3, sTru1, sTru2, sTru3, sTru4, sDvm, List.map, List.length_cons, List.length_nil, List.replicate, List.cons_append, List.nil_append, List.append_nil, List.getElem?_cons_zero, List.getElem?_cons_succ, List.set_cons_zero, List.set_cons_succ, DL.eq_int, DL.ne_int, eq_str, ne_str, Bool.not_true, Bool.not_false, decide_true, decide_false, true_and, and_true, if_true, if_false, Bool.false_eq_true, ex_some]
  refine isi_tup ?_
  simp only [startD, endsD, wRet, wRetN, wAndV, wOrV, wNotV, wCB, wCons, wNil, wVar, wC, wChain, wOp, wUn, wIf, wIfE, wTv, wTru, wNot, wAnd, wOr, wSeq, wNext, wAsg, wDrop, dgN, dgT, dgCons, dgNil, dgSub, dgFldC, wPar, wTup, wLst, wLstC, wFldC, wSetFC, wMeth, wMake, wCall, wSl, wNoPart, wPart, wStar, wLenO, wTruO, wReprO, wBoolO, wCallN, wMakeN, wMethN, wFmt, wFS, wJs, wDNew, wDGet, wDPut, wBMl, wCallV, wCallE, gI20, gI2, gNeg, g1I, g2I, gNotN, gIsN, gIsB, D.isNon, sAdd1, sAdd2, sAdd3, sAdd4, sMul1, sMulT, sLen1, sLen2, sLen3, sInt1, sInt2, sTup1, sTup2, sLst1, sLst2, sSl1, sSl2, sSl3, sTru1, sTru2, sTru3, sTru4, sDvm, List.map, List.length_cons, List.length_nil, List.replicate, List.cons_append, List.nil_append, List.append_nil, List.getElem?_cons_zero, List.getElem?_cons_succ, List.set_cons_zero, List.set_cons_succ, DL.eq_int, DL.ne_int, eq_str, ne_str, Bool.not_true, Bool.not_false, decide_true, decide_false, true_and, and_true, if_true, if_false, Bool.false_eq_true, ex_some]
  unfold pD
  simp only [startD, endsD, wRet, wRetN, wAndV, wOrV, wNotV, wCB, wCons, wNil, wVar, wC, wChain, wOp, wUn, wIf, wIfE, wTv, wTru, wNot, wAnd, wOr, wSeq, wNext, wAsg, wDrop, dgN, dgT, dgCons, dgNil, dgSub, dgFldC, wPar, wTup, wLst, wLstC, wFldC, wSetFC, wMeth, wMake, wCall, wSl, wNoPart, wPart, wStar, wLenO, wTruO, wReprO, wBoolO, wCallN, wMakeN, wMethN, wFmt, wFS, wJs, wDNew, wDGet, wDPut, wBMl, wCallV, wCallE, gI20, gI2, gNeg, g1I, g2I, gNotN, gIsN, gIsB, D.isNon, sAdd1, sAdd2, sAdd3, sAdd4, sMul1, sMulT, sLen1, sLen2, sLen3, sInt1, sInt2, sTup1, sTup2, sLst1, sLst2, sSl1, sSl2, sSl3, sTru1, sTru2, sTru3, sTru4, sDvm, List.map, List.length_cons, List.length_nil, List.replicate, List.cons_append, List.nil_append, List.append_nil, List.getElem?_cons_zero, List.getElem?_cons_succ, List.set_cons_zero, List.set_cons_succ, DL.eq_int, DL.ne_int, eq_str, ne_str, Bool.not_true, Bool.not_false, decide_true, decide_false, true_and, and_true, if_true, if_false, Bool.false_eq_true, ex_some]
  rw [show (!((((0 + 1 + 1 : Nat) : Int)) == 2)) = false by decide]
  simp only [startD, endsD, wRet, wRetN, wAndV, wOrV, wNotV, wCB, wCons, wNil, wVar, wC, wChain, wOp, wUn, wIf, wIfE, wTv, wTru, wNot, wAnd, wOr, wSeq, wNext, wAsg, wDrop, dgN, dgT, dgCons, dgNil, dgSub, dgFldC, wPar, wTup, wLst, wLstC, wFldC, wSetFC, wMeth, wMake, wCall, wSl, wNoPart, wPart, wStar, wLenO, wTruO, wReprO, wBoolO, wCallN, wMakeN, wMethN, wFmt, wFS, wJs, wDNew, wDGet, wDPut, wBMl, wCallV, wCallE, gI20, gI2, gNeg, g1I, g2I, gNotN, gIsN, gIsB, D.isNon, sAdd1, sAdd2, sAdd3, sAdd4, sMul1, sMulT, sLen1, sLen2, sLen3, sInt1, sInt2, sTup1, sTup2, sLst1, sLst2, sSl1, sSl2, sSl3, sTru1, sTru2, sTru3, sTru4, sDvm, List.map, List.length_cons, List.length_nil, List.replicate, List.cons_append, List.nil_append, List.append_nil, List.getElem?_cons_zero, List.getElem?_cons_succ, List.set_cons_zero, List.set_cons_succ, DL.eq_int, DL.ne_int, eq_str, ne_str, Bool.not_true, Bool.not_false, decide_true, decide_false, true_and, and_true, if_true, if_false, Bool.false_eq_true, ex_some]
  refine ix_tup (by decide) rfl (btw h1 (by omega) ?_)
  simp only [startD, endsD, wRet, wRetN, wAndV, wOrV, wNotV, wCB, wCons, wNil, wVar, wC, wChain, wOp, wUn, wIf, wIfE, wTv, wTru, wNot, wAnd, wOr, wSeq, wNext, wAsg, wDrop, dgN, dgT, dgCons, dgNil, dgSub, dgFldC, wPar, wTup, wLst, wLstC, wFldC, wSetFC, wMeth, wMake, wCall, wSl, wNoPart, wPart, wStar, wLenO, wTruO, wReprO, wBoolO, wCallN, wMakeN, wMethN, wFmt, wFS, wJs, wDNew, wDGet, wDPut, wBMl, wCallV, wCallE, gI20, gI2, gNeg, g1I, g2I, gNotN, gIsN, gIsB, D.isNon, sAdd1, sAdd2, sAdd3, sAdd4, sMul1, sMulT, sLen1, sLen2, sLen3, sInt1, sInt2, sTup1, sTup2, sLst1, sLst2, sSl1, sSl2, sSl3, sTru1, sTru2, sTru3, sTru4, sDvm, List.map, List.length_cons, List.length_nil, List.replicate, List.cons_append, List.nil_append, List.append_nil, List.getElem?_cons_zero, List.getElem?_cons_succ, List.set_cons_zero, List.set_cons_succ, DL.eq_int, DL.ne_int, eq_str, ne_str, Bool.not_true, Bool.not_false, decide_true, decide_false, true_and, and_true, if_true, if_false, Bool.false_eq_true, ex_some]
  exact ix_tup (by decide) rfl (btw h3 h4 h)
theorem mem_pD {l : List (Int × Int)} {d : D} (h : d ∈ l.map pD) : ∃ p, p ∈ l ∧ d = pD p := by
  obtain ⟨p, hp, e⟩ := List.mem_map.mp h
  exact ⟨p, hp, e.symm⟩
theorem loop_entry {K : PySem.W.Frag} {c : Int} {DD : DEnds} {b : WS} (hb : b = (wIf (wNot (wTv (wCallN 2 (sp_is_entry K) (wCons (wVar 3) (wCons (wVar 1) wNil))))) (wRet (wVar 2)) wNext)) : ∀ (l : List (Int × Int)) (k : Nat) (e0 : Option D) (i x : Option D) (st : Sto), ((∀ p ∈ l, okE c p) ∧ c ≤ 100) →
    (∀ i' x', DD.nx [e0, some (.int c), i', x'] st) → forL (dgT 2 (dgCons (dgN 2) (dgCons (dgN 3) dgNil))) b DD (enumD k (l.map pD)) [e0, some (.int c), i, x] st
  | [], _, e0, i, x, st, _, h => h i x
  | p :: l, k, e0, i, x, st, ho, h => by
    subst hb
    rw [List.map_cons]
    unfold enumD forL
    simp only [startD, endsD, wRet, wRetN, wAndV, wOrV, wNotV, wCB, wCons, wNil, wVar, wC, wChain, wOp, wUn, wIf, wIfE, wTv, wTru, wNot, wAnd, wOr, wSeq, wNext, wAsg, wDrop, dgN, dgT, dgCons, dgNil, dgSub, dgFldC, wPar, wTup, wLst, wLstC, wFldC, wSetFC, wMeth, wMake, wCall, wSl, wNoPart, wPart, wStar, wLenO, wTruO, wReprO, wBoolO, wCallN, wMakeN, wMethN, wFmt, wFS, wJs, wDNew, wDGet, wDPut, wBMl, wCallV, wCallE, gI20, gI2, gNeg, g1I, g2I, gNotN, gIsN, gIsB, D.isNon, sAdd1, sAdd2, sAdd3, sAdd4, sMul1, sMulT, sLen1, sLen2, sLen3, sInt1, sInt2, sTup1, sTup2, sLst1, sLst2, sSl1, sSl2, sSl3, sTru1, sTru2, sTru3, sTru4, sDvm, List.map, List.length_cons, List.length_nil, List.replicate, List.cons_append, List.nil_append, List.append_nil, List.getElem?_cons_zero, List.getElem?_cons_succ, List.set_cons_zero, List.set_cons_succ, DL.eq_int, DL.ne_int, eq_str, ne_str, Bool.not_true, Bool.not_false, decide_true, decide_false, true_and, and_true, if_true, if_false, Bool.false_eq_true, ex_some]
    refine ⟨p, c, rfl, ⟨ho.1 p List.mem_cons_self, ho.2⟩, ?_⟩
    exact loop_entry rfl l (k + 1) e0 _ _ st ⟨fun q hq => ho.1 q (List.mem_cons_of_mem _ hq), ho.2⟩ h
theorem pure_wrong_entry {K : PySem.W.Frag} (T : TP K) : Pu_wrong_entry K := by
  rintro ds st Kn Kx - ⟨l, c, rfl, ho, h⟩
  simp only [startD, endsD, wRet, wRetN, wAndV, wOrV, wNotV, wCB, wCons, wNil, wVar, wC, wChain, wOp, wUn, wIf, wIfE, wTv, wTru, wNot, wAnd, wOr, wSeq, wNext, wAsg, wDrop, dgN, dgT, dgCons, dgNil, dgSub, dgFldC, wPar, wTup, wLst, wLstC, wFldC, wSetFC, wMeth, wMake, wCall, wSl, wNoPart, wPart, wStar, wLenO, wTruO, wReprO, wBoolO, wCallN, wMakeN, wMethN, wFmt, wFS, wJs, wDNew, wDGet, wDPut, wBMl, wCallV, wCallE, gI20, gI2, gNeg, g1I, g2I, gNotN, gIsN, gIsB, D.isNon, sAdd1, sAdd2, sAdd3, sAdd4, sMul1, sMulT, sLen1, sLen2, sLen3, sInt1, sInt2, sTup1, sTup2, sLst1, sLst2, sSl1, sSl2, sSl3, sTru1, sTru2, sTru3, sTru4, sDvm, List.map, List.length_cons, List.length_nil, List.replicate, List.cons_append, List.nil_append, List.append_nil, List.getElem?_cons_zero, List.getElem?_cons_succ, List.set_cons_zero, List.set_cons_succ, DL.eq_int, DL.ne_int, eq_str, ne_str, Bool.not_true, Bool.not_false, decide_true, decide_false, true_and, and_true, if_true, if_false, Bool.false_eq_true, ex_some]
  simp only [wForE, enumOf]
  simp only [startD, endsD, wRet, wRetN, wAndV, wOrV, wNotV, wCB, wCons, wNil, wVar, wC, wChain, wOp, wUn, wIf, wIfE, wTv, wTru, wNot, wAnd, wOr, wSeq, wNext, wAsg, wDrop, dgN, dgT, dgCons, dgNil, dgSub, dgFldC, wPar, wTup, wLst, wLstC, wFldC, wSetFC, wMeth, wMake, wCall, wSl, wNoPart, wPart, wStar, wLenO, wTruO, wReprO, wBoolO, wCallN, wMakeN, wMethN, wFmt, wFS, wJs, wDNew, wDGet, wDPut, wBMl, wCallV, wCallE, gI20, gI2, gNeg, g1I, g2I, gNotN, gIsN, gIsB, D.isNon, sAdd1, sAdd2, sAdd3, sAdd4, sMul1, sMulT, sLen1, sLen2, sLen3, sInt1, sInt2, sTup1, sTup2, sLst1, sLst2, sSl1, sSl2, sSl3, sTru1, sTru2, sTru3, sTru4, sDvm, List.map, List.length_cons, List.length_nil, List.replicate, List.cons_append, List.nil_append, List.append_nil, List.getElem?_cons_zero, List.getElem?_cons_succ, List.set_cons_zero, List.set_cons_succ, DL.eq_int, DL.ne_int, eq_str, ne_str, Bool.not_true, Bool.not_false, decide_true, decide_false, true_and, and_true, if_true, if_false, Bool.false_eq_true, ex_some]
  exact loop_entry rfl l 0 _ _ _ st ho fun i' x' => by
    simp only [startD, endsD, wRet, wRetN, wAndV, wOrV, wNotV, wCB, wCons, wNil, wVar, wC, wChain, wOp, wUn, wIf, wIfE, wTv, wTru, wNot, wAnd, wOr, wSeq, wNext, wAsg, wDrop, dgN, dgT, dgCons, dgNil, dgSub, dgFldC, wPar, wTup, wLst, wLstC, wFldC, wSetFC, wMeth, wMake, wCall, wSl, wNoPart, wPart, wStar, wLenO, wTruO, wReprO, wBoolO, wCallN, wMakeN, wMethN, wFmt, wFS, wJs, wDNew, wDGet, wDPut, wBMl, wCallV, wCallE, gI20, gI2, gNeg, g1I, g2I, gNotN, gIsN, gIsB, D.isNon, sAdd1, sAdd2, sAdd3, sAdd4, sMul1, sMulT, sLen1, sLen2, sLen3, sInt1, sInt2, sTup1, sTup2, sLst1, sLst2, sSl1, sSl2, sSl3, sTru1, sTru2, sTru3, sTru4, sDvm, List.map, List.length_cons, List.length_nil, List.replicate, List.cons_append, List.nil_append, List.append_nil, List.getElem?_cons_zero, List.getElem?_cons_succ, List.set_cons_zero, List.set_cons_succ, DL.eq_int, DL.ne_int, eq_str, ne_str, Bool.not_true, Bool.not_false, decide_true, decide_false, true_and, and_true, if_true, if_false, Bool.false_eq_true, ex_some]
    exact h
theorem pure_check_starts {K : PySem.W.Frag} (T : TP K) : Pu_check_starts K := by
  rintro ds st Kn Kx - ⟨l, c, rfl, ⟨h1, h2⟩, ho, h⟩
  simp only [startD, endsD, wRet, wRetN, wAndV, wOrV, wNotV, wCB, wCons, wNil, wVar, wC, wChain, wOp, wUn, wIf, wIfE, wTv, wTru, wNot, wAnd, wOr, wSeq, wNext, wAsg, wDrop, dgN, dgT, dgCons, dgNil, dgSub, dgFldC, wPar, wTup, wLst, wLstC, wFldC, wSetFC, wMeth, wMake, wCall, wSl, wNoPart, wPart, wStar, wLenO, wTruO, wReprO, wBoolO, wCallN, wMakeN, wMethN, wFmt, wFS, wJs, wDNew, wDGet, wDPut, wBMl, wCallV, wCallE, gI20, gI2, gNeg, g1I, g2I, gNotN, gIsN, gIsB, D.isNon, sAdd1, sAdd2, sAdd3, sAdd4, sMul1, sMulT, sLen1, sLen2, sLen3, sInt1, sInt2, sTup1, sTup2, sLst1, sLst2, sSl1, sSl2, sSl3, sTru1, sTru2, sTru3, sTru4, sDvm, List.map, List.length_cons, List.length_nil, List.replicate, List.cons_append, List.nil_append, List.append_nil, List.getElem?_cons_zero, List.getElem?_cons_succ, List.set_cons_zero, List.set_cons_succ, DL.eq_int, DL.ne_int, eq_str, ne_str, Bool.not_true, Bool.not_false, decide_true, decide_false, true_and, and_true, if_true, if_false, Bool.false_eq_true, ex_some]
  refine isi_tup ?_
  simp only [startD, endsD, wRet, wRetN, wAndV, wOrV, wNotV, wCB, wCons, wNil, wVar, wC, wChain, wOp, wUn, wIf, wIfE, wTv, wTru, wNot, wAnd, wOr, wSeq, wNext, wAsg, wDrop, dgN, dgT, dgCons, dgNil, dgSub, dgFldC, wPar, wTup, wLst, wLstC, wFldC, wSetFC, wMeth, wMake, wCall, wSl, wNoPart, wPart, wStar, wLenO, wTruO, wReprO, wBoolO, wCallN, wMakeN, wMethN, wFmt, wFS, wJs, wDNew, wDGet, wDPut, wBMl, wCallV, wCallE, gI20, gI2, gNeg, g1I, g2I, gNotN, gIsN, gIsB, D.isNon, sAdd1, sAdd2, sAdd3, sAdd4, sMul1, sMulT, sLen1, sLen2, sLen3, sInt1, sInt2, sTup1, sTup2, sLst1, sLst2, sSl1, sSl2, sSl3, sTru1, sTru2, sTru3, sTru4, sDvm, List.map, List.length_cons, List.length_nil, List.replicate, List.cons_append, List.nil_append, List.append_nil, List.getElem?_cons_zero, List.getElem?_cons_succ, List.set_cons_zero, List.set_cons_succ, DL.eq_int, DL.ne_int, eq_str, ne_str, Bool.not_true, Bool.not_false, decide_true, decide_false, true_and, and_true, if_true, if_false, Bool.false_eq_true, ex_some]
  rw [List.length_map, decide_eq_true (show (1 : Int) ≤ (l.length : Int) by omega), decide_eq_true (show (l.length : Int) ≤ 3 by omega)]
  simp only [startD, endsD, wRet, wRetN, wAndV, wOrV, wNotV, wCB, wCons, wNil, wVar, wC, wChain, wOp, wUn, wIf, wIfE, wTv, wTru, wNot, wAnd, wOr, wSeq, wNext, wAsg, wDrop, dgN, dgT, dgCons, dgNil, dgSub, dgFldC, wPar, wTup, wLst, wLstC, wFldC, wSetFC, wMeth, wMake, wCall, wSl, wNoPart, wPart, wStar, wLenO, wTruO, wReprO, wBoolO, wCallN, wMakeN, wMethN, wFmt, wFS, wJs, wDNew, wDGet, wDPut, wBMl, wCallV, wCallE, gI20, gI2, gNeg, g1I, g2I, gNotN, gIsN, gIsB, D.isNon, sAdd1, sAdd2, sAdd3, sAdd4, sMul1, sMulT, sLen1, sLen2, sLen3, sInt1, sInt2, sTup1, sTup2, sLst1, sLst2, sSl1, sSl2, sSl3, sTru1, sTru2, sTru3, sTru4, sDvm, List.map, List.length_cons, List.length_nil, List.replicate, List.cons_append, List.nil_append, List.append_nil, List.getElem?_cons_zero, List.getElem?_cons_succ, List.set_cons_zero, List.set_cons_succ, DL.eq_int, DL.ne_int, eq_str, ne_str, Bool.not_true, Bool.not_false, decide_true, decide_false, true_and, and_true, if_true, if_false, Bool.false_eq_true, ex_some]
  refine ⟨l, c, rfl, ho, ?_⟩
  simp only [startD, endsD, wRet, wRetN, wAndV, wOrV, wNotV, wCB, wCons, wNil, wVar, wC, wChain, wOp, wUn, wIf, wIfE, wTv, wTru, wNot, wAnd, wOr, wSeq, wNext, wAsg, wDrop, dgN, dgT, dgCons, dgNil, dgSub, dgFldC, wPar, wTup, wLst, wLstC, wFldC, wSetFC, wMeth, wMake, wCall, wSl, wNoPart, wPart, wStar, wLenO, wTruO, wReprO, wBoolO, wCallN, wMakeN, wMethN, wFmt, wFS, wJs, wDNew, wDGet, wDPut, wBMl, wCallV, wCallE, gI20, gI2, gNeg, g1I, g2I, gNotN, gIsN, gIsB, D.isNon, sAdd1, sAdd2, sAdd3, sAdd4, sMul1, sMulT, sLen1, sLen2, sLen3, sInt1, sInt2, sTup1, sTup2, sLst1, sLst2, sSl1, sSl2, sSl3, sTru1, sTru2, sTru3, sTru4, sDvm, List.map, List.length_cons, List.length_nil, List.replicate, List.cons_append, List.nil_append, List.append_nil, List.getElem?_cons_zero, List.getElem?_cons_succ, List.set_cons_zero, List.set_cons_succ, DL.eq_int, DL.ne_int, eq_str, ne_str, Bool.not_true, Bool.not_false, decide_true, decide_false, true_and, and_true, if_true, if_false, Bool.false_eq_true, ex_some]
  exact h
theorem pure_check_table {K : PySem.W.Frag} (T : TP K) : Pu_check_table K := by
  rintro ds st Kn Kx - ⟨l, c, rfl, ho, h⟩
  simp only [startD, endsD, wRet, wRetN, wAndV, wOrV, wNotV, wCB, wCons, wNil, wVar, wC, wChain, wOp, wUn, wIf, wIfE, wTv, wTru, wNot, wAnd, wOr, wSeq, wNext, wAsg, wDrop, dgN, dgT, dgCons, dgNil, dgSub, dgFldC, wPar, wTup, wLst, wLstC, wFldC, wSetFC, wMeth, wMake, wCall, wSl, wNoPart, wPart, wStar, wLenO, wTruO, wReprO, wBoolO, wCallN, wMakeN, wMethN, wFmt, wFS, wJs, wDNew, wDGet, wDPut, wBMl, wCallV, wCallE, gI20, gI2, gNeg, g1I, g2I, gNotN, gIsN, gIsB, D.isNon, sAdd1, sAdd2, sAdd3, sAdd4, sMul1, sMulT, sLen1, sLen2, sLen3, sInt1, sInt2, sTup1, sTup2, sLst1, sLst2, sSl1, sSl2, sSl3, sTru1, sTru2, sTru3, sTru4, sDvm, List.map, List.length_cons, List.length_nil, List.replicate, List.cons_append, List.nil_append, List.append_nil, List.getElem?_cons_zero, List.getElem?_cons_succ, List.set_cons_zero, List.set_cons_succ, DL.eq_int, DL.ne_int, eq_str, ne_str, Bool.not_true, Bool.not_false, decide_true, decide_false, true_and, and_true, if_true, if_false, Bool.false_eq_true, ex_some]
  refine isi_tup ?_
  simp only [startD, endsD, wRet, wRetN, wAndV, wOrV, wNotV, wCB, wCons, wNil, wVar, wC, wChain, wOp, wUn, wIf, wIfE, wTv, wTru, wNot, wAnd, wOr, wSeq, wNext, wAsg, wDrop, dgN, dgT, dgCons, dgNil, dgSub, dgFldC, wPar, wTup, wLst, wLstC, wFldC, wSetFC, wMeth, wMake, wCall, wSl, wNoPart, wPart, wStar, wLenO, wTruO, wReprO, wBoolO, wCallN, wMakeN, wMethN, wFmt, wFS, wJs, wDNew, wDGet, wDPut, wBMl, wCallV, wCallE, gI20, gI2, gNeg, g1I, g2I, gNotN, gIsN, gIsB, D.isNon, sAdd1, sAdd2, sAdd3, sAdd4, sMul1, sMulT, sLen1, sLen2, sLen3, sInt1, sInt2, sTup1, sTup2, sLst1, sLst2, sSl1, sSl2, sSl3, sTru1, sTru2, sTru3, sTru4, sDvm, List.map, List.length_cons, List.length_nil, List.replicate, List.cons_append, List.nil_append, List.append_nil, List.getElem?_cons_zero, List.getElem?_cons_succ, List.set_cons_zero, List.set_cons_succ, DL.eq_int, DL.ne_int, eq_str, ne_str, Bool.not_true, Bool.not_false, decide_true, decide_false, true_and, and_true, if_true, if_false, Bool.false_eq_true, ex_some]
  rw [List.length_map, show (!((l.length : Int) == (l.length : Int))) = false by simp]
  simp only [startD, endsD, wRet, wRetN, wAndV, wOrV, wNotV, wCB, wCons, wNil, wVar, wC, wChain, wOp, wUn, wIf, wIfE, wTv, wTru, wNot, wAnd, wOr, wSeq, wNext, wAsg, wDrop, dgN, dgT, dgCons, dgNil, dgSub, dgFldC, wPar, wTup, wLst, wLstC, wFldC, wSetFC, wMeth, wMake, wCall, wSl, wNoPart, wPart, wStar, wLenO, wTruO, wReprO, wBoolO, wCallN, wMakeN, wMethN, wFmt, wFS, wJs, wDNew, wDGet, wDPut, wBMl, wCallV, wCallE, gI20, gI2, gNeg, g1I, g2I, gNotN, gIsN, gIsB, D.isNon, sAdd1, sAdd2, sAdd3, sAdd4, sMul1, sMulT, sLen1, sLen2, sLen3, sInt1, sInt2, sTup1, sTup2, sLst1, sLst2, sSl1, sSl2, sSl3, sTru1, sTru2, sTru3, sTru4, sDvm, List.map, List.length_cons, List.length_nil, List.replicate, List.cons_append, List.nil_append, List.append_nil, List.getElem?_cons_zero, List.getElem?_cons_succ, List.set_cons_zero, List.set_cons_succ, DL.eq_int, DL.ne_int, eq_str, ne_str, Bool.not_true, Bool.not_false, decide_true, decide_false, true_and, and_true, if_true, if_false, Bool.false_eq_true, ex_some]
  refine ⟨l, c, rfl, ho, ?_⟩
  simp only [startD, endsD, wRet, wRetN, wAndV, wOrV, wNotV, wCB, wCons, wNil, wVar, wC, wChain, wOp, wUn, wIf, wIfE, wTv, wTru, wNot, wAnd, wOr, wSeq, wNext, wAsg, wDrop, dgN, dgT, dgCons, dgNil, dgSub, dgFldC, wPar, wTup, wLst, wLstC, wFldC, wSetFC, wMeth, wMake, wCall, wSl, wNoPart, wPart, wStar, wLenO, wTruO, wReprO, wBoolO, wCallN, wMakeN, wMethN, wFmt, wFS, wJs, wDNew, wDGet, wDPut, wBMl, wCallV, wCallE, gI20, gI2, gNeg, g1I, g2I, gNotN, gIsN, gIsB, D.isNon, sAdd1, sAdd2, sAdd3, sAdd4, sMul1, sMulT, sLen1, sLen2, sLen3, sInt1, sInt2, sTup1, sTup2, sLst1, sLst2, sSl1, sSl2, sSl3, sTru1, sTru2, sTru3, sTru4, sDvm, List.map, List.length_cons, List.length_nil, List.replicate, List.cons_append, List.nil_append, List.append_nil, List.getElem?_cons_zero, List.getElem?_cons_succ, List.set_cons_zero, List.set_cons_succ, DL.eq_int, DL.ne_int, eq_str, ne_str, Bool.not_true, Bool.not_false, decide_true, decide_false, true_and, and_true, if_true, if_false, Bool.false_eq_true, ex_some]
  exact h
theorem lowI_eq (i j : Int) : lowI i j = min i j := by unfold lowI; omega
theorem highI_eq (i j : Int) : highI i j = max i j := by unfold highI; omega
theorem cmul_small {i j : Int} (h1 : -1000000 ≤ i) (h2 : i ≤ 1000000) : CMul i j := .inl ⟨by omega, by omega⟩
theorem pure_place_in_table {K : PySem.W.Frag} (T : TP K) : Pu_place_in_table K := by
  rintro ds st Kn Kx - ⟨c, i, j, rfl, ⟨h1, h2, h3, h4, h5, h6⟩, h⟩
  simp only [startD, endsD, wRet, wRetN, wAndV, wOrV, wNotV, wCB, wCons, wNil, wVar, wC, wChain, wOp, wUn, wIf, wIfE, wTv, wTru, wNot, wAnd, wOr, wSeq, wNext, wAsg, wDrop, dgN, dgT, dgCons, dgNil, dgSub, dgFldC, wPar, wTup, wLst, wLstC, wFldC, wSetFC, wMeth, wMake, wCall, wSl, wNoPart, wPart, wStar, wLenO, wTruO, wReprO, wBoolO, wCallN, wMakeN, wMethN, wFmt, wFS, wJs, wDNew, wDGet, wDPut, wBMl, wCallV, wCallE, gI20, gI2, gNeg, g1I, g2I, gNotN, gIsN, gIsB, D.isNon, sAdd1, sAdd2, sAdd3, sAdd4, sMul1, sMulT, sLen1, sLen2, sLen3, sInt1, sInt2, sTup1, sTup2, sLst1, sLst2, sSl1, sSl2, sSl3, sTru1, sTru2, sTru3, sTru4, sDvm, List.map, List.length_cons, List.length_nil, List.replicate, List.cons_append, List.nil_append, List.append_nil, List.getElem?_cons_zero, List.getElem?_cons_succ, List.set_cons_zero, List.set_cons_succ, DL.eq_int, DL.ne_int, eq_str, ne_str, Bool.not_true, Bool.not_false, decide_true, decide_false, true_and, and_true, if_true, if_false, Bool.false_eq_true, ex_some]
  have e : -1000000 ≤ lowI i j ∧ lowI i j ≤ 1000000 := by rw [lowI_eq]; omega
  exact ⟨cmul_small e.1 e.2, cmul_small e.1 e.2, ⟨by decide, by decide⟩, h⟩
theorem pure_check_mixture {K : PySem.W.Frag} (T : TP K) : Pu_check_mixture K := by
  rintro ds st Kn Kx - ⟨a, m, rfl, ⟨l, ok⟩, h⟩
  simp only [startD, endsD, wRet, wRetN, wAndV, wOrV, wNotV, wCB, wCons, wNil, wVar, wC, wChain, wOp, wUn, wIf, wIfE, wTv, wTru, wNot, wAnd, wOr, wSeq, wNext, wAsg, wDrop, dgN, dgT, dgCons, dgNil, dgSub, dgFldC, wPar, wTup, wLst, wLstC, wFldC, wSetFC, wMeth, wMake, wCall, wSl, wNoPart, wPart, wStar, wLenO, wTruO, wReprO, wBoolO, wCallN, wMakeN, wMethN, wFmt, wFS, wJs, wDNew, wDGet, wDPut, wBMl, wCallV, wCallE, gI20, gI2, gNeg, g1I, g2I, gNotN, gIsN, gIsB, D.isNon, sAdd1, sAdd2, sAdd3, sAdd4, sMul1, sMulT, sLen1, sLen2, sLen3, sInt1, sInt2, sTup1, sTup2, sLst1, sLst2, sSl1, sSl2, sSl3, sTru1, sTru2, sTru3, sTru4, sDvm, List.map, List.length_cons, List.length_nil, List.replicate, List.cons_append, List.nil_append, List.append_nil, List.getElem?_cons_zero, List.getElem?_cons_succ, List.set_cons_zero, List.set_cons_succ, DL.eq_int, DL.ne_int, eq_str, ne_str, Bool.not_true, Bool.not_false, decide_true, decide_false, true_and, and_true, if_true, if_false, Bool.false_eq_true, ex_some]
  refine isi_mix T l ?_
  simp only [startD, endsD, wRet, wRetN, wAndV, wOrV, wNotV, wCB, wCons, wNil, wVar, wC, wChain, wOp, wUn, wIf, wIfE, wTv, wTru, wNot, wAnd, wOr, wSeq, wNext, wAsg, wDrop, dgN, dgT, dgCons, dgNil, dgSub, dgFldC, wPar, wTup, wLst, wLstC, wFldC, wSetFC, wMeth, wMake, wCall, wSl, wNoPart, wPart, wStar, wLenO, wTruO, wReprO, wBoolO, wCallN, wMakeN, wMethN, wFmt, wFS, wJs, wDNew, wDGet, wDPut, wBMl, wCallV, wCallE, gI20, gI2, gNeg, g1I, g2I, gNotN, gIsN, gIsB, D.isNon, sAdd1, sAdd2, sAdd3, sAdd4, sMul1, sMulT, sLen1, sLen2, sLen3, sInt1, sInt2, sTup1, sTup2, sLst1, sLst2, sSl1, sSl2, sSl3, sTru1, sTru2, sTru3, sTru4, sDvm, List.map, List.length_cons, List.length_nil, List.replicate, List.cons_append, List.nil_append, List.append_nil, List.getElem?_cons_zero, List.getElem?_cons_succ, List.set_cons_zero, List.set_cons_succ, DL.eq_int, DL.ne_int, eq_str, ne_str, Bool.not_true, Bool.not_false, decide_true, decide_false, true_and, and_true, if_true, if_false, Bool.false_eq_true, ex_some]
  exact h
theorem pure_is_pair_of_places {K : PySem.W.Frag} (T : TP K) : Pu_is_pair_of_places K := by
  rintro ds st Kn Kx - ⟨a, b, n, rfl, ⟨oa, ob⟩, h⟩
  simp only [startD, endsD, wRet, wRetN, wAndV, wOrV, wNotV, wCB, wCons, wNil, wVar, wC, wChain, wOp, wUn, wIf, wIfE, wTv, wTru, wNot, wAnd, wOr, wSeq, wNext, wAsg, wDrop, dgN, dgT, dgCons, dgNil, dgSub, dgFldC, wPar, wTup, wLst, wLstC, wFldC, wSetFC, wMeth, wMake, wCall, wSl, wNoPart, wPart, wStar, wLenO, wTruO, wReprO, wBoolO, wCallN, wMakeN, wMethN, wFmt, wFS, wJs, wDNew, wDGet, wDPut, wBMl, wCallV, wCallE, gI20, gI2, gNeg, g1I, g2I, gNotN, gIsN, gIsB, D.isNon, sAdd1, sAdd2, sAdd3, sAdd4, sMul1, sMulT, sLen1, sLen2, sLen3, sInt1, sInt2, sTup1, sTup2, sLst1, sLst2, sSl1, sSl2, sSl3, sTru1, sTru2, sTru3, sTru4, sDvm, List.map, List.length_cons, List.length_nil, List.replicate, List.cons_append, List.nil_append, List.append_nil, List.getElem?_cons_zero, List.getElem?_cons_succ, List.set_cons_zero, List.set_cons_succ, DL.eq_int, DL.ne_int, eq_str, ne_str, Bool.not_true, Bool.not_false, decide_true, decide_false, true_and, and_true, if_true, if_false, Bool.false_eq_true, ex_some]
  refine isi_tup ?_
  simp only [startD, endsD, wRet, wRetN, wAndV, wOrV, wNotV, wCB, wCons, wNil, wVar, wC, wChain, wOp, wUn, wIf, wIfE, wTv, wTru, wNot, wAnd, wOr, wSeq, wNext, wAsg, wDrop, dgN, dgT, dgCons, dgNil, dgSub, dgFldC, wPar, wTup, wLst, wLstC, wFldC, wSetFC, wMeth, wMake, wCall, wSl, wNoPart, wPart, wStar, wLenO, wTruO, wReprO, wBoolO, wCallN, wMakeN, wMethN, wFmt, wFS, wJs, wDNew, wDGet, wDPut, wBMl, wCallV, wCallE, gI20, gI2, gNeg, g1I, g2I, gNotN, gIsN, gIsB, D.isNon, sAdd1, sAdd2, sAdd3, sAdd4, sMul1, sMulT, sLen1, sLen2, sLen3, sInt1, sInt2, sTup1, sTup2, sLst1, sLst2, sSl1, sSl2, sSl3, sTru1, sTru2, sTru3, sTru4, sDvm, List.map, List.length_cons, List.length_nil, List.replicate, List.cons_append, List.nil_append, List.append_nil, List.getElem?_cons_zero, List.getElem?_cons_succ, List.set_cons_zero, List.set_cons_succ, DL.eq_int, DL.ne_int, eq_str, ne_str, Bool.not_true, Bool.not_false, decide_true, decide_false, true_and, and_true, if_true, if_false, Bool.false_eq_true, ex_some]
  rw [show (!((((0 + 1 + 1 : Nat) : Int)) == 2)) = false by decide]
  simp only [startD, endsD, wRet, wRetN, wAndV, wOrV, wNotV, wCB, wCons, wNil, wVar, wC, wChain, wOp, wUn, wIf, wIfE, wTv, wTru, wNot, wAnd, wOr, wSeq, wNext, wAsg, wDrop, dgN, dgT, dgCons, dgNil, dgSub, dgFldC, wPar, wTup, wLst, wLstC, wFldC, wSetFC, wMeth, wMake, wCall, wSl, wNoPart, wPart, wStar, wLenO, wTruO, wReprO, wBoolO, wCallN, wMakeN, wMethN, wFmt, wFS, wJs, wDNew, wDGet, wDPut, wBMl, wCallV, wCallE, gI20, gI2, gNeg, g1I, g2I, gNotN, gIsN, gIsB, D.isNon, sAdd1, sAdd2, sAdd3, sAdd4, sMul1, sMulT, sLen1, sLen2, sLen3, sInt1, sInt2, sTup1, sTup2, sLst1, sLst2, sSl1, sSl2, sSl3, sTru1, sTru2, sTru3, sTru4, sDvm, List.map, List.length_cons, List.length_nil, List.replicate, List.cons_append, List.nil_append, List.append_nil, List.getElem?_cons_zero, List.getElem?_cons_succ, List.set_cons_zero, List.set_cons_succ, DL.eq_int, DL.ne_int, eq_str, ne_str, Bool.not_true, Bool.not_false, decide_true, decide_false, true_and, and_true, if_true, if_false, Bool.false_eq_true, ex_some]
  refine ix_tup (by decide) rfl ⟨a, _, _, rfl, oa, ?_⟩
  unfold isPl at h
  cases e1 : inB a 0 (n - 1) with
  | false =>
    rw [e1, Bool.false_and] at h
    simp only [startD, endsD, wRet, wRetN, wAndV, wOrV, wNotV, wCB, wCons, wNil, wVar, wC, wChain, wOp, wUn, wIf, wIfE, wTv, wTru, wNot, wAnd, wOr, wSeq, wNext, wAsg, wDrop, dgN, dgT, dgCons, dgNil, dgSub, dgFldC, wPar, wTup, wLst, wLstC, wFldC, wSetFC, wMeth, wMake, wCall, wSl, wNoPart, wPart, wStar, wLenO, wTruO, wReprO, wBoolO, wCallN, wMakeN, wMethN, wFmt, wFS, wJs, wDNew, wDGet, wDPut, wBMl, wCallV, wCallE, gI20, gI2, gNeg, g1I, g2I, gNotN, gIsN, gIsB, D.isNon, sAdd1, sAdd2, sAdd3, sAdd4, sMul1, sMulT, sLen1, sLen2, sLen3, sInt1, sInt2, sTup1, sTup2, sLst1, sLst2, sSl1, sSl2, sSl3, sTru1, sTru2, sTru3, sTru4, sDvm, List.map, List.length_cons, List.length_nil, List.replicate, List.cons_append, List.nil_append, List.append_nil, List.getElem?_cons_zero, List.getElem?_cons_succ, List.set_cons_zero, List.set_cons_succ, DL.eq_int, DL.ne_int, eq_str, ne_str, Bool.not_true, Bool.not_false, decide_true, decide_false, true_and, and_true, if_true, if_false, Bool.false_eq_true, ex_some]
    exact h
  | true =>
    rw [e1, Bool.true_and] at h
    simp only [startD, endsD, wRet, wRetN, wAndV, wOrV, wNotV, wCB, wCons, wNil, wVar, wC, wChain, wOp, wUn, wIf, wIfE, wTv, wTru, wNot, wAnd, wOr, wSeq, wNext, wAsg, wDrop, dgN, dgT, dgCons, dgNil, dgSub, dgFldC, wPar, wTup, wLst, wLstC, wFldC, wSetFC, wMeth, wMake, wCall, wSl, wNoPart, wPart, wStar, wLenO, wTruO, wReprO, wBoolO, wCallN, wMakeN, wMethN, wFmt, wFS, wJs, wDNew, wDGet, wDPut, wBMl, wCallV, wCallE, gI20, gI2, gNeg, g1I, g2I, gNotN, gIsN, gIsB, D.isNon, sAdd1, sAdd2, sAdd3, sAdd4, sMul1, sMulT, sLen1, sLen2, sLen3, sInt1, sInt2, sTup1, sTup2, sLst1, sLst2, sSl1, sSl2, sSl3, sTru1, sTru2, sTru3, sTru4, sDvm, List.map, List.length_cons, List.length_nil, List.replicate, List.cons_append, List.nil_append, List.append_nil, List.getElem?_cons_zero, List.getElem?_cons_succ, List.set_cons_zero, List.set_cons_succ, DL.eq_int, DL.ne_int, eq_str, ne_str, Bool.not_true, Bool.not_false, decide_true, decide_false, true_and, and_true, if_true, if_false, Bool.false_eq_true, ex_some]
    refine ix_tup (by decide) rfl ⟨b, _, _, rfl, ob, ?_⟩
    cases a with
    | int i =>
      simp only [intOf] at h
      cases b with
      | int j =>
        simp only [inB, decide_eq_true_eq] at e1 h ⊢
        by_cases h1 : 0 ≤ j ∧ j ≤ n - 1
        · rw [decide_eq_true h1]
          simp only [startD, endsD, wRet, wRetN, wAndV, wOrV, wNotV, wCB, wCons, wNil, wVar, wC, wChain, wOp, wUn, wIf, wIfE, wTv, wTru, wNot, wAnd, wOr, wSeq, wNext, wAsg, wDrop, dgN, dgT, dgCons, dgNil, dgSub, dgFldC, wPar, wTup, wLst, wLstC, wFldC, wSetFC, wMeth, wMake, wCall, wSl, wNoPart, wPart, wStar, wLenO, wTruO, wReprO, wBoolO, wCallN, wMakeN, wMethN, wFmt, wFS, wJs, wDNew, wDGet, wDPut, wBMl, wCallV, wCallE, gI20, gI2, gNeg, g1I, g2I, gNotN, gIsN, gIsB, D.isNon, sAdd1, sAdd2, sAdd3, sAdd4, sMul1, sMulT, sLen1, sLen2, sLen3, sInt1, sInt2, sTup1, sTup2, sLst1, sLst2, sSl1, sSl2, sSl3, sTru1, sTru2, sTru3, sTru4, sDvm, List.map, List.length_cons, List.length_nil, List.replicate, List.cons_append, List.nil_append, List.append_nil, List.getElem?_cons_zero, List.getElem?_cons_succ, List.set_cons_zero, List.set_cons_succ, DL.eq_int, DL.ne_int, eq_str, ne_str, Bool.not_true, Bool.not_false, decide_true, decide_false, true_and, and_true, if_true, if_false, Bool.false_eq_true, ex_some]
          refine ix_tup (by decide) rfl (ix_tup (by decide) rfl ?_)
          show Kn (.bl (decide (i < j))) st
          rw [show decide (i < j) = decide (i + 1 ≤ j ∧ j ≤ n - 1) from decide_eq_decide.mpr (by omega)]
          exact h
        · rw [decide_eq_false h1]
          simp only [startD, endsD, wRet, wRetN, wAndV, wOrV, wNotV, wCB, wCons, wNil, wVar, wC, wChain, wOp, wUn, wIf, wIfE, wTv, wTru, wNot, wAnd, wOr, wSeq, wNext, wAsg, wDrop, dgN, dgT, dgCons, dgNil, dgSub, dgFldC, wPar, wTup, wLst, wLstC, wFldC, wSetFC, wMeth, wMake, wCall, wSl, wNoPart, wPart, wStar, wLenO, wTruO, wReprO, wBoolO, wCallN, wMakeN, wMethN, wFmt, wFS, wJs, wDNew, wDGet, wDPut, wBMl, wCallV, wCallE, gI20, gI2, gNeg, g1I, g2I, gNotN, gIsN, gIsB, D.isNon, sAdd1, sAdd2, sAdd3, sAdd4, sMul1, sMulT, sLen1, sLen2, sLen3, sInt1, sInt2, sTup1, sTup2, sLst1, sLst2, sSl1, sSl2, sSl3, sTru1, sTru2, sTru3, sTru4, sDvm, List.map, List.length_cons, List.length_nil, List.replicate, List.cons_append, List.nil_append, List.append_nil, List.getElem?_cons_zero, List.getElem?_cons_succ, List.set_cons_zero, List.set_cons_succ, DL.eq_int, DL.ne_int, eq_str, ne_str, Bool.not_true, Bool.not_false, decide_true, decide_false, true_and, and_true, if_true, if_false, Bool.false_eq_true, ex_some]
          rw [show decide (i + 1 ≤ j ∧ j ≤ n - 1) = false from decide_eq_false (by omega)] at h
          exact h
      | _ => exact h
    | _ => cases e1
end GV

namespace GV
open PySem PySem.Spec PyProof.Rows L2 DL
variable [Tb]
/-! the store -/
theorem put_lookup {st : Sto} {a : Addr} {c c' : Cell} (h : st.lookup a = some c) : (st.put a c').lookup a = some c' := by
  induction st with
  | nil => cases h
  | cons p r ih =>
    obtain ⟨b, x⟩ := p
    unfold Sto.put
    rw [List.map_cons]
    by_cases e : b = a
    · subst e
      rw [if_pos rfl]
      simp [List.lookup]
    · rw [if_neg e]
      have e' : (a == b) = false := by simpa using Ne.symm e
      simp only [List.lookup, e'] at h ⊢
      exact ih h
theorem put_other {st : Sto} {a b : Addr} {c' : Cell} (n : b ≠ a) : (st.put a c').lookup b = st.lookup b := by
  induction st with
  | nil => rfl
  | cons p r ih =>
    obtain ⟨d, x⟩ := p
    unfold Sto.put
    rw [List.map_cons]
    by_cases e : d = a
    · subst e
      rw [if_pos rfl]
      have e' : (b == d) = false := by simpa using n
      simp only [List.lookup, e']
      exact ih
    · rw [if_neg e]
      by_cases q : b = d
      · subst q; simp [List.lookup]
      · have e' : (b == d) = false := by simpa using q
        simp only [List.lookup, e']
        exact ih
theorem put_put {st : Sto} {a : Addr} {c c' : Cell} : (st.put a c).put a c' = st.put a c' := by
  unfold Sto.put
  rw [List.map_map]
  refine List.map_congr_left fun p _ => ?_
  show (if (if p.1 = a then (a, c) else p).1 = a then (a, c') else (if p.1 = a then (a, c) else p)) = _
  by_cases e : p.1 = a
  · rw [if_pos e, if_pos rfl, if_pos e]
  · rw [if_neg e, if_neg e]
theorem put_off {st : Sto} {a : Addr} {c : Cell} (h : ¬ st.on a) : st.put a c = st := by
  unfold Sto.put
  refine (List.map_congr_left fun p hp => ?_).trans (List.map_id st)
  show (if p.1 = a then (a, c) else p) = p
  rw [if_neg fun e => h (by rw [← e]; exact List.mem_map.mpr ⟨p, hp, rfl⟩)]
theorem put_new {st : Sto} {a : Addr} {c c' : Cell} (h : ¬ st.on a) : Sto.put ((a, c) :: st) a c' = (a, c') :: st := by
  have e : Sto.put ((a, c) :: st) a c' = (a, c') :: st.put a c' := by
    unfold Sto.put
    rw [List.map_cons, if_pos rfl]
  rw [e, put_off h]
theorem new_lookup {st : Sto} {a : Addr} {c : Cell} : List.lookup a ((a, c) :: st) = some c := by simp [List.lookup]
theorem old_lookup {st : Sto} {a b : Addr} {c : Cell} (h : b ≠ a) : List.lookup b ((a, c) :: st) = st.lookup b := by
  have e' : (b == a) = false := by simpa using h
  simp only [List.lookup, e']
theorem ne_on {st : Sto} {a b : Addr} {c : Cell} (l : st.lookup b = some c) (h : ¬ st.on a) : b ≠ a := fun e => h (by rw [← e]; exact on_of l)
/-! mixtures -/
theorem place_ok (c i j : Int) (h1 : 1 ≤ c) (h8 : c ≤ 8) (hi : 0 ≤ i) (hi' : i < c) (hj : 0 ≤ j) (hj' : j < c) : 0 ≤ placeI c i j ∧ placeI c i j < c * (c + 1) / 2 := by
  have key : ∀ c : Fin 9, ∀ i : Fin 9, ∀ j : Fin 9, 1 ≤ c.val → i.val < c.val → j.val < c.val → 0 ≤ placeI (c.val : Int) (i.val : Int) (j.val : Int) ∧ placeI (c.val : Int) (i.val : Int) (j.val : Int) < (c.val : Int) * ((c.val : Int) + 1) / 2 := by decide +kernel
  have q := key ⟨c.toNat, by omega⟩ ⟨i.toNat, by omega⟩ ⟨j.toNat, by omega⟩ (by show 1 ≤ c.toNat; omega) (by show i.toNat < c.toNat; omega) (by show j.toNat < c.toNat; omega)
  have e1 : ((c.toNat : Nat) : Int) = c := by omega
  have e2 : ((i.toNat : Nat) : Int) = i := by omega
  have e3 : ((j.toNat : Nat) : Int) = j := by omega
  simp only [e1, e2, e3] at q
  exact q
theorem tab_get {c : Int} {s t : List (Int × Int)} (ok : MxOk c s t) {i j : Int} (hi : 0 ≤ i) (hi' : i < c) (hj : 0 ≤ j) (hj' : j < c) : ∃ p, t[(placeI c i j).toNat]? = some p ∧ 0 ≤ placeI c i j ∧ p = t.getD (placeI c i j).toNat (0, 0) ∧ okE c p := by
  have q := place_ok c i j ok.c1 ok.c8 hi hi' hj hj'
  have hl : (placeI c i j).toNat < t.length := by have := ok.tl; omega
  refine ⟨t[(placeI c i j).toNat], List.getElem?_eq_getElem hl, q.1, ?_, ok.to _ (List.getElem_mem hl)⟩
  rw [List.getD_eq_getElem?_getD, List.getElem?_eq_getElem hl]; rfl
theorem ix_pD {l : List (Int × Int)} {i : Int} {p : Int × Int} {st : Sto} {Kn : KD} (h0 : 0 ≤ i) (h : l[i.toNat]? = some p) (k : Kn (pD p) st) : gIx (.tup (l.map pD)) (.int i) st Kn :=
  ix_tup h0 (by rw [List.getElem?_map, h]; rfl) k
theorem ix_ints {l : List Int} {i : Int} {p : Int} {st : Sto} {Kn : KD} (h0 : 0 ≤ i) (h : l[i.toNat]? = some p) (k : Kn (.int p) st) : gIx (.tup (l.map D.int)) (.int i) st Kn :=
  ix_tup h0 (by rw [List.getElem?_map, h]; rfl) k
theorem mx_count {m : Mx} : List.lookup ("count" : Str) (mxF m) = some (.int m.c) := rfl
theorem mx_starts {m : Mx} : List.lookup ("starts" : Str) (mxF m) = some (.tup (m.st.map pD)) := rfl
theorem mx_table {m : Mx} : List.lookup ("table" : Str) (mxF m) = some (.tup (m.tb.map pD)) := rfl
theorem mx_met {m : Mx} : List.lookup ("met" : Str) (mxF m) = none := rfl
theorem pure_Mixture_met {K : PySem.W.Frag} (T : TP K) : Pu_Mixture_met K := by
  rintro ds st Kn Kx - ⟨a, m, i, j, rfl, ⟨l, ok⟩, ⟨h1, h2, h3, h4⟩, h⟩
  obtain ⟨p, e1, e2, e3, e4⟩ := tab_get ok h1 h2 h3 h4
  unfold mixC at l
  simp only [startD, endsD, wRet, wRetN, wAndV, wOrV, wNotV, wCB, wCons, wNil, wVar, wC, wChain, wOp, wUn, wIf, wIfE, wTv, wTru, wNot, wAnd, wOr, wSeq, wNext, wAsg, wDrop, dgN, dgT, dgCons, dgNil, dgSub, dgFldC, wPar, wTup, wLst, wLstC, wFldC, wSetFC, wMeth, wMake, wCall, wSl, wNoPart, wPart, wStar, wLenO, wTruO, wReprO, wBoolO, wCallN, wMakeN, wMethN, wFmt, wFS, wJs, wDNew, wDGet, wDPut, wBMl, wCallV, wCallE, gI20, gI2, gNeg, g1I, g2I, gNotN, gIsN, gIsB, D.isNon, sAdd1, sAdd2, sAdd3, sAdd4, sMul1, sMulT, sLen1, sLen2, sLen3, sInt1, sInt2, sTup1, sTup2, sLst1, sLst2, sSl1, sSl2, sSl3, sTru1, sTru2, sTru3, sTru4, sDvm, List.map, List.length_cons, List.length_nil, List.replicate, List.cons_append, List.nil_append, List.append_nil, List.getElem?_cons_zero, List.getElem?_cons_succ, List.set_cons_zero, List.set_cons_succ, DL.eq_int, DL.ne_int, eq_str, ne_str, Bool.not_true, Bool.not_false, decide_true, decide_false, true_and, and_true, if_true, if_false, Bool.false_eq_true, ex_some, fldOf_ins l, mx_table, mx_count]
  have := ok.c8
  have := ok.c1
  refine ⟨m.c, i, j, rfl, ⟨by omega, by omega, by omega, by omega, by omega, by omega⟩, ?_⟩
  refine ix_pD e2 e1 ?_
  rw [e3]; exact h
theorem cutD_len {α : Type} (xs : List α) (lo hi : Option Int) : (DL.cutD xs lo hi).length ≤ xs.length := by
  unfold DL.cutD
  rw [List.length_take, List.length_drop]; omega
theorem sl_small {n : Nat} (h : n ≤ 1000) : n ≤ sizeLine := by rw [sizeLine_eq]; omega
theorem kat_get {ks : List Int} {i : Int} (h0 : 0 ≤ i) (h1 : i < ks.length) : ks[i.toNat]? = some (kat ks i) := by
  have hl : i.toNat < ks.length := by omega
  unfold kat
  rw [List.getD_eq_getElem?_getD, List.getElem?_eq_getElem hl]; rfl
theorem kat_mem {ks : List Int} {i : Int} (h0 : 0 ≤ i) (h1 : i < ks.length) : kat ks i ∈ ks := List.mem_of_getElem? (kat_get h0 h1)
theorem jn_map (ks : List Int) (k : Int) (i j : Int) : (jn ks k i j).map D.int = DL.cutD (ks.map D.int) none (some i) ++ [D.int k] ++ DL.cutD (ks.map D.int) (some (i + 1)) (some j) ++ DL.cutD (ks.map D.int) (some (j + 1)) none := by
  unfold jn
  simp only [List.map_append, cut_map, List.map_cons, List.map_nil]
theorem pure_joined {K : PySem.W.Frag} (T : TP K) : Pu_joined K := by
  rintro ds st Kn Kx - ⟨a, m, ks, i, j, rfl, mx, ⟨h1, h2, h3⟩, hl, hk, h⟩
  simp only [startD, endsD, wRet, wRetN, wAndV, wOrV, wNotV, wCB, wCons, wNil, wVar, wC, wChain, wOp, wUn, wIf, wIfE, wTv, wTru, wNot, wAnd, wOr, wSeq, wNext, wAsg, wDrop, dgN, dgT, dgCons, dgNil, dgSub, dgFldC, wPar, wTup, wLst, wLstC, wFldC, wSetFC, wMeth, wMake, wCall, wSl, wNoPart, wPart, wStar, wLenO, wTruO, wReprO, wBoolO, wCallN, wMakeN, wMethN, wFmt, wFS, wJs, wDNew, wDGet, wDPut, wBMl, wCallV, wCallE, gI20, gI2, gNeg, g1I, g2I, gNotN, gIsN, gIsB, D.isNon, sAdd1, sAdd2, sAdd3, sAdd4, sMul1, sMulT, sLen1, sLen2, sLen3, sInt1, sInt2, sTup1, sTup2, sLst1, sLst2, sSl1, sSl2, sSl3, sTru1, sTru2, sTru3, sTru4, sDvm, List.map, List.length_cons, List.length_nil, List.replicate, List.cons_append, List.nil_append, List.append_nil, List.getElem?_cons_zero, List.getElem?_cons_succ, List.set_cons_zero, List.set_cons_succ, DL.eq_int, DL.ne_int, eq_str, ne_str, Bool.not_true, Bool.not_false, decide_true, decide_false, true_and, and_true, if_true, if_false, Bool.false_eq_true, ex_some]
  simp only [mx.1, mixC, mx_met]
  refine ⟨⟨by trivial, by trivial⟩, ?_⟩
  refine ix_ints h1 (kat_get h1 (by omega)) (ix_ints (by omega) (kat_get (by omega) h3) ?_)
  have k1 := hk _ (kat_mem h1 (by omega))
  have k2 := hk _ (kat_mem (by omega : 0 ≤ j) h3)
  refine ⟨a, m, _, _, rfl, mx, ⟨k1.1, k1.2, k2.1, k2.2⟩, ?_⟩
  unfold pD
  dsimp only
  have c1 := cutD_len (ks.map D.int) none (some i)
  have c2 := cutD_len (ks.map D.int) (some (i + 1)) (some j)
  have c3 := cutD_len (ks.map D.int) (some (j + 1)) none
  rw [List.length_map] at c1 c2 c3
  refine ⟨rfl, sl_small (by decide), sl_small (by omega), sl_small ?_, sl_small ?_, sl_small (by decide), ?_⟩
  · rw [List.length_append, List.length_cons, List.length_nil]; omega
  · rw [List.length_append, List.length_append, List.length_cons, List.length_nil]; omega
  · rw [jn_map] at h; exact h
theorem pure_MixtureX_initX {K : PySem.W.Frag} (T : TP K) : Pu_MixtureX_initX K := by
  rintro ds st Kn Kx - ⟨a, c, s, t, rfl, l, ok, h⟩
  have := ok.c1
  have := ok.c8
  simp only [startD, endsD, wRet, wRetN, wAndV, wOrV, wNotV, wCB, wCons, wNil, wVar, wC, wChain, wOp, wUn, wIf, wIfE, wTv, wTru, wNot, wAnd, wOr, wSeq, wNext, wAsg, wDrop, dgN, dgT, dgCons, dgNil, dgSub, dgFldC, wPar, wTup, wLst, wLstC, wFldC, wSetFC, wMeth, wMake, wCall, wSl, wNoPart, wPart, wStar, wLenO, wTruO, wReprO, wBoolO, wCallN, wMakeN, wMethN, wFmt, wFS, wJs, wDNew, wDGet, wDPut, wBMl, wCallV, wCallE, gI20, gI2, gNeg, g1I, g2I, gNotN, gIsN, gIsB, D.isNon, sAdd1, sAdd2, sAdd3, sAdd4, sMul1, sMulT, sLen1, sLen2, sLen3, sInt1, sInt2, sTup1, sTup2, sLst1, sLst2, sSl1, sSl2, sSl3, sTru1, sTru2, sTru3, sTru4, sDvm, List.map, List.length_cons, List.length_nil, List.replicate, List.cons_append, List.nil_append, List.append_nil, List.getElem?_cons_zero, List.getElem?_cons_succ, List.set_cons_zero, List.set_cons_succ, DL.eq_int, DL.ne_int, eq_str, ne_str, Bool.not_true, Bool.not_false, decide_true, decide_false, true_and, and_true, if_true, if_false, Bool.false_eq_true, ex_some]
  refine btw ok.c1 ok.c8 ?_
  simp only [startD, endsD, wRet, wRetN, wAndV, wOrV, wNotV, wCB, wCons, wNil, wVar, wC, wChain, wOp, wUn, wIf, wIfE, wTv, wTru, wNot, wAnd, wOr, wSeq, wNext, wAsg, wDrop, dgN, dgT, dgCons, dgNil, dgSub, dgFldC, wPar, wTup, wLst, wLstC, wFldC, wSetFC, wMeth, wMake, wCall, wSl, wNoPart, wPart, wStar, wLenO, wTruO, wReprO, wBoolO, wCallN, wMakeN, wMethN, wFmt, wFS, wJs, wDNew, wDGet, wDPut, wBMl, wCallV, wCallE, gI20, gI2, gNeg, g1I, g2I, gNotN, gIsN, gIsB, D.isNon, sAdd1, sAdd2, sAdd3, sAdd4, sMul1, sMulT, sLen1, sLen2, sLen3, sInt1, sInt2, sTup1, sTup2, sLst1, sLst2, sSl1, sSl2, sSl3, sTru1, sTru2, sTru3, sTru4, sDvm, List.map, List.length_cons, List.length_nil, List.replicate, List.cons_append, List.nil_append, List.append_nil, List.getElem?_cons_zero, List.getElem?_cons_succ, List.set_cons_zero, List.set_cons_succ, DL.eq_int, DL.ne_int, eq_str, ne_str, Bool.not_true, Bool.not_false, decide_true, decide_false, true_and, and_true, if_true, if_false, Bool.false_eq_true, ex_some]
  refine ⟨s, c, rfl, ⟨ok.s1, ok.s3⟩, ⟨ok.so, by omega⟩, ?_⟩
  refine ⟨cmul_small (by omega) (by omega), ⟨by decide, by decide⟩, ?_⟩
  rw [← ok.tl]
  refine ⟨t, c, rfl, ⟨ok.to, by omega⟩, ?_⟩
  refine ⟨_, _, ⟨rfl, l, (by first | exact (by decide : (0 : Nat) < 1000) | exact (by decide : (1 : Nat) < 1000) | exact (by decide : (2 : Nat) < 1000) | exact (by decide : (3 : Nat) < 1000) | exact (by decide : (4 : Nat) < 1000) | exact (by decide : (5 : Nat) < 1000) | exact (by decide : (6 : Nat) < 1000) | exact (by decide : (7 : Nat) < 1000) | exact (by decide : (8 : Nat) < 1000))⟩, _, _, ⟨rfl, put_lookup l, (by first | exact (by decide : (0 : Nat) < 1000) | exact (by decide : (1 : Nat) < 1000) | exact (by decide : (2 : Nat) < 1000) | exact (by decide : (3 : Nat) < 1000) | exact (by decide : (4 : Nat) < 1000) | exact (by decide : (5 : Nat) < 1000) | exact (by decide : (6 : Nat) < 1000) | exact (by decide : (7 : Nat) < 1000) | exact (by decide : (8 : Nat) < 1000))⟩, ?_⟩
  simp only [put_put]
  refine ⟨_, _, ⟨rfl, put_lookup l, (by first | exact (by decide : (0 : Nat) < 1000) | exact (by decide : (1 : Nat) < 1000) | exact (by decide : (2 : Nat) < 1000) | exact (by decide : (3 : Nat) < 1000) | exact (by decide : (4 : Nat) < 1000) | exact (by decide : (5 : Nat) < 1000) | exact (by decide : (6 : Nat) < 1000) | exact (by decide : (7 : Nat) < 1000) | exact (by decide : (8 : Nat) < 1000))⟩, sl_small (by decide), ?_⟩
  simp only [put_put]
  refine ⟨_, _, ⟨rfl, put_lookup l, (by first | exact (by decide : (0 : Nat) < 1000) | exact (by decide : (1 : Nat) < 1000) | exact (by decide : (2 : Nat) < 1000) | exact (by decide : (3 : Nat) < 1000) | exact (by decide : (4 : Nat) < 1000) | exact (by decide : (5 : Nat) < 1000) | exact (by decide : (6 : Nat) < 1000) | exact (by decide : (7 : Nat) < 1000) | exact (by decide : (8 : Nat) < 1000))⟩, ?_⟩
  simp only [put_put]
  refine ⟨c, s, t, rfl, ok, fun ks => ?_⟩
  refine ⟨_, _, ⟨rfl, put_lookup l, (by first | exact (by decide : (0 : Nat) < 1000) | exact (by decide : (1 : Nat) < 1000) | exact (by decide : (2 : Nat) < 1000) | exact (by decide : (3 : Nat) < 1000) | exact (by decide : (4 : Nat) < 1000) | exact (by decide : (5 : Nat) < 1000) | exact (by decide : (6 : Nat) < 1000) | exact (by decide : (7 : Nat) < 1000) | exact (by decide : (8 : Nat) < 1000))⟩, ?_⟩
  simp only [put_put]
  exact h ks
theorem sort_bound {c : Int} : ∀ (ms : List Int) (lo : Int), ms.Pairwise (· < ·) → (∀ k ∈ ms, lo ≤ k ∧ k < c) → (ms.length : Int) ≤ max (c - lo) 0
  | [], lo, _, _ => by simp; omega
  | x :: r, lo, h, b => by
    obtain ⟨h1, h2⟩ := List.pairwise_cons.mp h
    have q := sort_bound r (x + 1) h2 fun k hk => ⟨by have := h1 k hk; omega, (b k (List.mem_cons_of_mem _ hk)).2⟩
    have := b x List.mem_cons_self
    rw [List.length_cons]; push_cast; omega
theorem sub_length : ∀ (xs ys : List Int), xs.Pairwise (· < ·) → ys.Pairwise (· < ·) → (∀ k ∈ xs, k ∈ ys) → xs.length ≤ ys.length
  | [], _, _, _, _ => Nat.zero_le _
  | x :: r, ys, h, h2, hs => by
    obtain ⟨h3, h4⟩ := List.pairwise_cons.mp h
    have hx := hs x List.mem_cons_self
    have q := sub_length r (ys.erase x) h4 (h2.sublist List.erase_sublist) fun k hk => by
      have ne : k ≠ x := by have := h3 k hk; omega
      exact (List.mem_erase_of_ne ne).mpr (hs k (List.mem_cons_of_mem _ hk))
    rw [List.length_erase_of_mem hx] at q
    have : 0 < ys.length := List.length_pos_of_mem hx
    rw [List.length_cons]; omega
theorem intsOf_app (xs ys : List Int) : intsOf (xs.map D.int ++ ys.map D.int) = some (xs ++ ys) := by
  rw [← List.map_append]; exact intsOf_map _
/-- the comprehension over starts -/
theorem lc_starts {c : Int} {Kn : List D → Sto → Prop} {env : DEnv} (he : 9 < env.length) : ∀ (l : List (Int × Int)) (acc : List Int) (st : Sto), (∀ p ∈ l, okE c p) → acc.length + l.length ≤ 60 → (∀ k ∈ acc, 0 ≤ k ∧ k < c) →
    (∀ ks : List Int, ks.length = acc.length + l.length → (∀ k ∈ ks, 0 ≤ k ∧ k < c) → Kn (ks.map D.int) st) → lcL (tg2 7 8) wYes (wVar 7) env Kn (l.map pD) (acc.map D.int) st
  | [], acc, st, _, _, ha, h => h acc (by simp) ha
  | p :: l, acc, st, ho, hl, ha, h => by
    rw [List.map_cons]
    unfold lcL pD
    simp only [tg2, wYes, wVar]
    rw [List.getElem?_set_ne (by decide), List.getElem?_set_self (by omega)]
    dsimp only
    have e : acc.map D.int ++ [D.int p.1] = (acc ++ [p.1]).map D.int := by rw [List.map_append]; rfl
    rw [List.length_cons] at hl
    refine ⟨by rw [List.length_map, sizeLine_eq]; omega, ?_⟩
    rw [e]
    refine lc_starts he l (acc ++ [p.1]) st (fun q hq => ho q (List.mem_cons_of_mem _ hq)) (by rw [List.length_append, List.length_cons, List.length_nil]; omega) (fun k hk => ?_) fun ks hk hb => h ks (by rw [hk, List.length_append, List.length_cons, List.length_nil, List.length_cons]; omega) hb
    rcases List.mem_append.mp hk with z | z
    · exact ha k z
    · have z : k = p.1 := by simpa using z
      rw [z]
      have q := ho p List.mem_cons_self
      exact ⟨q.1, q.2.1⟩
/-- [table[place_in_table(count, one, other)][0] for other in found] -/
theorem lc_fresh {K : PySem.W.Frag} {c one : Int} {s t : List (Int × Int)} (ok : MxOk c s t) (h1 : 0 ≤ one ∧ one < c) {Kn : List D → Sto → Prop} {env : DEnv} (he : 9 < env.length) (e0 : env[0]? = some (some (.int c))) (e2 : env[2]? = some (some (.tup (t.map pD)))) (e5 : env[5]? = some (some (.int one))) :
    ∀ (l : List Int) (acc : List Int) (st : Sto), (∀ k ∈ l, 0 ≤ k ∧ k < c) → acc.length + l.length ≤ 60 → (∀ k ∈ acc, 0 ≤ k ∧ k < c) → (∀ ks : List Int, ks.length = acc.length + l.length → (∀ k ∈ ks, 0 ≤ k ∧ k < c) → Kn (ks.map D.int) st) →
    lcL (tg1 9) wYes (wOp gIx (wOp gIx (wVar 2) (wCallN 3 (sp_place_in_table K) (wCons (wVar 0) (wCons (wVar 5) (wCons (wVar 9) wNil))))) (wC (.int 0))) env Kn (l.map D.int) (acc.map D.int) st
  | [], acc, st, _, _, ha, h => h acc (by simp) ha
  | k :: l, acc, st, ho, hl, ha, h => by
    rw [List.map_cons]
    unfold lcL
    have hk := ho k List.mem_cons_self
    obtain ⟨p, q1, q2, q3, q4⟩ := tab_get ok h1.1 h1.2 hk.1 hk.2
    have := ok.c8
    simp only [tg1, wYes, wOp, wVar, wCallN, wCall, wCons, wNil, wC]
    rw [List.getElem?_set_ne (by decide), e2]
    dsimp only
    rw [List.getElem?_set_ne (by decide), e0]
    dsimp only
    rw [List.getElem?_set_ne (by decide), e5]
    dsimp only
    rw [List.getElem?_set_self (by omega)]
    dsimp only
    refine ⟨rfl, c, one, k, rfl, ⟨by omega, by omega, by omega, by omega, by omega, by omega⟩, ix_pD q2 q1 ?_⟩
    unfold pD
    refine ix_tup (by decide) rfl ?_
    have e : acc.map D.int ++ [D.int p.1] = (acc ++ [p.1]).map D.int := by rw [List.map_append]; rfl
    rw [List.length_cons] at hl
    refine ⟨by rw [List.length_map, sizeLine_eq]; omega, ?_⟩
    rw [e]
    refine lc_fresh ok h1 he e0 e2 e5 l (acc ++ [p.1]) st (fun q hq => ho q (List.mem_cons_of_mem _ hq)) (by rw [List.length_append, List.length_cons, List.length_nil]; omega) (fun k hk => ?_) fun ks hk hb => h ks (by rw [hk, List.length_append, List.length_cons, List.length_nil, List.length_cons]; omega) hb
    rcases List.mem_append.mp hk with z | z
    · exact ha k z
    · have z : k = p.1 := by simpa using z
      rw [z]
      exact ⟨q4.1, q4.2.1⟩
/-- what found is -/
structure Fnd (c : Int) (ms : List Int) : Prop where
  pw : ms.Pairwise (· < ·)
  rg : ∀ k ∈ ms, 0 ≤ k ∧ k < c
theorem Fnd.len {c : Int} {ms : List Int} (h : Fnd c ms) (h8 : c ≤ 8) (h1 : 1 ≤ c) : ms.length ≤ 8 := by
  have q := sort_bound ms 0 h.pw h.rg
  omega
abbrev bAr (K : PySem.W.Frag) : WS := (wSeq (wAsg (wLcL (wVar 3) (tg1 9) wYes (wOp gIx (wOp gIx (wVar 2) (wCallN 3 (sp_place_in_table K) (wCons (wVar 0) (wCons (wVar 5) (wCons (wVar 9) wNil))))) (wC (.int 0))) [9]) (dgN 6)) (wAsg (wSortSet (wOp gAdd (wVar 3) (wVar 6))) (dgN 3)))
theorem loop_arise {K : PySem.W.Frag} {c : Int} {s t : List (Int × Int)} (ok : MxOk c s t) {DD : DEnds} {st : Sto} {bf : Int} {e1 e7 e8 : Option D} : ∀ (l ms : List Int) (o f g : Option D), (∀ k ∈ l, 0 ≤ k ∧ k < c) → Fnd c ms →
    (∀ (ms' : List Int) (o f g : Option D), Fnd c ms' → (∀ x ∈ ms, x ∈ ms') → DD.nx [some (.int c), e1, some (.tup (t.map pD)), some (.lst (ms'.map D.int)), some (.int bf), o, f, e7, e8, g] st) →
    forL (dgN 5) (bAr K) DD (l.map D.int) [some (.int c), e1, some (.tup (t.map pD)), some (.lst (ms.map D.int)), some (.int bf), o, f, e7, e8, g] st
  | [], ms, o, f, g, _, F, h => h ms o f g F fun x hx => hx
  | one :: l, ms, o, f, g, hl, F, h => by
    rw [List.map_cons]
    unfold forL
    simp only [startD, endsD, wRet, wRetN, wAndV, wOrV, wNotV, wCB, wCons, wNil, wVar, wC, wChain, wOp, wUn, wIf, wIfE, wTv, wTru, wNot, wAnd, wOr, wSeq, wNext, wAsg, wDrop, dgN, dgT, dgCons, dgNil, dgSub, dgFldC, wPar, wTup, wLst, wLstC, wFldC, wSetFC, wMeth, wMake, wCall, wSl, wNoPart, wPart, wStar, wLenO, wTruO, wReprO, wBoolO, wCallN, wMakeN, wMethN, wFmt, wFS, wJs, wDNew, wDGet, wDPut, wBMl, wCallV, wCallE, gI20, gI2, gNeg, g1I, g2I, gNotN, gIsN, gIsB, D.isNon, sAdd1, sAdd2, sAdd3, sAdd4, sMul1, sMulT, sLen1, sLen2, sLen3, sInt1, sInt2, sTup1, sTup2, sLst1, sLst2, sSl1, sSl2, sSl3, sTru1, sTru2, sTru3, sTru4, sDvm, List.map, List.length_cons, List.length_nil, List.replicate, List.cons_append, List.nil_append, List.append_nil, List.getElem?_cons_zero, List.getElem?_cons_succ, List.set_cons_zero, List.set_cons_succ, DL.eq_int, DL.ne_int, eq_str, ne_str, Bool.not_true, Bool.not_false, decide_true, decide_false, true_and, and_true, if_true, if_false, Bool.false_eq_true, ex_some]
    simp only [wLcL, lcGo]
    simp only [startD, endsD, wRet, wRetN, wAndV, wOrV, wNotV, wCB, wCons, wNil, wVar, wC, wChain, wOp, wUn, wIf, wIfE, wTv, wTru, wNot, wAnd, wOr, wSeq, wNext, wAsg, wDrop, dgN, dgT, dgCons, dgNil, dgSub, dgFldC, wPar, wTup, wLst, wLstC, wFldC, wSetFC, wMeth, wMake, wCall, wSl, wNoPart, wPart, wStar, wLenO, wTruO, wReprO, wBoolO, wCallN, wMakeN, wMethN, wFmt, wFS, wJs, wDNew, wDGet, wDPut, wBMl, wCallV, wCallE, gI20, gI2, gNeg, g1I, g2I, gNotN, gIsN, gIsB, D.isNon, sAdd1, sAdd2, sAdd3, sAdd4, sMul1, sMulT, sLen1, sLen2, sLen3, sInt1, sInt2, sTup1, sTup2, sLst1, sLst2, sSl1, sSl2, sSl3, sTru1, sTru2, sTru3, sTru4, sDvm, List.map, List.length_cons, List.length_nil, List.replicate, List.cons_append, List.nil_append, List.append_nil, List.getElem?_cons_zero, List.getElem?_cons_succ, List.set_cons_zero, List.set_cons_succ, DL.eq_int, DL.ne_int, eq_str, ne_str, Bool.not_true, Bool.not_false, decide_true, decide_false, true_and, and_true, if_true, if_false, Bool.false_eq_true, ex_some]
    have h1 := hl one List.mem_cons_self
    have c1 := ok.c1
    have c8 := ok.c8
    have ml := F.len c8 c1
    refine lc_fresh ok h1 (by exact (by decide : 9 < 10)) rfl rfl rfl ms [] st F.rg (by simp; omega) (fun k hk => absurd hk (by simp)) fun ks hk hb => ?_
    simp only [wSortSet]
    simp only [startD, endsD, wRet, wRetN, wAndV, wOrV, wNotV, wCB, wCons, wNil, wVar, wC, wChain, wOp, wUn, wIf, wIfE, wTv, wTru, wNot, wAnd, wOr, wSeq, wNext, wAsg, wDrop, dgN, dgT, dgCons, dgNil, dgSub, dgFldC, wPar, wTup, wLst, wLstC, wFldC, wSetFC, wMeth, wMake, wCall, wSl, wNoPart, wPart, wStar, wLenO, wTruO, wReprO, wBoolO, wCallN, wMakeN, wMethN, wFmt, wFS, wJs, wDNew, wDGet, wDPut, wBMl, wCallV, wCallE, gI20, gI2, gNeg, g1I, g2I, gNotN, gIsN, gIsB, D.isNon, sAdd1, sAdd2, sAdd3, sAdd4, sMul1, sMulT, sLen1, sLen2, sLen3, sInt1, sInt2, sTup1, sTup2, sLst1, sLst2, sSl1, sSl2, sSl3, sTru1, sTru2, sTru3, sTru4, sDvm, List.map, List.length_cons, List.length_nil, List.replicate, List.cons_append, List.nil_append, List.append_nil, List.getElem?_cons_zero, List.getElem?_cons_succ, List.set_cons_zero, List.set_cons_succ, DL.eq_int, DL.ne_int, eq_str, ne_str, Bool.not_true, Bool.not_false, decide_true, decide_false, true_and, and_true, if_true, if_false, Bool.false_eq_true, ex_some]
    rw [List.length_nil, Nat.zero_add] at hk
    refine ⟨?_, ?_⟩
    · simp only [List.length_map]; exact sl_small (by omega)
    · simp only [gSortSet, lsOf]
      rw [intsOf_app]
      refine ⟨by rw [List.length_append]; omega, fun ms2 pw hm hlen => ?_⟩
      have F2 : Fnd c ms2 := ⟨pw, fun k hk2 => by
        rcases List.mem_append.mp ((hm k).mp hk2) with z | z
        · exact F.rg k z
        · exact hb k z⟩
      refine loop_arise ok l ms2 _ _ _ (fun k hk2 => hl k (List.mem_cons_of_mem _ hk2)) F2 fun ms' o f g F' hs => h ms' o f g F' fun x hx => hs x ((hm x).mpr (List.mem_append_left _ hx))
theorem pure_arising {K : PySem.W.Frag} (T : TP K) : Pu_arising K := by
  rintro ds st Kn Kx - ⟨c, s, t, rfl, ok, h⟩
  have c1 := ok.c1
  have c8 := ok.c8
  simp only [startD, endsD, wRet, wRetN, wAndV, wOrV, wNotV, wCB, wCons, wNil, wVar, wC, wChain, wOp, wUn, wIf, wIfE, wTv, wTru, wNot, wAnd, wOr, wSeq, wNext, wAsg, wDrop, dgN, dgT, dgCons, dgNil, dgSub, dgFldC, wPar, wTup, wLst, wLstC, wFldC, wSetFC, wMeth, wMake, wCall, wSl, wNoPart, wPart, wStar, wLenO, wTruO, wReprO, wBoolO, wCallN, wMakeN, wMethN, wFmt, wFS, wJs, wDNew, wDGet, wDPut, wBMl, wCallV, wCallE, gI20, gI2, gNeg, g1I, g2I, gNotN, gIsN, gIsB, D.isNon, sAdd1, sAdd2, sAdd3, sAdd4, sMul1, sMulT, sLen1, sLen2, sLen3, sInt1, sInt2, sTup1, sTup2, sLst1, sLst2, sSl1, sSl2, sSl3, sTru1, sTru2, sTru3, sTru4, sDvm, List.map, List.length_cons, List.length_nil, List.replicate, List.cons_append, List.nil_append, List.append_nil, List.getElem?_cons_zero, List.getElem?_cons_succ, List.set_cons_zero, List.set_cons_succ, DL.eq_int, DL.ne_int, eq_str, ne_str, Bool.not_true, Bool.not_false, decide_true, decide_false, true_and, and_true, if_true, if_false, Bool.false_eq_true, ex_some]
  simp only [wSortSet, wLc, lcGo]
  simp only [startD, endsD, wRet, wRetN, wAndV, wOrV, wNotV, wCB, wCons, wNil, wVar, wC, wChain, wOp, wUn, wIf, wIfE, wTv, wTru, wNot, wAnd, wOr, wSeq, wNext, wAsg, wDrop, dgN, dgT, dgCons, dgNil, dgSub, dgFldC, wPar, wTup, wLst, wLstC, wFldC, wSetFC, wMeth, wMake, wCall, wSl, wNoPart, wPart, wStar, wLenO, wTruO, wReprO, wBoolO, wCallN, wMakeN, wMethN, wFmt, wFS, wJs, wDNew, wDGet, wDPut, wBMl, wCallV, wCallE, gI20, gI2, gNeg, g1I, g2I, gNotN, gIsN, gIsB, D.isNon, sAdd1, sAdd2, sAdd3, sAdd4, sMul1, sMulT, sLen1, sLen2, sLen3, sInt1, sInt2, sTup1, sTup2, sLst1, sLst2, sSl1, sSl2, sSl3, sTru1, sTru2, sTru3, sTru4, sDvm, List.map, List.length_cons, List.length_nil, List.replicate, List.cons_append, List.nil_append, List.append_nil, List.getElem?_cons_zero, List.getElem?_cons_succ, List.set_cons_zero, List.set_cons_succ, DL.eq_int, DL.ne_int, eq_str, ne_str, Bool.not_true, Bool.not_false, decide_true, decide_false, true_and, and_true, if_true, if_false, Bool.false_eq_true, ex_some]
  have := ok.s3
  refine lc_starts (by exact (by decide : 9 < 10)) s [] st ok.so (by simpa using (by omega : s.length ≤ 60)) (fun k hk => absurd hk (by simp)) fun ks hk hb => ?_
  rw [List.length_nil, Nat.zero_add] at hk
  simp only [gSortSet, lsOf]
  rw [intsOf_map]
  refine ⟨by omega, fun ms pw hm hlen => ?_⟩
  have F0 : Fnd c ms := ⟨pw, fun k hk => hb k ((hm k).mp hk)⟩
  refine ⟨fun n env st1 => st1 = st ∧ ∃ (ms : List Int) (bf : Int) (o f g e7 e8 : Option D), env = [some (.int c), some (.tup (s.map pD)), some (.tup (t.map pD)), some (.lst (ms.map D.int)), some (.int bf), o, f, e7, e8, g] ∧ Fnd c ms ∧ 0 ≤ bf ∧ bf ≤ ms.length ∧ n = 9 - bf.toNat,
    ⟨_, rfl, ms, 0, _, _, _, _, _, rfl, F0, Int.le_refl _, by omega, rfl⟩, ?_⟩
  rintro n env st1 ⟨rfl, ms, bf, o, f, g, e7, e8, rfl, F, b0, bl, rfl⟩
  have ml := F.len c8 c1
  simp only [startD, endsD, wRet, wRetN, wAndV, wOrV, wNotV, wCB, wCons, wNil, wVar, wC, wChain, wOp, wUn, wIf, wIfE, wTv, wTru, wNot, wAnd, wOr, wSeq, wNext, wAsg, wDrop, dgN, dgT, dgCons, dgNil, dgSub, dgFldC, wPar, wTup, wLst, wLstC, wFldC, wSetFC, wMeth, wMake, wCall, wSl, wNoPart, wPart, wStar, wLenO, wTruO, wReprO, wBoolO, wCallN, wMakeN, wMethN, wFmt, wFS, wJs, wDNew, wDGet, wDPut, wBMl, wCallV, wCallE, gI20, gI2, gNeg, g1I, g2I, gNotN, gIsN, gIsB, D.isNon, sAdd1, sAdd2, sAdd3, sAdd4, sMul1, sMulT, sLen1, sLen2, sLen3, sInt1, sInt2, sTup1, sTup2, sLst1, sLst2, sSl1, sSl2, sSl3, sTru1, sTru2, sTru3, sTru4, sDvm, List.map, List.length_cons, List.length_nil, List.replicate, List.cons_append, List.nil_append, List.append_nil, List.getElem?_cons_zero, List.getElem?_cons_succ, List.set_cons_zero, List.set_cons_succ, DL.eq_int, DL.ne_int, eq_str, ne_str, Bool.not_true, Bool.not_false, decide_true, decide_false, true_and, and_true, if_true, if_false, Bool.false_eq_true, ex_some]
  rw [List.length_map]
  by_cases e : bf = (ms.length : Int)
  · rw [show (!(bf == (ms.length : Int))) = false by simp [e]]
    simp only [startD, endsD, wRet, wRetN, wAndV, wOrV, wNotV, wCB, wCons, wNil, wVar, wC, wChain, wOp, wUn, wIf, wIfE, wTv, wTru, wNot, wAnd, wOr, wSeq, wNext, wAsg, wDrop, dgN, dgT, dgCons, dgNil, dgSub, dgFldC, wPar, wTup, wLst, wLstC, wFldC, wSetFC, wMeth, wMake, wCall, wSl, wNoPart, wPart, wStar, wLenO, wTruO, wReprO, wBoolO, wCallN, wMakeN, wMethN, wFmt, wFS, wJs, wDNew, wDGet, wDPut, wBMl, wCallV, wCallE, gI20, gI2, gNeg, g1I, g2I, gNotN, gIsN, gIsB, D.isNon, sAdd1, sAdd2, sAdd3, sAdd4, sMul1, sMulT, sLen1, sLen2, sLen3, sInt1, sInt2, sTup1, sTup2, sLst1, sLst2, sSl1, sSl2, sSl3, sTru1, sTru2, sTru3, sTru4, sDvm, List.map, List.length_cons, List.length_nil, List.replicate, List.cons_append, List.nil_append, List.append_nil, List.getElem?_cons_zero, List.getElem?_cons_succ, List.set_cons_zero, List.set_cons_succ, DL.eq_int, DL.ne_int, eq_str, ne_str, Bool.not_true, Bool.not_false, decide_true, decide_false, true_and, and_true, if_true, if_false, Bool.false_eq_true, ex_some]
    exact h ms
  · rw [show (!(bf == (ms.length : Int))) = true by simp [e]]
    simp only [startD, endsD, wRet, wRetN, wAndV, wOrV, wNotV, wCB, wCons, wNil, wVar, wC, wChain, wOp, wUn, wIf, wIfE, wTv, wTru, wNot, wAnd, wOr, wSeq, wNext, wAsg, wDrop, dgN, dgT, dgCons, dgNil, dgSub, dgFldC, wPar, wTup, wLst, wLstC, wFldC, wSetFC, wMeth, wMake, wCall, wSl, wNoPart, wPart, wStar, wLenO, wTruO, wReprO, wBoolO, wCallN, wMakeN, wMethN, wFmt, wFS, wJs, wDNew, wDGet, wDPut, wBMl, wCallV, wCallE, gI20, gI2, gNeg, g1I, g2I, gNotN, gIsN, gIsB, D.isNon, sAdd1, sAdd2, sAdd3, sAdd4, sMul1, sMulT, sLen1, sLen2, sLen3, sInt1, sInt2, sTup1, sTup2, sLst1, sLst2, sSl1, sSl2, sSl3, sTru1, sTru2, sTru3, sTru4, sDvm, List.map, List.length_cons, List.length_nil, List.replicate, List.cons_append, List.nil_append, List.append_nil, List.getElem?_cons_zero, List.getElem?_cons_succ, List.set_cons_zero, List.set_cons_succ, DL.eq_int, DL.ne_int, eq_str, ne_str, Bool.not_true, Bool.not_false, decide_true, decide_false, true_and, and_true, if_true, if_false, Bool.false_eq_true, ex_some]
    simp only [wForL]
    simp only [startD, endsD, wRet, wRetN, wAndV, wOrV, wNotV, wCB, wCons, wNil, wVar, wC, wChain, wOp, wUn, wIf, wIfE, wTv, wTru, wNot, wAnd, wOr, wSeq, wNext, wAsg, wDrop, dgN, dgT, dgCons, dgNil, dgSub, dgFldC, wPar, wTup, wLst, wLstC, wFldC, wSetFC, wMeth, wMake, wCall, wSl, wNoPart, wPart, wStar, wLenO, wTruO, wReprO, wBoolO, wCallN, wMakeN, wMethN, wFmt, wFS, wJs, wDNew, wDGet, wDPut, wBMl, wCallV, wCallE, gI20, gI2, gNeg, g1I, g2I, gNotN, gIsN, gIsB, D.isNon, sAdd1, sAdd2, sAdd3, sAdd4, sMul1, sMulT, sLen1, sLen2, sLen3, sInt1, sInt2, sTup1, sTup2, sLst1, sLst2, sSl1, sSl2, sSl3, sTru1, sTru2, sTru3, sTru4, sDvm, List.map, List.length_cons, List.length_nil, List.replicate, List.cons_append, List.nil_append, List.append_nil, List.getElem?_cons_zero, List.getElem?_cons_succ, List.set_cons_zero, List.set_cons_succ, DL.eq_int, DL.ne_int, eq_str, ne_str, Bool.not_true, Bool.not_false, decide_true, decide_false, true_and, and_true, if_true, if_false, Bool.false_eq_true, ex_some]
    refine loop_arise ok ms ms _ _ _ F.rg F fun ms' o f g F' hs => ?_
    refine ⟨9 - ms.length, by omega, rfl, ms', ms.length, o, f, g, e7, e8, rfl, F', by omega, ?_, by simp⟩
    have := sub_length ms ms' F.pw F'.pw hs
    omega
end GV

namespace GV
open PySem PySem.Spec PyProof.Rows L2 DL
variable [Tb]
section
variable {a : Addr} {p : Ph} {l : List Ph} {b : Bool}
theorem pt_mix : List.lookup ("mixture" : Str) (potF a p l b) = some (.ref a) := rfl
theorem pt_kinds : List.lookup ("kinds" : Str) (potF a p l b) = some (.tup (p.ks.map D.int)) := rfl
theorem pt_given : List.lookup ("given" : Str) (potF a p l b) = some (.int p.g) := rfl
theorem pt_amounts : List.lookup ("amounts" : Str) (potF a p l b) = some (.tup (p.am.map D.int)) := rfl
theorem pt_past : List.lookup ("past" : Str) (potF a p l b) = some (.tup (l.map phD)) := rfl
theorem pt_busy : List.lookup ("busy" : Str) (potF a p l b) = some (.bl b) := rfl
def potR (a k g m p b : D) : List (Str × D) := [("mixture", a), ("kinds", k), ("given", g), ("amounts", m), ("past", p), ("busy", b)]
theorem potF_R : potF a p l b = potR (.ref a) (.tup (p.ks.map D.int)) (.int p.g) (.tup (p.am.map D.int)) (.tup (l.map phD)) (.bl b) := rfl
end
section
variable {a k g m p b d : D}
theorem pr_len : (potR a k g m p b).length < 1000 := by exact (by decide : (6 : Nat) < 1000)
theorem pr_mix : List.lookup ("mixture" : Str) (potR a k g m p b) = some a := rfl
theorem pr_kinds : List.lookup ("kinds" : Str) (potR a k g m p b) = some k := rfl
theorem pr_given : List.lookup ("given" : Str) (potR a k g m p b) = some g := rfl
theorem pr_amounts : List.lookup ("amounts" : Str) (potR a k g m p b) = some m := rfl
theorem pr_past : List.lookup ("past" : Str) (potR a k g m p b) = some p := rfl
theorem pr_busy : List.lookup ("busy" : Str) (potR a k g m p b) = some b := rfl
theorem pp_kinds : putD "kinds" d (potR a k g m p b) = potR a d g m p b := rfl
theorem pp_given : putD "given" d (potR a k g m p b) = potR a k d m p b := rfl
theorem pp_amounts : putD "amounts" d (potR a k g m p b) = potR a k g d p b := rfl
theorem pp_past : putD "past" d (potR a k g m p b) = potR a k g m d b := rfl
theorem pp_busy : putD "busy" d (potR a k g m p b) = potR a k g m p d := rfl
end
theorem ix_last {xs : List D} {d : D} {st : Sto} {Kn : KD} (k : Kn d st) : gIx (.tup (xs ++ [d])) (.int (-1)) st Kn := by
  show (match L2.atI (xs ++ [d]) (-1) with
    | some d => Kn d st
    | none => False)
  have e : L2.atI (xs ++ [d]) (-1) = some d := by
    unfold L2.atI
    have e : L2.ixN (xs ++ [d]).length (-1) = some xs.length := by
      unfold L2.ixN
      rw [if_neg (by decide), if_pos (by rw [List.length_append, List.length_cons, List.length_nil]; omega)]
      congr 1
      rw [List.length_append, List.length_cons, List.length_nil]; omega
    rw [e]
    show (xs ++ [d])[xs.length]? = some d
    rw [List.getElem?_append_right (Nat.le_refl _), Nat.sub_self]; rfl
  rw [e]; exact k
theorem cut_last {xs : List D} {d : D} : DL.cutD (xs ++ [d]) none (some (-1)) = xs := by
  unfold DL.cutD
  have e1 : HT.sIx (xs ++ [d]).length 0 none = 0 := by unfold HT.sIx; rfl
  have e2 : HT.sIx (xs ++ [d]).length (xs ++ [d]).length (some (-1)) = xs.length := by
    rw [List.length_append, List.length_cons, List.length_nil]
    unfold HT.sIx
    first
      | (simp; omega)
      | (split <;> omega)
      | omega
  rw [e1, e2]; simp
theorem pure_PotX_initX {K : PySem.W.Frag} (T : TP K) : Pu_PotX_initX K := by
  rintro ds st Kn Kx - ⟨p, a, m, rfl, l, mx, h⟩
  have ne : a ≠ p := fun e => by
    have q := mx.1
    unfold mixC at q
    rw [e, l] at q
    have q2 : (0 : Nat) = 5 := congrArg (fun z : Option Cell => match z with | some (.ins _ fs) => fs.length | _ => 0) q
    exact absurd q2 (by decide)
  have s1 := mx.2.s1
  have s3 := mx.2.s3
  have mxl := mx.1
  unfold mixC at mxl
  simp only [startD, endsD, wRet, wRetN, wAndV, wOrV, wNotV, wCB, wCons, wNil, wVar, wC, wChain, wOp, wUn, wIf, wIfE, wTv, wTru, wNot, wAnd, wOr, wSeq, wNext, wAsg, wDrop, dgN, dgT, dgCons, dgNil, dgSub, dgFldC, wPar, wTup, wLst, wLstC, wFldC, wSetFC, wMeth, wMake, wCall, wSl, wNoPart, wPart, wStar, wLenO, wTruO, wReprO, wBoolO, wCallN, wMakeN, wMethN, wFmt, wFS, wJs, wDNew, wDGet, wDPut, wBMl, wCallV, wCallE, gI20, gI2, gNeg, g1I, g2I, gNotN, gIsN, gIsB, D.isNon, sAdd1, sAdd2, sAdd3, sAdd4, sMul1, sMulT, sLen1, sLen2, sLen3, sInt1, sInt2, sTup1, sTup2, sLst1, sLst2, sSl1, sSl2, sSl3, sTru1, sTru2, sTru3, sTru4, sDvm, List.map, List.length_cons, List.length_nil, List.replicate, List.cons_append, List.nil_append, List.append_nil, List.getElem?_cons_zero, List.getElem?_cons_succ, List.set_cons_zero, List.set_cons_succ, DL.eq_int, DL.ne_int, eq_str, ne_str, Bool.not_true, Bool.not_false, decide_true, decide_false, true_and, and_true, if_true, if_false, Bool.false_eq_true, ex_some]
  refine ⟨a, m, rfl, mx, ?_⟩
  refine ⟨_, _, ⟨rfl, l, (by first | exact (by decide : (0 : Nat) < 1000) | exact (by decide : (1 : Nat) < 1000) | exact (by decide : (2 : Nat) < 1000) | exact (by decide : (3 : Nat) < 1000) | exact (by decide : (4 : Nat) < 1000) | exact (by decide : (5 : Nat) < 1000) | exact (by decide : (6 : Nat) < 1000) | exact (by decide : (7 : Nat) < 1000) | exact (by decide : (8 : Nat) < 1000))⟩, sl_small (by decide), _, _, ⟨rfl, put_lookup l, (by first | exact (by decide : (0 : Nat) < 1000) | exact (by decide : (1 : Nat) < 1000) | exact (by decide : (2 : Nat) < 1000) | exact (by decide : (3 : Nat) < 1000) | exact (by decide : (4 : Nat) < 1000) | exact (by decide : (5 : Nat) < 1000) | exact (by decide : (6 : Nat) < 1000) | exact (by decide : (7 : Nat) < 1000) | exact (by decide : (8 : Nat) < 1000))⟩, ?_⟩
  simp only [put_put]
  refine ⟨_, _, ⟨rfl, put_lookup l, (by first | exact (by decide : (0 : Nat) < 1000) | exact (by decide : (1 : Nat) < 1000) | exact (by decide : (2 : Nat) < 1000) | exact (by decide : (3 : Nat) < 1000) | exact (by decide : (4 : Nat) < 1000) | exact (by decide : (5 : Nat) < 1000) | exact (by decide : (6 : Nat) < 1000) | exact (by decide : (7 : Nat) < 1000) | exact (by decide : (8 : Nat) < 1000))⟩, sl_small (by decide), ?_⟩
  simp only [put_put]
  rw [fldOf_ins (fs := mxF m) (by rw [put_other ne]; exact mxl), mx_starts]
  simp only [startD, endsD, wRet, wRetN, wAndV, wOrV, wNotV, wCB, wCons, wNil, wVar, wC, wChain, wOp, wUn, wIf, wIfE, wTv, wTru, wNot, wAnd, wOr, wSeq, wNext, wAsg, wDrop, dgN, dgT, dgCons, dgNil, dgSub, dgFldC, wPar, wTup, wLst, wLstC, wFldC, wSetFC, wMeth, wMake, wCall, wSl, wNoPart, wPart, wStar, wLenO, wTruO, wReprO, wBoolO, wCallN, wMakeN, wMethN, wFmt, wFS, wJs, wDNew, wDGet, wDPut, wBMl, wCallV, wCallE, gI20, gI2, gNeg, g1I, g2I, gNotN, gIsN, gIsB, D.isNon, sAdd1, sAdd2, sAdd3, sAdd4, sMul1, sMulT, sLen1, sLen2, sLen3, sInt1, sInt2, sTup1, sTup2, sLst1, sLst2, sSl1, sSl2, sSl3, sTru1, sTru2, sTru3, sTru4, sDvm, List.map, List.length_cons, List.length_nil, List.replicate, List.cons_append, List.nil_append, List.append_nil, List.getElem?_cons_zero, List.getElem?_cons_succ, List.set_cons_zero, List.set_cons_succ, DL.eq_int, DL.ne_int, eq_str, ne_str, Bool.not_true, Bool.not_false, decide_true, decide_false, true_and, and_true, if_true, if_false, Bool.false_eq_true, ex_some]
  rw [List.length_map]
  refine ⟨⟨by simp, by decide, by omega, by omega⟩, ?_⟩
  refine ⟨_, _, ⟨rfl, put_lookup l, (by first | exact (by decide : (0 : Nat) < 1000) | exact (by decide : (1 : Nat) < 1000) | exact (by decide : (2 : Nat) < 1000) | exact (by decide : (3 : Nat) < 1000) | exact (by decide : (4 : Nat) < 1000) | exact (by decide : (5 : Nat) < 1000) | exact (by decide : (6 : Nat) < 1000) | exact (by decide : (7 : Nat) < 1000) | exact (by decide : (8 : Nat) < 1000))⟩, sl_small (by decide), ?_⟩
  simp only [put_put]
  refine ⟨_, _, ⟨rfl, put_lookup l, (by first | exact (by decide : (0 : Nat) < 1000) | exact (by decide : (1 : Nat) < 1000) | exact (by decide : (2 : Nat) < 1000) | exact (by decide : (3 : Nat) < 1000) | exact (by decide : (4 : Nat) < 1000) | exact (by decide : (5 : Nat) < 1000) | exact (by decide : (6 : Nat) < 1000) | exact (by decide : (7 : Nat) < 1000) | exact (by decide : (8 : Nat) < 1000))⟩, _, _, ⟨rfl, put_lookup (put_lookup l), (by first | exact (by decide : (0 : Nat) < 1000) | exact (by decide : (1 : Nat) < 1000) | exact (by decide : (2 : Nat) < 1000) | exact (by decide : (3 : Nat) < 1000) | exact (by decide : (4 : Nat) < 1000) | exact (by decide : (5 : Nat) < 1000) | exact (by decide : (6 : Nat) < 1000) | exact (by decide : (7 : Nat) < 1000) | exact (by decide : (8 : Nat) < 1000))⟩, ?_⟩
  simp only [put_put]
  have e : (List.replicate m.st.length (0 : Int)).map D.int = (List.replicate ((m.st.length : Nat) : Int).toNat [D.int 0]).flatten := by
    rw [Int.toNat_natCast, List.map_replicate]
    generalize m.st.length = n
    induction n with
    | zero => rfl
    | succ n ih => rw [List.replicate_succ, List.replicate_succ, List.flatten_cons, ih]; rfl
  unfold potC potF at h
  rw [e] at h
  exact h
theorem pure_Pot_become {K : PySem.W.Frag} (T : TP K) : Pu_Pot_become K := by
  rintro ds st Kn Kx - ⟨p, a, ph, past, b, ks, g, am, rfl, l, hl, h⟩
  unfold potC at l
  simp only [startD, endsD, wRet, wRetN, wAndV, wOrV, wNotV, wCB, wCons, wNil, wVar, wC, wChain, wOp, wUn, wIf, wIfE, wTv, wTru, wNot, wAnd, wOr, wSeq, wNext, wAsg, wDrop, dgN, dgT, dgCons, dgNil, dgSub, dgFldC, wPar, wTup, wLst, wLstC, wFldC, wSetFC, wMeth, wMake, wCall, wSl, wNoPart, wPart, wStar, wLenO, wTruO, wReprO, wBoolO, wCallN, wMakeN, wMethN, wFmt, wFS, wJs, wDNew, wDGet, wDPut, wBMl, wCallV, wCallE, gI20, gI2, gNeg, g1I, g2I, gNotN, gIsN, gIsB, D.isNon, sAdd1, sAdd2, sAdd3, sAdd4, sMul1, sMulT, sLen1, sLen2, sLen3, sInt1, sInt2, sTup1, sTup2, sLst1, sLst2, sSl1, sSl2, sSl3, sTru1, sTru2, sTru3, sTru4, sDvm, List.map, List.length_cons, List.length_nil, List.replicate, List.cons_append, List.nil_append, List.append_nil, List.getElem?_cons_zero, List.getElem?_cons_succ, List.set_cons_zero, List.set_cons_succ, DL.eq_int, DL.ne_int, eq_str, ne_str, Bool.not_true, Bool.not_false, decide_true, decide_false, true_and, and_true, if_true, if_false, Bool.false_eq_true, ex_some, fldOf_ins l, pt_past, pt_kinds, pt_given, pt_amounts]
  refine ⟨sl_small (by decide), sl_small ?_, _, _, ⟨rfl, l, (by first | exact (by decide : (0 : Nat) < 1000) | exact (by decide : (1 : Nat) < 1000) | exact (by decide : (2 : Nat) < 1000) | exact (by decide : (3 : Nat) < 1000) | exact (by decide : (4 : Nat) < 1000) | exact (by decide : (5 : Nat) < 1000) | exact (by decide : (6 : Nat) < 1000) | exact (by decide : (7 : Nat) < 1000) | exact (by decide : (8 : Nat) < 1000))⟩, sl_small (by decide), ?_⟩
  · rw [List.length_append, List.length_map, List.length_cons, List.length_nil]; omega
  · rw [potF_R] at *
    refine ⟨_, _, ⟨rfl, put_lookup l, pr_len⟩, ?_⟩
    simp only [put_put, pp_past]
    refine ⟨_, _, ⟨rfl, put_lookup l, pr_len⟩, ?_⟩
    simp only [put_put]
    refine ⟨_, _, ⟨rfl, put_lookup l, pr_len⟩, ?_⟩
    simp only [put_put]
    have e : (past ++ [ph]).map phD = past.map phD ++ [D.tup [D.tup (ph.ks.map D.int), D.int ph.g, D.tup (ph.am.map D.int)]] := by rw [List.map_append]; rfl
    unfold potC at h
    rw [potF_R, e] at h
    exact h
theorem pure_Pot_check_idle {K : PySem.W.Frag} (T : TP K) : Pu_Pot_check_idle K := by
  rintro ds st Kn Kx - ⟨p, a, ph, past, b, rfl, l, h⟩
  unfold potC at l
  simp only [startD, endsD, wRet, wRetN, wAndV, wOrV, wNotV, wCB, wCons, wNil, wVar, wC, wChain, wOp, wUn, wIf, wIfE, wTv, wTru, wNot, wAnd, wOr, wSeq, wNext, wAsg, wDrop, dgN, dgT, dgCons, dgNil, dgSub, dgFldC, wPar, wTup, wLst, wLstC, wFldC, wSetFC, wMeth, wMake, wCall, wSl, wNoPart, wPart, wStar, wLenO, wTruO, wReprO, wBoolO, wCallN, wMakeN, wMethN, wFmt, wFS, wJs, wDNew, wDGet, wDPut, wBMl, wCallV, wCallE, gI20, gI2, gNeg, g1I, g2I, gNotN, gIsN, gIsB, D.isNon, sAdd1, sAdd2, sAdd3, sAdd4, sMul1, sMulT, sLen1, sLen2, sLen3, sInt1, sInt2, sTup1, sTup2, sLst1, sLst2, sSl1, sSl2, sSl3, sTru1, sTru2, sTru3, sTru4, sDvm, List.map, List.length_cons, List.length_nil, List.replicate, List.cons_append, List.nil_append, List.append_nil, List.getElem?_cons_zero, List.getElem?_cons_succ, List.set_cons_zero, List.set_cons_succ, DL.eq_int, DL.ne_int, eq_str, ne_str, Bool.not_true, Bool.not_false, decide_true, decide_false, true_and, and_true, if_true, if_false, Bool.false_eq_true, ex_some, fldOf_ins l, pt_busy]
  cases b with
  | true => exact h
  | false => exact h
theorem pure_Pot_check_room {K : PySem.W.Frag} (T : TP K) : Pu_Pot_check_room K := by
  rintro ds st Kn Kx - ⟨p, a, ph, past, b, rfl, l, h⟩
  unfold potC at l
  simp only [startD, endsD, wRet, wRetN, wAndV, wOrV, wNotV, wCB, wCons, wNil, wVar, wC, wChain, wOp, wUn, wIf, wIfE, wTv, wTru, wNot, wAnd, wOr, wSeq, wNext, wAsg, wDrop, dgN, dgT, dgCons, dgNil, dgSub, dgFldC, wPar, wTup, wLst, wLstC, wFldC, wSetFC, wMeth, wMake, wCall, wSl, wNoPart, wPart, wStar, wLenO, wTruO, wReprO, wBoolO, wCallN, wMakeN, wMethN, wFmt, wFS, wJs, wDNew, wDGet, wDPut, wBMl, wCallV, wCallE, gI20, gI2, gNeg, g1I, g2I, gNotN, gIsN, gIsB, D.isNon, sAdd1, sAdd2, sAdd3, sAdd4, sMul1, sMulT, sLen1, sLen2, sLen3, sInt1, sInt2, sTup1, sTup2, sLst1, sLst2, sSl1, sSl2, sSl3, sTru1, sTru2, sTru3, sTru4, sDvm, List.map, List.length_cons, List.length_nil, List.replicate, List.cons_append, List.nil_append, List.append_nil, List.getElem?_cons_zero, List.getElem?_cons_succ, List.set_cons_zero, List.set_cons_succ, DL.eq_int, DL.ne_int, eq_str, ne_str, Bool.not_true, Bool.not_false, decide_true, decide_false, true_and, and_true, if_true, if_false, Bool.false_eq_true, ex_some, fldOf_ins l, pt_past]
  rw [List.length_map]
  by_cases e : past.length = 60
  · rw [if_pos e] at h
    rw [show (((past.length : Nat) : Int) == 60) = true by rw [e]; rfl]
    exact h
  · rw [if_neg e] at h
    rw [show (((past.length : Nat) : Int) == 60) = false by simp; omega]
    exact h
theorem pure_PotX_lenX {K : PySem.W.Frag} (T : TP K) : Pu_PotX_lenX K := by
  rintro ds st Kn Kx - ⟨p, a, ph, past, b, rfl, l, h⟩
  unfold potC at l
  simp only [startD, endsD, wRet, wRetN, wAndV, wOrV, wNotV, wCB, wCons, wNil, wVar, wC, wChain, wOp, wUn, wIf, wIfE, wTv, wTru, wNot, wAnd, wOr, wSeq, wNext, wAsg, wDrop, dgN, dgT, dgCons, dgNil, dgSub, dgFldC, wPar, wTup, wLst, wLstC, wFldC, wSetFC, wMeth, wMake, wCall, wSl, wNoPart, wPart, wStar, wLenO, wTruO, wReprO, wBoolO, wCallN, wMakeN, wMethN, wFmt, wFS, wJs, wDNew, wDGet, wDPut, wBMl, wCallV, wCallE, gI20, gI2, gNeg, g1I, g2I, gNotN, gIsN, gIsB, D.isNon, sAdd1, sAdd2, sAdd3, sAdd4, sMul1, sMulT, sLen1, sLen2, sLen3, sInt1, sInt2, sTup1, sTup2, sLst1, sLst2, sSl1, sSl2, sSl3, sTru1, sTru2, sTru3, sTru4, sDvm, List.map, List.length_cons, List.length_nil, List.replicate, List.cons_append, List.nil_append, List.append_nil, List.getElem?_cons_zero, List.getElem?_cons_succ, List.set_cons_zero, List.set_cons_succ, DL.eq_int, DL.ne_int, eq_str, ne_str, Bool.not_true, Bool.not_false, decide_true, decide_false, true_and, and_true, if_true, if_false, Bool.false_eq_true, ex_some, fldOf_ins l, pt_kinds]
  rw [List.length_map]
  exact h
theorem pure_Pot_put {K : PySem.W.Frag} (T : TP K) : Pu_Pot_put K := by
  rintro ds st Kn Kx - ⟨p, a, m, ph, past, b, v, rfl, P, ok, h⟩
  have l := P.l
  unfold potC at l
  simp only [startD, endsD, wRet, wRetN, wAndV, wOrV, wNotV, wCB, wCons, wNil, wVar, wC, wChain, wOp, wUn, wIf, wIfE, wTv, wTru, wNot, wAnd, wOr, wSeq, wNext, wAsg, wDrop, dgN, dgT, dgCons, dgNil, dgSub, dgFldC, wPar, wTup, wLst, wLstC, wFldC, wSetFC, wMeth, wMake, wCall, wSl, wNoPart, wPart, wStar, wLenO, wTruO, wReprO, wBoolO, wCallN, wMakeN, wMethN, wFmt, wFS, wJs, wDNew, wDGet, wDPut, wBMl, wCallV, wCallE, gI20, gI2, gNeg, g1I, g2I, gNotN, gIsN, gIsB, D.isNon, sAdd1, sAdd2, sAdd3, sAdd4, sMul1, sMulT, sLen1, sLen2, sLen3, sInt1, sInt2, sTup1, sTup2, sLst1, sLst2, sSl1, sSl2, sSl3, sTru1, sTru2, sTru3, sTru4, sDvm, List.map, List.length_cons, List.length_nil, List.replicate, List.cons_append, List.nil_append, List.append_nil, List.getElem?_cons_zero, List.getElem?_cons_succ, List.set_cons_zero, List.set_cons_succ, DL.eq_int, DL.ne_int, eq_str, ne_str, Bool.not_true, Bool.not_false, decide_true, decide_false, true_and, and_true, if_true, if_false, Bool.false_eq_true, ex_some, l]
  refine ⟨rfl, p, a, ph, past, b, rfl, P.l, ?_⟩
  cases b with
  | true => exact h
  | false =>
    rw [if_neg Bool.false_ne_true] at h ⊢
    simp only [l]
    exact ⟨⟨trivial, rfl⟩, p, a, m, ph, past, false, v, rfl, P, ok, h⟩
theorem pure_Pot_meet {K : PySem.W.Frag} (T : TP K) : Pu_Pot_meet K := by
  rintro ds st Kn Kx - ⟨p, a, m, ph, past, b, v, w, rfl, P, ok, h⟩
  have l := P.l
  unfold potC at l
  simp only [startD, endsD, wRet, wRetN, wAndV, wOrV, wNotV, wCB, wCons, wNil, wVar, wC, wChain, wOp, wUn, wIf, wIfE, wTv, wTru, wNot, wAnd, wOr, wSeq, wNext, wAsg, wDrop, dgN, dgT, dgCons, dgNil, dgSub, dgFldC, wPar, wTup, wLst, wLstC, wFldC, wSetFC, wMeth, wMake, wCall, wSl, wNoPart, wPart, wStar, wLenO, wTruO, wReprO, wBoolO, wCallN, wMakeN, wMethN, wFmt, wFS, wJs, wDNew, wDGet, wDPut, wBMl, wCallV, wCallE, gI20, gI2, gNeg, g1I, g2I, gNotN, gIsN, gIsB, D.isNon, sAdd1, sAdd2, sAdd3, sAdd4, sMul1, sMulT, sLen1, sLen2, sLen3, sInt1, sInt2, sTup1, sTup2, sLst1, sLst2, sSl1, sSl2, sSl3, sTru1, sTru2, sTru3, sTru4, sDvm, List.map, List.length_cons, List.length_nil, List.replicate, List.cons_append, List.nil_append, List.append_nil, List.getElem?_cons_zero, List.getElem?_cons_succ, List.set_cons_zero, List.set_cons_succ, DL.eq_int, DL.ne_int, eq_str, ne_str, Bool.not_true, Bool.not_false, decide_true, decide_false, true_and, and_true, if_true, if_false, Bool.false_eq_true, ex_some, l]
  refine ⟨rfl, p, a, ph, past, b, rfl, P.l, ?_⟩
  cases b with
  | true => exact h
  | false =>
    rw [if_neg Bool.false_ne_true] at h ⊢
    simp only [l]
    exact ⟨⟨trivial, rfl⟩, p, a, m, ph, past, false, v, w, rfl, P, ok, h⟩
theorem pure_Pot_undo {K : PySem.W.Frag} (T : TP K) : Pu_Pot_undo K := by
  rintro ds st Kn Kx - ⟨p, a, ph, past, b, rfl, l0, hl, h⟩
  have l := l0
  unfold potC at l
  simp only [startD, endsD, wRet, wRetN, wAndV, wOrV, wNotV, wCB, wCons, wNil, wVar, wC, wChain, wOp, wUn, wIf, wIfE, wTv, wTru, wNot, wAnd, wOr, wSeq, wNext, wAsg, wDrop, dgN, dgT, dgCons, dgNil, dgSub, dgFldC, wPar, wTup, wLst, wLstC, wFldC, wSetFC, wMeth, wMake, wCall, wSl, wNoPart, wPart, wStar, wLenO, wTruO, wReprO, wBoolO, wCallN, wMakeN, wMethN, wFmt, wFS, wJs, wDNew, wDGet, wDPut, wBMl, wCallV, wCallE, gI20, gI2, gNeg, g1I, g2I, gNotN, gIsN, gIsB, D.isNon, sAdd1, sAdd2, sAdd3, sAdd4, sMul1, sMulT, sLen1, sLen2, sLen3, sInt1, sInt2, sTup1, sTup2, sLst1, sLst2, sSl1, sSl2, sSl3, sTru1, sTru2, sTru3, sTru4, sDvm, List.map, List.length_cons, List.length_nil, List.replicate, List.cons_append, List.nil_append, List.append_nil, List.getElem?_cons_zero, List.getElem?_cons_succ, List.set_cons_zero, List.set_cons_succ, DL.eq_int, DL.ne_int, eq_str, ne_str, Bool.not_true, Bool.not_false, decide_true, decide_false, true_and, and_true, if_true, if_false, Bool.false_eq_true, ex_some, l]
  refine ⟨rfl, p, a, ph, past, b, rfl, l0, ?_⟩
  cases b with
  | true => exact h
  | false =>
    rw [if_neg Bool.false_ne_true] at h ⊢
    simp only [startD, endsD, wRet, wRetN, wAndV, wOrV, wNotV, wCB, wCons, wNil, wVar, wC, wChain, wOp, wUn, wIf, wIfE, wTv, wTru, wNot, wAnd, wOr, wSeq, wNext, wAsg, wDrop, dgN, dgT, dgCons, dgNil, dgSub, dgFldC, wPar, wTup, wLst, wLstC, wFldC, wSetFC, wMeth, wMake, wCall, wSl, wNoPart, wPart, wStar, wLenO, wTruO, wReprO, wBoolO, wCallN, wMakeN, wMethN, wFmt, wFS, wJs, wDNew, wDGet, wDPut, wBMl, wCallV, wCallE, gI20, gI2, gNeg, g1I, g2I, gNotN, gIsN, gIsB, D.isNon, sAdd1, sAdd2, sAdd3, sAdd4, sMul1, sMulT, sLen1, sLen2, sLen3, sInt1, sInt2, sTup1, sTup2, sLst1, sLst2, sSl1, sSl2, sSl3, sTru1, sTru2, sTru3, sTru4, sDvm, List.map, List.length_cons, List.length_nil, List.replicate, List.cons_append, List.nil_append, List.append_nil, List.getElem?_cons_zero, List.getElem?_cons_succ, List.set_cons_zero, List.set_cons_succ, DL.eq_int, DL.ne_int, eq_str, ne_str, Bool.not_true, Bool.not_false, decide_true, decide_false, true_and, and_true, if_true, if_false, Bool.false_eq_true, ex_some, fldOf_ins l, pt_past]
    rw [List.length_map]
    rcases List.eq_nil_or_concat past with rfl | ⟨past', ph', rfl⟩
    · exact h
    · rw [List.concat_eq_append] at *
      rw [List.getLast?_concat, List.dropLast_concat] at h
      rw [List.length_append, List.length_cons, List.length_nil, show ((((past'.length + (0 + 1) : Nat)) : Int) == 0) = false by simp; omega]
      simp only [startD, endsD, wRet, wRetN, wAndV, wOrV, wNotV, wCB, wCons, wNil, wVar, wC, wChain, wOp, wUn, wIf, wIfE, wTv, wTru, wNot, wAnd, wOr, wSeq, wNext, wAsg, wDrop, dgN, dgT, dgCons, dgNil, dgSub, dgFldC, wPar, wTup, wLst, wLstC, wFldC, wSetFC, wMeth, wMake, wCall, wSl, wNoPart, wPart, wStar, wLenO, wTruO, wReprO, wBoolO, wCallN, wMakeN, wMethN, wFmt, wFS, wJs, wDNew, wDGet, wDPut, wBMl, wCallV, wCallE, gI20, gI2, gNeg, g1I, g2I, gNotN, gIsN, gIsB, D.isNon, sAdd1, sAdd2, sAdd3, sAdd4, sMul1, sMulT, sLen1, sLen2, sLen3, sInt1, sInt2, sTup1, sTup2, sLst1, sLst2, sSl1, sSl2, sSl3, sTru1, sTru2, sTru3, sTru4, sDvm, List.map, List.length_cons, List.length_nil, List.replicate, List.cons_append, List.nil_append, List.append_nil, List.getElem?_cons_zero, List.getElem?_cons_succ, List.set_cons_zero, List.set_cons_succ, DL.eq_int, DL.ne_int, eq_str, ne_str, Bool.not_true, Bool.not_false, decide_true, decide_false, true_and, and_true, if_true, if_false, Bool.false_eq_true, ex_some]
      rw [List.map_append]
      refine ix_last ?_
      unfold phD
      simp only [startD, endsD, wRet, wRetN, wAndV, wOrV, wNotV, wCB, wCons, wNil, wVar, wC, wChain, wOp, wUn, wIf, wIfE, wTv, wTru, wNot, wAnd, wOr, wSeq, wNext, wAsg, wDrop, dgN, dgT, dgCons, dgNil, dgSub, dgFldC, wPar, wTup, wLst, wLstC, wFldC, wSetFC, wMeth, wMake, wCall, wSl, wNoPart, wPart, wStar, wLenO, wTruO, wReprO, wBoolO, wCallN, wMakeN, wMethN, wFmt, wFS, wJs, wDNew, wDGet, wDPut, wBMl, wCallV, wCallE, gI20, gI2, gNeg, g1I, g2I, gNotN, gIsN, gIsB, D.isNon, sAdd1, sAdd2, sAdd3, sAdd4, sMul1, sMulT, sLen1, sLen2, sLen3, sInt1, sInt2, sTup1, sTup2, sLst1, sLst2, sSl1, sSl2, sSl3, sTru1, sTru2, sTru3, sTru4, sDvm, List.map, List.length_cons, List.length_nil, List.replicate, List.cons_append, List.nil_append, List.append_nil, List.getElem?_cons_zero, List.getElem?_cons_succ, List.set_cons_zero, List.set_cons_succ, DL.eq_int, DL.ne_int, eq_str, ne_str, Bool.not_true, Bool.not_false, decide_true, decide_false, true_and, and_true, if_true, if_false, Bool.false_eq_true, ex_some]
      rw [potF_R] at l
      refine ⟨_, _, ⟨rfl, l, pr_len⟩, ?_⟩
      simp only [pp_kinds]
      refine ⟨_, _, ⟨rfl, put_lookup l, pr_len⟩, ?_⟩
      simp only [put_put, pp_given]
      refine ⟨_, _, ⟨rfl, put_lookup l, pr_len⟩, ?_⟩
      simp only [put_put, pp_amounts]
      rw [fldOf_ins (put_lookup l), pr_past]
      rw [List.map_append]
      simp only [startD, endsD, wRet, wRetN, wAndV, wOrV, wNotV, wCB, wCons, wNil, wVar, wC, wChain, wOp, wUn, wIf, wIfE, wTv, wTru, wNot, wAnd, wOr, wSeq, wNext, wAsg, wDrop, dgN, dgT, dgCons, dgNil, dgSub, dgFldC, wPar, wTup, wLst, wLstC, wFldC, wSetFC, wMeth, wMake, wCall, wSl, wNoPart, wPart, wStar, wLenO, wTruO, wReprO, wBoolO, wCallN, wMakeN, wMethN, wFmt, wFS, wJs, wDNew, wDGet, wDPut, wBMl, wCallV, wCallE, gI20, gI2, gNeg, g1I, g2I, gNotN, gIsN, gIsB, D.isNon, sAdd1, sAdd2, sAdd3, sAdd4, sMul1, sMulT, sLen1, sLen2, sLen3, sInt1, sInt2, sTup1, sTup2, sLst1, sLst2, sSl1, sSl2, sSl3, sTru1, sTru2, sTru3, sTru4, sDvm, List.map, List.length_cons, List.length_nil, List.replicate, List.cons_append, List.nil_append, List.append_nil, List.getElem?_cons_zero, List.getElem?_cons_succ, List.set_cons_zero, List.set_cons_succ, DL.eq_int, DL.ne_int, eq_str, ne_str, Bool.not_true, Bool.not_false, decide_true, decide_false, true_and, and_true, if_true, if_false, Bool.false_eq_true, ex_some]
      rw [cut_last]
      refine ⟨_, _, ⟨rfl, put_lookup l, pr_len⟩, ?_⟩
      simp only [put_put, pp_past]
      exact h
/-- [amount + int(place == number) for place, amount in enumerate(amounts)] -/
theorem lc_bump {n : Int} {Kn : List D → Sto → Prop} {env : DEnv} (he : 6 < env.length) (e1 : env[1]? = some (some (.int n))) : ∀ (l : List Int) (k : Nat) (acc : List Int) (st : Sto), acc.length + l.length ≤ 60 →
    Kn ((acc ++ bump k n l).map D.int) st → lcL (tg2 5 6) wYes (wOp gAdd (wVar 6) (wCB gInt (wCons (wOp gEq (wVar 5) (wVar 1)) wNil))) env Kn (enumD k (l.map D.int)) (acc.map D.int) st
  | [], k, acc, st, _, h => by
    unfold bump at h
    rw [List.append_nil] at h
    exact h
  | x :: l, k, acc, st, hl, h => by
    rw [List.map_cons]
    unfold enumD lcL
    simp only [tg2, wYes, wOp, wVar, wCB, wCons, wNil]
    rw [List.getElem?_set_self (by rw [List.length_set]; omega)]
    dsimp only
    rw [List.getElem?_set_ne (by decide), List.getElem?_set_self (by omega)]
    dsimp only
    rw [List.getElem?_set_ne (by decide), List.getElem?_set_ne (by decide), e1]
    dsimp only
    rw [DL.eq_int, sInt2, sAdd1]
    have e : acc.map D.int ++ [D.int (x + if ((k : Int) == n) = true then 1 else 0)] = (acc ++ [x + if (k : Int) = n then 1 else 0]).map D.int := by
      rw [List.map_append]
      simp
    rw [List.length_cons] at hl
    refine ⟨by rw [List.length_map, sizeLine_eq]; omega, ?_⟩
    rw [e]
    refine lc_bump he e1 l (k + 1) _ st (by rw [List.length_append, List.length_cons, List.length_nil]; omega) ?_
    rw [List.append_assoc]
    exact h
theorem PotOk.last {m : Mx} {past : List Ph} {ph : Ph} (h : PotOk m past ph) : PhOk m past.length ph := h.all past.length ph (by rw [List.getElem?_append_right (Nat.le_refl _), Nat.sub_self]; rfl)
theorem pure_Pot_put_in {K : PySem.W.Frag} (T : TP K) : Pu_Pot_put_in K := by
  rintro ds st Kn Kx - ⟨p, a, m, ph, past, b, v, rfl, P, ok, h⟩
  have l := P.l
  unfold potC at l
  have mxl := P.mx.1
  unfold mixC at mxl
  have s3 := P.mx.2.s3
  have s1 := P.mx.2.s1
  have ha := P.ok.last.al
  have hk := P.ok.last.kl
  have hp := P.ok.pl
  simp only [startD, endsD, wRet, wRetN, wAndV, wOrV, wNotV, wCB, wCons, wNil, wVar, wC, wChain, wOp, wUn, wIf, wIfE, wTv, wTru, wNot, wAnd, wOr, wSeq, wNext, wAsg, wDrop, dgN, dgT, dgCons, dgNil, dgSub, dgFldC, wPar, wTup, wLst, wLstC, wFldC, wSetFC, wMeth, wMake, wCall, wSl, wNoPart, wPart, wStar, wLenO, wTruO, wReprO, wBoolO, wCallN, wMakeN, wMethN, wFmt, wFS, wJs, wDNew, wDGet, wDPut, wBMl, wCallV, wCallE, gI20, gI2, gNeg, g1I, g2I, gNotN, gIsN, gIsB, D.isNon, sAdd1, sAdd2, sAdd3, sAdd4, sMul1, sMulT, sLen1, sLen2, sLen3, sInt1, sInt2, sTup1, sTup2, sLst1, sLst2, sSl1, sSl2, sSl3, sTru1, sTru2, sTru3, sTru4, sDvm, List.map, List.length_cons, List.length_nil, List.replicate, List.cons_append, List.nil_append, List.append_nil, List.getElem?_cons_zero, List.getElem?_cons_succ, List.set_cons_zero, List.set_cons_succ, DL.eq_int, DL.ne_int, eq_str, ne_str, Bool.not_true, Bool.not_false, decide_true, decide_false, true_and, and_true, if_true, if_false, Bool.false_eq_true, ex_some, fldOf_ins l, pt_amounts]
  rw [List.length_map, ha]
  refine ⟨v, _, _, rfl, ok, ?_⟩
  unfold putR at h
  cases e : inB v 0 ((m.st.length : Int) - 1) with
  | false =>
    rw [e, if_neg Bool.false_ne_true] at h
    exact h
  | true =>
    rw [e, if_pos rfl] at h
    simp only [startD, endsD, wRet, wRetN, wAndV, wOrV, wNotV, wCB, wCons, wNil, wVar, wC, wChain, wOp, wUn, wIf, wIfE, wTv, wTru, wNot, wAnd, wOr, wSeq, wNext, wAsg, wDrop, dgN, dgT, dgCons, dgNil, dgSub, dgFldC, wPar, wTup, wLst, wLstC, wFldC, wSetFC, wMeth, wMake, wCall, wSl, wNoPart, wPart, wStar, wLenO, wTruO, wReprO, wBoolO, wCallN, wMakeN, wMethN, wFmt, wFS, wJs, wDNew, wDGet, wDPut, wBMl, wCallV, wCallE, gI20, gI2, gNeg, g1I, g2I, gNotN, gIsN, gIsB, D.isNon, sAdd1, sAdd2, sAdd3, sAdd4, sMul1, sMulT, sLen1, sLen2, sLen3, sInt1, sInt2, sTup1, sTup2, sLst1, sLst2, sSl1, sSl2, sSl3, sTru1, sTru2, sTru3, sTru4, sDvm, List.map, List.length_cons, List.length_nil, List.replicate, List.cons_append, List.nil_append, List.append_nil, List.getElem?_cons_zero, List.getElem?_cons_succ, List.set_cons_zero, List.set_cons_succ, DL.eq_int, DL.ne_int, eq_str, ne_str, Bool.not_true, Bool.not_false, decide_true, decide_false, true_and, and_true, if_true, if_false, Bool.false_eq_true, ex_some, l]
    refine ⟨rfl, p, a, ph, past, b, rfl, P.l, ?_⟩
    by_cases e6 : past.length = 60
    · rw [if_pos e6] at h ⊢
      exact h
    · rw [if_neg e6] at h ⊢
      cases v with
      | int n =>
        simp only [inB, decide_eq_true_eq] at e
        simp only [startD, endsD, wRet, wRetN, wAndV, wOrV, wNotV, wCB, wCons, wNil, wVar, wC, wChain, wOp, wUn, wIf, wIfE, wTv, wTru, wNot, wAnd, wOr, wSeq, wNext, wAsg, wDrop, dgN, dgT, dgCons, dgNil, dgSub, dgFldC, wPar, wTup, wLst, wLstC, wFldC, wSetFC, wMeth, wMake, wCall, wSl, wNoPart, wPart, wStar, wLenO, wTruO, wReprO, wBoolO, wCallN, wMakeN, wMethN, wFmt, wFS, wJs, wDNew, wDGet, wDPut, wBMl, wCallV, wCallE, gI20, gI2, gNeg, g1I, g2I, gNotN, gIsN, gIsB, D.isNon, sAdd1, sAdd2, sAdd3, sAdd4, sMul1, sMulT, sLen1, sLen2, sLen3, sInt1, sInt2, sTup1, sTup2, sLst1, sLst2, sSl1, sSl2, sSl3, sTru1, sTru2, sTru3, sTru4, sDvm, List.map, List.length_cons, List.length_nil, List.replicate, List.cons_append, List.nil_append, List.append_nil, List.getElem?_cons_zero, List.getElem?_cons_succ, List.set_cons_zero, List.set_cons_succ, DL.eq_int, DL.ne_int, eq_str, ne_str, Bool.not_true, Bool.not_false, decide_true, decide_false, true_and, and_true, if_true, if_false, Bool.false_eq_true, ex_some, fldOf_ins l, pt_mix, fldOf_ins mxl, mx_starts]
        have hn : n.toNat < m.st.length := by omega
        refine ix_pD e.1 (p := m.st.getD n.toNat (0, 0)) (by rw [List.getD_eq_getElem?_getD, List.getElem?_eq_getElem hn]; rfl) ?_
        simp only [intOf, putS, resP] at h
        generalize m.st.getD n.toNat (0, 0) = q at h
        obtain ⟨k, g⟩ := q
        unfold pD
        simp only [startD, endsD, wRet, wRetN, wAndV, wOrV, wNotV, wCB, wCons, wNil, wVar, wC, wChain, wOp, wUn, wIf, wIfE, wTv, wTru, wNot, wAnd, wOr, wSeq, wNext, wAsg, wDrop, dgN, dgT, dgCons, dgNil, dgSub, dgFldC, wPar, wTup, wLst, wLstC, wFldC, wSetFC, wMeth, wMake, wCall, wSl, wNoPart, wPart, wStar, wLenO, wTruO, wReprO, wBoolO, wCallN, wMakeN, wMethN, wFmt, wFS, wJs, wDNew, wDGet, wDPut, wBMl, wCallV, wCallE, gI20, gI2, gNeg, g1I, g2I, gNotN, gIsN, gIsB, D.isNon, sAdd1, sAdd2, sAdd3, sAdd4, sMul1, sMulT, sLen1, sLen2, sLen3, sInt1, sInt2, sTup1, sTup2, sLst1, sLst2, sSl1, sSl2, sSl3, sTru1, sTru2, sTru3, sTru4, sDvm, List.map, List.length_cons, List.length_nil, List.replicate, List.cons_append, List.nil_append, List.append_nil, List.getElem?_cons_zero, List.getElem?_cons_succ, List.set_cons_zero, List.set_cons_succ, DL.eq_int, DL.ne_int, eq_str, ne_str, Bool.not_true, Bool.not_false, decide_true, decide_false, true_and, and_true, if_true, if_false, Bool.false_eq_true, ex_some]
        simp only [wLcE]
        simp only [startD, endsD, wRet, wRetN, wAndV, wOrV, wNotV, wCB, wCons, wNil, wVar, wC, wChain, wOp, wUn, wIf, wIfE, wTv, wTru, wNot, wAnd, wOr, wSeq, wNext, wAsg, wDrop, dgN, dgT, dgCons, dgNil, dgSub, dgFldC, wPar, wTup, wLst, wLstC, wFldC, wSetFC, wMeth, wMake, wCall, wSl, wNoPart, wPart, wStar, wLenO, wTruO, wReprO, wBoolO, wCallN, wMakeN, wMethN, wFmt, wFS, wJs, wDNew, wDGet, wDPut, wBMl, wCallV, wCallE, gI20, gI2, gNeg, g1I, g2I, gNotN, gIsN, gIsB, D.isNon, sAdd1, sAdd2, sAdd3, sAdd4, sMul1, sMulT, sLen1, sLen2, sLen3, sInt1, sInt2, sTup1, sTup2, sLst1, sLst2, sSl1, sSl2, sSl3, sTru1, sTru2, sTru3, sTru4, sDvm, List.map, List.length_cons, List.length_nil, List.replicate, List.cons_append, List.nil_append, List.append_nil, List.getElem?_cons_zero, List.getElem?_cons_succ, List.set_cons_zero, List.set_cons_succ, DL.eq_int, DL.ne_int, eq_str, ne_str, Bool.not_true, Bool.not_false, decide_true, decide_false, true_and, and_true, if_true, if_false, Bool.false_eq_true, ex_some, fldOf_ins l, pt_amounts]
        simp only [enumOf, lcGo]
        refine lc_bump (n := n) (env := _) (by exact (by decide : 6 < 7)) rfl ph.am 0 [] st (by simp; omega) ?_
        simp only [startD, endsD, wRet, wRetN, wAndV, wOrV, wNotV, wCB, wCons, wNil, wVar, wC, wChain, wOp, wUn, wIf, wIfE, wTv, wTru, wNot, wAnd, wOr, wSeq, wNext, wAsg, wDrop, dgN, dgT, dgCons, dgNil, dgSub, dgFldC, wPar, wTup, wLst, wLstC, wFldC, wSetFC, wMeth, wMake, wCall, wSl, wNoPart, wPart, wStar, wLenO, wTruO, wReprO, wBoolO, wCallN, wMakeN, wMethN, wFmt, wFS, wJs, wDNew, wDGet, wDPut, wBMl, wCallV, wCallE, gI20, gI2, gNeg, g1I, g2I, gNotN, gIsN, gIsB, D.isNon, sAdd1, sAdd2, sAdd3, sAdd4, sMul1, sMulT, sLen1, sLen2, sLen3, sInt1, sInt2, sTup1, sTup2, sLst1, sLst2, sSl1, sSl2, sSl3, sTru1, sTru2, sTru3, sTru4, sDvm, List.map, List.length_cons, List.length_nil, List.replicate, List.cons_append, List.nil_append, List.append_nil, List.getElem?_cons_zero, List.getElem?_cons_succ, List.set_cons_zero, List.set_cons_succ, DL.eq_int, DL.ne_int, eq_str, ne_str, Bool.not_true, Bool.not_false, decide_true, decide_false, true_and, and_true, if_true, if_false, Bool.false_eq_true, ex_some, l, fldOf_ins l, pt_kinds, pt_given]
        refine ⟨rfl, sl_small (by decide), sl_small (by rw [List.length_map]; omega), ?_⟩
        refine ⟨p, a, ph, past, b, ph.ks ++ [k], ph.g + g, bump 0 n ph.am, by rw [List.map_append]; rfl, l, by omega, ?_⟩
        exact h
      | _ => cases e
theorem isPl_int {a b : D} {n : Int} (h : isPl a b n = true) : ∃ i j : Int, a = .int i ∧ b = .int j ∧ 0 ≤ i ∧ i < j ∧ j < n := by
  unfold isPl at h
  rw [Bool.and_eq_true] at h
  obtain ⟨h1, h2⟩ := h
  cases a with
  | int i =>
    cases b with
    | int j =>
      have h1 : 0 ≤ i ∧ i ≤ n - 1 := of_decide_eq_true h1
      have h2 : i + 1 ≤ j ∧ j ≤ n - 1 := of_decide_eq_true h2
      exact ⟨i, j, rfl, rfl, by omega, by omega, by omega⟩
    | _ => cases h2
  | _ => cases h1
theorem pure_Pot_let_meet {K : PySem.W.Frag} (T : TP K) : Pu_Pot_let_meet K := by
  rintro ds st Kn Kx - ⟨p, a, m, ph, past, b, v, w, rfl, P, ok, h⟩
  have l := P.l
  unfold potC at l
  have hk := P.ok.last.kl
  have hr := P.ok.last.kr
  have hp := P.ok.pl
  simp only [startD, endsD, wRet, wRetN, wAndV, wOrV, wNotV, wCB, wCons, wNil, wVar, wC, wChain, wOp, wUn, wIf, wIfE, wTv, wTru, wNot, wAnd, wOr, wSeq, wNext, wAsg, wDrop, dgN, dgT, dgCons, dgNil, dgSub, dgFldC, wPar, wTup, wLst, wLstC, wFldC, wSetFC, wMeth, wMake, wCall, wSl, wNoPart, wPart, wStar, wLenO, wTruO, wReprO, wBoolO, wCallN, wMakeN, wMethN, wFmt, wFS, wJs, wDNew, wDGet, wDPut, wBMl, wCallV, wCallE, gI20, gI2, gNeg, g1I, g2I, gNotN, gIsN, gIsB, D.isNon, sAdd1, sAdd2, sAdd3, sAdd4, sMul1, sMulT, sLen1, sLen2, sLen3, sInt1, sInt2, sTup1, sTup2, sLst1, sLst2, sSl1, sSl2, sSl3, sTru1, sTru2, sTru3, sTru4, sDvm, List.map, List.length_cons, List.length_nil, List.replicate, List.cons_append, List.nil_append, List.append_nil, List.getElem?_cons_zero, List.getElem?_cons_succ, List.set_cons_zero, List.set_cons_succ, DL.eq_int, DL.ne_int, eq_str, ne_str, Bool.not_true, Bool.not_false, decide_true, decide_false, true_and, and_true, if_true, if_false, Bool.false_eq_true, ex_some, fldOf_ins l, pt_kinds]
  rw [List.length_map]
  refine ⟨sl_small (by decide), v, w, _, rfl, ok, ?_⟩
  unfold meetR at h
  cases e : isPl v w ph.ks.length with
  | false =>
    rw [e, if_neg Bool.false_ne_true] at h
    exact h
  | true =>
    rw [e, if_pos rfl] at h
    simp only [startD, endsD, wRet, wRetN, wAndV, wOrV, wNotV, wCB, wCons, wNil, wVar, wC, wChain, wOp, wUn, wIf, wIfE, wTv, wTru, wNot, wAnd, wOr, wSeq, wNext, wAsg, wDrop, dgN, dgT, dgCons, dgNil, dgSub, dgFldC, wPar, wTup, wLst, wLstC, wFldC, wSetFC, wMeth, wMake, wCall, wSl, wNoPart, wPart, wStar, wLenO, wTruO, wReprO, wBoolO, wCallN, wMakeN, wMethN, wFmt, wFS, wJs, wDNew, wDGet, wDPut, wBMl, wCallV, wCallE, gI20, gI2, gNeg, g1I, g2I, gNotN, gIsN, gIsB, D.isNon, sAdd1, sAdd2, sAdd3, sAdd4, sMul1, sMulT, sLen1, sLen2, sLen3, sInt1, sInt2, sTup1, sTup2, sLst1, sLst2, sSl1, sSl2, sSl3, sTru1, sTru2, sTru3, sTru4, sDvm, List.map, List.length_cons, List.length_nil, List.replicate, List.cons_append, List.nil_append, List.append_nil, List.getElem?_cons_zero, List.getElem?_cons_succ, List.set_cons_zero, List.set_cons_succ, DL.eq_int, DL.ne_int, eq_str, ne_str, Bool.not_true, Bool.not_false, decide_true, decide_false, true_and, and_true, if_true, if_false, Bool.false_eq_true, ex_some, l]
    refine ⟨rfl, p, a, ph, past, b, rfl, P.l, ?_⟩
    by_cases e6 : past.length = 60
    · rw [if_pos e6] at h ⊢
      exact h
    · rw [if_neg e6] at h ⊢
      obtain ⟨i, j, rfl, rfl, n0, n1, n2⟩ := isPl_int e
      simp only [startD, endsD, wRet, wRetN, wAndV, wOrV, wNotV, wCB, wCons, wNil, wVar, wC, wChain, wOp, wUn, wIf, wIfE, wTv, wTru, wNot, wAnd, wOr, wSeq, wNext, wAsg, wDrop, dgN, dgT, dgCons, dgNil, dgSub, dgFldC, wPar, wTup, wLst, wLstC, wFldC, wSetFC, wMeth, wMake, wCall, wSl, wNoPart, wPart, wStar, wLenO, wTruO, wReprO, wBoolO, wCallN, wMakeN, wMethN, wFmt, wFS, wJs, wDNew, wDGet, wDPut, wBMl, wCallV, wCallE, gI20, gI2, gNeg, g1I, g2I, gNotN, gIsN, gIsB, D.isNon, sAdd1, sAdd2, sAdd3, sAdd4, sMul1, sMulT, sLen1, sLen2, sLen3, sInt1, sInt2, sTup1, sTup2, sLst1, sLst2, sSl1, sSl2, sSl3, sTru1, sTru2, sTru3, sTru4, sDvm, List.map, List.length_cons, List.length_nil, List.replicate, List.cons_append, List.nil_append, List.append_nil, List.getElem?_cons_zero, List.getElem?_cons_succ, List.set_cons_zero, List.set_cons_succ, DL.eq_int, DL.ne_int, eq_str, ne_str, Bool.not_true, Bool.not_false, decide_true, decide_false, true_and, and_true, if_true, if_false, Bool.false_eq_true, ex_some, fldOf_ins l, pt_mix, pt_kinds]
      refine ⟨a, m, ph.ks, i, j, rfl, P.mx, ⟨n0, n1, n2⟩, by omega, hr, ?_⟩
      simp only [startD, endsD, wRet, wRetN, wAndV, wOrV, wNotV, wCB, wCons, wNil, wVar, wC, wChain, wOp, wUn, wIf, wIfE, wTv, wTru, wNot, wAnd, wOr, wSeq, wNext, wAsg, wDrop, dgN, dgT, dgCons, dgNil, dgSub, dgFldC, wPar, wTup, wLst, wLstC, wFldC, wSetFC, wMeth, wMake, wCall, wSl, wNoPart, wPart, wStar, wLenO, wTruO, wReprO, wBoolO, wCallN, wMakeN, wMethN, wFmt, wFS, wJs, wDNew, wDGet, wDPut, wBMl, wCallV, wCallE, gI20, gI2, gNeg, g1I, g2I, gNotN, gIsN, gIsB, D.isNon, sAdd1, sAdd2, sAdd3, sAdd4, sMul1, sMulT, sLen1, sLen2, sLen3, sInt1, sInt2, sTup1, sTup2, sLst1, sLst2, sSl1, sSl2, sSl3, sTru1, sTru2, sTru3, sTru4, sDvm, List.map, List.length_cons, List.length_nil, List.replicate, List.cons_append, List.nil_append, List.append_nil, List.getElem?_cons_zero, List.getElem?_cons_succ, List.set_cons_zero, List.set_cons_succ, DL.eq_int, DL.ne_int, eq_str, ne_str, Bool.not_true, Bool.not_false, decide_true, decide_false, true_and, and_true, if_true, if_false, Bool.false_eq_true, ex_some, l, fldOf_ins l, pt_given, pt_amounts]
      refine ⟨rfl, ?_⟩
      exact ⟨p, a, ph, past, b, _, _, ph.am, rfl, l, by omega, h⟩
end GV

namespace GV
open PySem PySem.Spec PyProof.Rows L2 DL
variable [Tb]
theorem binAt_put {st : Sto} {b : Addr} {x y z : Int} (h : binAt st b) : (st.put b (binD x y z)).lookup b = some (binD x y z) := by
  obtain ⟨a, c, d, e⟩ := h
  exact put_lookup e
theorem at0 {x y z : D} : L2.atI [x, y, z] 0 = some x := rfl
theorem at1 {x y z : D} : L2.atI [x, y, z] 1 = some y := rfl
theorem at2 {x y z : D} : L2.atI [x, y, z] 2 = some z := rfl
theorem set_bin {st : Sto} {b : Addr} {x y z v : Int} {Kn : Sto → Prop} (l : st.lookup b = some (binD x y z)) :
    (Kn (st.put b (binD v y z)) → gSetL (.ref b) (.int 0) (.int v) st Kn) ∧ (Kn (st.put b (binD x v z)) → gSetL (.ref b) (.int 1) (.int v) st Kn) ∧ (Kn (st.put b (binD x y v)) → gSetL (.ref b) (.int 2) (.int v) st Kn) := by
  unfold binD at l
  refine ⟨fun h => ?_, fun h => ?_, fun h => ?_⟩ <;> (unfold gSetL; simp only [l]; exact h)

theorem kp_refl {st : Sto} {b : Addr} (h : binAt st b) : Kp b st st := ⟨h, fun _ _ _ l => l⟩
theorem Kp.trans {b : Addr} {s1 s2 s3 : Sto} (h : Kp b s1 s2) (g : Kp b s2 s3) : Kp b s1 s3 := ⟨g.1, fun x c n l => g.2 x c n (h.2 x c n l)⟩
theorem kp_put {st : Sto} {b : Addr} {x y z : Int} (h : binAt st b) : Kp b st (st.put b (binD x y z)) := ⟨⟨x, y, z, binAt_put h⟩, fun a c n l => by rw [put_other n]; exact l⟩
theorem Grow.refl {st : Sto} : Grow st st := fun _ _ l => l
theorem Grow.trans {s1 s2 s3 : Sto} (h : Grow s1 s2) (g : Grow s2 s3) : Grow s1 s3 := fun x c l => g x c (h x c l)
theorem grow_new {st : Sto} {a : Addr} {c : Cell} (h : ¬ st.on a) : Grow st ((a, c) :: st) := fun x d l => by rw [old_lookup (ne_on l h)]; exact l
theorem Grow.bin {st st' : Sto} {b : Addr} (g : Grow st st') (h : binAt st b) : binAt st' b := let ⟨x, y, z, l⟩ := h; ⟨x, y, z, g _ _ l⟩
theorem kp_grow {st st' : Sto} {b : Addr} (g : Grow st st') (h : binAt st b) : Kp b st st' := ⟨g.bin h, fun x c _ l => g x c l⟩
theorem ix_cell {st : Sto} {a : Addr} {ds : List D} {i : Int} {d : D} {Kn : KD} (l : st.lookup a = some (.lst ds)) (e : L2.atI ds i = some d) : gIx (.ref a) (.int i) st Kn ↔ Kn d st := by
  show (match lsOf (.ref a) st with
    | some ds => match L2.atI ds i with
      | some d => Kn d st
      | none => False
    | none => False) ↔ _
  have el : lsOf (.ref a) st = some ds := by
    show (match st.lookup a with
      | some (.lst ds) => some ds
      | _ => none) = _
    rw [l]
  rw [el]
  show (match L2.atI ds i with
      | some d => Kn d st
      | none => False) ↔ _
  rw [e]
theorem ix_lst {st : Sto} {ds : List D} {i : Int} {d : D} {Kn : KD} (e : L2.atI ds i = some d) : gIx (.lst ds) (.int i) st Kn ↔ Kn d st := by
  show (match L2.atI ds i with
      | some d => Kn d st
      | none => False) ↔ _
  rw [e]
theorem atI_last {xs : List D} {d : D} : L2.atI (xs ++ [d]) (-1) = some d := by
  unfold L2.atI
  have e : L2.ixN (xs ++ [d]).length (-1) = some xs.length := by
    unfold L2.ixN
    rw [if_neg (by decide), if_pos (by rw [List.length_append, List.length_cons, List.length_nil]; omega)]
    congr 1
    rw [List.length_append, List.length_cons, List.length_nil]; omega
  rw [e]
  show (xs ++ [d])[xs.length]? = some d
  rw [List.getElem?_append_right (Nat.le_refl _), Nat.sub_self]; rfl
theorem len_cell {st : Sto} {a : Addr} {ds : List D} {Kn : KD} (l : st.lookup a = some (.lst ds)) : gLen [.ref a] st Kn ↔ Kn (.int ds.length) st := by
  show (match lsOf (.ref a) st with
    | some xs => Kn (.int xs.length) st
    | none => False) ↔ _
  have el : lsOf (.ref a) st = some ds := by
    show (match st.lookup a with
      | some (.lst ds) => some ds
      | _ => none) = _
    rw [l]
  rw [el]
theorem tup_cell {st : Sto} {a : Addr} {ds : List D} {Kn : KD} (l : st.lookup a = some (.lst ds)) : gTupOf [.ref a] st Kn ↔ Kn (.tup ds) st := by
  show (match lsOf (.ref a) st with
    | some xs => Kn (.tup xs) st
    | none => False) ↔ _
  have el : lsOf (.ref a) st = some ds := by
    show (match st.lookup a with
      | some (.lst ds) => some ds
      | _ => none) = _
    rw [l]
  rw [el]
theorem ix_bin0 {st : Sto} {b : Addr} {x y z : Int} {Kn : KD} (l : st.lookup b = some (binD x y z)) : gIx (.ref b) (.int 0) st Kn ↔ Kn (.int x) st := ix_cell l rfl
theorem ix_bin1 {st : Sto} {b : Addr} {x y z : Int} {Kn : KD} (l : st.lookup b = some (binD x y z)) : gIx (.ref b) (.int 1) st Kn ↔ Kn (.int y) st := ix_cell l rfl
theorem ix_bin2 {st : Sto} {b : Addr} {x y z : Int} {Kn : KD} (l : st.lookup b = some (binD x y z)) : gIx (.ref b) (.int 2) st Kn ↔ Kn (.int z) st := ix_cell l rfl
theorem pure_law_nip {K : PySem.W.Frag} (T : TP K) : Pu_law_nip K := by
  rintro ds st Kn Kx - ⟨b, n, rfl, ⟨x, y, z, l⟩, ⟨n1, n2⟩, h0⟩
  have h : ∀ v x y z, 0 ≤ v → v < n → Kn (.int v) (st.put b (binD x y z)) := fun v x y z v0 v1 => h0 v _ v0 v1 (kp_put ⟨_, _, _, l⟩)
  simp only [startD, endsD, wRet, wRetN, wAndV, wOrV, wNotV, wCB, wCons, wNil, wVar, wC, wChain, wOp, wUn, wIf, wIfE, wTv, wTru, wNot, wAnd, wOr, wSeq, wNext, wAsg, wDrop, dgN, dgT, dgCons, dgNil, dgSub, dgFldC, wPar, wTup, wLst, wLstC, wFldC, wSetFC, wMeth, wMake, wCall, wSl, wNoPart, wPart, wStar, wLenO, wTruO, wReprO, wBoolO, wCallN, wMakeN, wMethN, wFmt, wFS, wJs, wDNew, wDGet, wDPut, wBMl, wCallV, wCallE, gI20, gI2, gNeg, g1I, g2I, gNotN, gIsN, gIsB, D.isNon, sAdd1, sAdd2, sAdd3, sAdd4, sMul1, sMulT, sLen1, sLen2, sLen3, sInt1, sInt2, sTup1, sTup2, sLst1, sLst2, sSl1, sSl2, sSl3, sTru1, sTru2, sTru3, sTru4, sDvm, List.map, List.length_cons, List.length_nil, List.replicate, List.cons_append, List.nil_append, List.append_nil, List.getElem?_cons_zero, List.getElem?_cons_succ, List.set_cons_zero, List.set_cons_succ, DL.eq_int, DL.ne_int, eq_str, ne_str, Bool.not_true, Bool.not_false, decide_true, decide_false, true_and, and_true, if_true, if_false, Bool.false_eq_true, ex_some, ix_bin2 l]
  refine (set_bin l).2.2 ?_
  have l1 : (st.put b (binD x y (z + 1))).lookup b = some (binD x y (z + 1)) := put_lookup l
  have fin : ∀ {v x' y' z' : Int}, 0 ≤ v → v < n → Kn (.int v) ((st.put b (binD x y (z + 1))).put b (binD x' y' z')) := fun h0 h1 => by rw [put_put]; exact h _ _ _ _ h0 h1
  simp only [startD, endsD, wRet, wRetN, wAndV, wOrV, wNotV, wCB, wCons, wNil, wVar, wC, wChain, wOp, wUn, wIf, wIfE, wTv, wTru, wNot, wAnd, wOr, wSeq, wNext, wAsg, wDrop, dgN, dgT, dgCons, dgNil, dgSub, dgFldC, wPar, wTup, wLst, wLstC, wFldC, wSetFC, wMeth, wMake, wCall, wSl, wNoPart, wPart, wStar, wLenO, wTruO, wReprO, wBoolO, wCallN, wMakeN, wMethN, wFmt, wFS, wJs, wDNew, wDGet, wDPut, wBMl, wCallV, wCallE, gI20, gI2, gNeg, g1I, g2I, gNotN, gIsN, gIsB, D.isNon, sAdd1, sAdd2, sAdd3, sAdd4, sMul1, sMulT, sLen1, sLen2, sLen3, sInt1, sInt2, sTup1, sTup2, sLst1, sLst2, sSl1, sSl2, sSl3, sTru1, sTru2, sTru3, sTru4, sDvm, List.map, List.length_cons, List.length_nil, List.replicate, List.cons_append, List.nil_append, List.append_nil, List.getElem?_cons_zero, List.getElem?_cons_succ, List.set_cons_zero, List.set_cons_succ, DL.eq_int, DL.ne_int, eq_str, ne_str, Bool.not_true, Bool.not_false, decide_true, decide_false, true_and, and_true, if_true, if_false, Bool.false_eq_true, ex_some, ix_bin0 l1, ix_bin1 l1, ix_bin2 l1]
  by_cases c : 0 < x
  · rw [decide_eq_true c]
    simp only [startD, endsD, wRet, wRetN, wAndV, wOrV, wNotV, wCB, wCons, wNil, wVar, wC, wChain, wOp, wUn, wIf, wIfE, wTv, wTru, wNot, wAnd, wOr, wSeq, wNext, wAsg, wDrop, dgN, dgT, dgCons, dgNil, dgSub, dgFldC, wPar, wTup, wLst, wLstC, wFldC, wSetFC, wMeth, wMake, wCall, wSl, wNoPart, wPart, wStar, wLenO, wTruO, wReprO, wBoolO, wCallN, wMakeN, wMethN, wFmt, wFS, wJs, wDNew, wDGet, wDPut, wBMl, wCallV, wCallE, gI20, gI2, gNeg, g1I, g2I, gNotN, gIsN, gIsB, D.isNon, sAdd1, sAdd2, sAdd3, sAdd4, sMul1, sMulT, sLen1, sLen2, sLen3, sInt1, sInt2, sTup1, sTup2, sLst1, sLst2, sSl1, sSl2, sSl3, sTru1, sTru2, sTru3, sTru4, sDvm, List.map, List.length_cons, List.length_nil, List.replicate, List.cons_append, List.nil_append, List.append_nil, List.getElem?_cons_zero, List.getElem?_cons_succ, List.set_cons_zero, List.set_cons_succ, DL.eq_int, DL.ne_int, eq_str, ne_str, Bool.not_true, Bool.not_false, decide_true, decide_false, true_and, and_true, if_true, if_false, Bool.false_eq_true, ex_some, ix_bin0 l1, ix_bin1 l1, ix_bin2 l1]
    refine ⟨⟨by omega, by omega⟩, ?_⟩
    refine (set_bin l1).1 ?_
    exact fin (Int.emod_nonneg _ (by omega)) (Int.emod_lt_of_pos _ (by omega))
  · rw [decide_eq_false c]
    simp only [startD, endsD, wRet, wRetN, wAndV, wOrV, wNotV, wCB, wCons, wNil, wVar, wC, wChain, wOp, wUn, wIf, wIfE, wTv, wTru, wNot, wAnd, wOr, wSeq, wNext, wAsg, wDrop, dgN, dgT, dgCons, dgNil, dgSub, dgFldC, wPar, wTup, wLst, wLstC, wFldC, wSetFC, wMeth, wMake, wCall, wSl, wNoPart, wPart, wStar, wLenO, wTruO, wReprO, wBoolO, wCallN, wMakeN, wMethN, wFmt, wFS, wJs, wDNew, wDGet, wDPut, wBMl, wCallV, wCallE, gI20, gI2, gNeg, g1I, g2I, gNotN, gIsN, gIsB, D.isNon, sAdd1, sAdd2, sAdd3, sAdd4, sMul1, sMulT, sLen1, sLen2, sLen3, sInt1, sInt2, sTup1, sTup2, sLst1, sLst2, sSl1, sSl2, sSl3, sTru1, sTru2, sTru3, sTru4, sDvm, List.map, List.length_cons, List.length_nil, List.replicate, List.cons_append, List.nil_append, List.append_nil, List.getElem?_cons_zero, List.getElem?_cons_succ, List.set_cons_zero, List.set_cons_succ, DL.eq_int, DL.ne_int, eq_str, ne_str, Bool.not_true, Bool.not_false, decide_true, decide_false, true_and, and_true, if_true, if_false, Bool.false_eq_true, ex_some, ix_bin0 l1, ix_bin1 l1, ix_bin2 l1]
    refine ⟨.inr ⟨by decide, by decide⟩, cmul_small (by decide) (by decide), by decide, ?_⟩
    refine (set_bin l1).2.1 ?_
    have l2 := put_lookup (c' := binD x ((y * 40013 + 9161 * (z + 1) + 1) % 2147483179) (z + 1)) l1
    simp only [startD, endsD, wRet, wRetN, wAndV, wOrV, wNotV, wCB, wCons, wNil, wVar, wC, wChain, wOp, wUn, wIf, wIfE, wTv, wTru, wNot, wAnd, wOr, wSeq, wNext, wAsg, wDrop, dgN, dgT, dgCons, dgNil, dgSub, dgFldC, wPar, wTup, wLst, wLstC, wFldC, wSetFC, wMeth, wMake, wCall, wSl, wNoPart, wPart, wStar, wLenO, wTruO, wReprO, wBoolO, wCallN, wMakeN, wMethN, wFmt, wFS, wJs, wDNew, wDGet, wDPut, wBMl, wCallV, wCallE, gI20, gI2, gNeg, g1I, g2I, gNotN, gIsN, gIsB, D.isNon, sAdd1, sAdd2, sAdd3, sAdd4, sMul1, sMulT, sLen1, sLen2, sLen3, sInt1, sInt2, sTup1, sTup2, sLst1, sLst2, sSl1, sSl2, sSl3, sTru1, sTru2, sTru3, sTru4, sDvm, List.map, List.length_cons, List.length_nil, List.replicate, List.cons_append, List.nil_append, List.append_nil, List.getElem?_cons_zero, List.getElem?_cons_succ, List.set_cons_zero, List.set_cons_succ, DL.eq_int, DL.ne_int, eq_str, ne_str, Bool.not_true, Bool.not_false, decide_true, decide_false, true_and, and_true, if_true, if_false, Bool.false_eq_true, ex_some, ix_bin1 l2]
    refine ⟨⟨by decide, by decide⟩, by omega, ?_⟩
    exact fin (Int.emod_nonneg _ (by omega)) (Int.emod_lt_of_pos _ (by omega))
abbrev bBin : WS := wAsg (wOp gMod (wCB gInt (wCons (wOp gAdd (wOp gAdd (wOp gMul (wVar 2) (wC (.int 61417))) (wOp gMul (wCB gInt (wCons (wVar 3) wNil)) (wC (.int 17)))) (wVar 1)) wNil)) (wC (.int 2147483179))) (dgN 2)
theorem loop_bin {DD : DEnds} {e0 e4 : Option D} {t : Int} {st : Sto} : ∀ (l : List Int) (s : Int) (e3 : Option D), (∀ s e3, DD.nx [e0, some (.int t), some (.int s), e3, e4] st) → forL (dgN 3) bBin DD (l.map D.int) [e0, some (.int t), some (.int s), e3, e4] st
  | [], s, e3, h => h s e3
  | n :: l, s, e3, h => by
    rw [List.map_cons]
    unfold forL
    simp only [startD, endsD, wRet, wRetN, wAndV, wOrV, wNotV, wCB, wCons, wNil, wVar, wC, wChain, wOp, wUn, wIf, wIfE, wTv, wTru, wNot, wAnd, wOr, wSeq, wNext, wAsg, wDrop, dgN, dgT, dgCons, dgNil, dgSub, dgFldC, wPar, wTup, wLst, wLstC, wFldC, wSetFC, wMeth, wMake, wCall, wSl, wNoPart, wPart, wStar, wLenO, wTruO, wReprO, wBoolO, wCallN, wMakeN, wMethN, wFmt, wFS, wJs, wDNew, wDGet, wDPut, wBMl, wCallV, wCallE, gI20, gI2, gNeg, g1I, g2I, gNotN, gIsN, gIsB, D.isNon, sAdd1, sAdd2, sAdd3, sAdd4, sMul1, sMulT, sLen1, sLen2, sLen3, sInt1, sInt2, sTup1, sTup2, sLst1, sLst2, sSl1, sSl2, sSl3, sTru1, sTru2, sTru3, sTru4, sDvm, List.map, List.length_cons, List.length_nil, List.replicate, List.cons_append, List.nil_append, List.append_nil, List.getElem?_cons_zero, List.getElem?_cons_succ, List.set_cons_zero, List.set_cons_succ, DL.eq_int, DL.ne_int, eq_str, ne_str, Bool.not_true, Bool.not_false, decide_true, decide_false, true_and, and_true, if_true, if_false, Bool.false_eq_true, ex_some]
    refine ⟨.inr ⟨by decide, by decide⟩, .inr ⟨by decide, by decide⟩, by decide, ?_⟩
    exact loop_bin l _ _ h
theorem pure_law_bin {K : PySem.W.Frag} (T : TP K) : Pu_law_bin K := by
  rintro ds st Kn Kx - ⟨ns, t, rfl, ⟨t0, t1⟩, hl, h⟩
  simp only [startD, endsD, wRet, wRetN, wAndV, wOrV, wNotV, wCB, wCons, wNil, wVar, wC, wChain, wOp, wUn, wIf, wIfE, wTv, wTru, wNot, wAnd, wOr, wSeq, wNext, wAsg, wDrop, dgN, dgT, dgCons, dgNil, dgSub, dgFldC, wPar, wTup, wLst, wLstC, wFldC, wSetFC, wMeth, wMake, wCall, wSl, wNoPart, wPart, wStar, wLenO, wTruO, wReprO, wBoolO, wCallN, wMakeN, wMethN, wFmt, wFS, wJs, wDNew, wDGet, wDPut, wBMl, wCallV, wCallE, gI20, gI2, gNeg, g1I, g2I, gNotN, gIsN, gIsB, D.isNon, sAdd1, sAdd2, sAdd3, sAdd4, sMul1, sMulT, sLen1, sLen2, sLen3, sInt1, sInt2, sTup1, sTup2, sLst1, sLst2, sSl1, sSl2, sSl3, sTru1, sTru2, sTru3, sTru4, sDvm, List.map, List.length_cons, List.length_nil, List.replicate, List.cons_append, List.nil_append, List.append_nil, List.getElem?_cons_zero, List.getElem?_cons_succ, List.set_cons_zero, List.set_cons_succ, DL.eq_int, DL.ne_int, eq_str, ne_str, Bool.not_true, Bool.not_false, decide_true, decide_false, true_and, and_true, if_true, if_false, Bool.false_eq_true, ex_some]
  refine ⟨cmul_small (by decide) (by decide), ?_⟩
  simp only [wForL]
  simp only [startD, endsD, wRet, wRetN, wAndV, wOrV, wNotV, wCB, wCons, wNil, wVar, wC, wChain, wOp, wUn, wIf, wIfE, wTv, wTru, wNot, wAnd, wOr, wSeq, wNext, wAsg, wDrop, dgN, dgT, dgCons, dgNil, dgSub, dgFldC, wPar, wTup, wLst, wLstC, wFldC, wSetFC, wMeth, wMake, wCall, wSl, wNoPart, wPart, wStar, wLenO, wTruO, wReprO, wBoolO, wCallN, wMakeN, wMethN, wFmt, wFS, wJs, wDNew, wDGet, wDPut, wBMl, wCallV, wCallE, gI20, gI2, gNeg, g1I, g2I, gNotN, gIsN, gIsB, D.isNon, sAdd1, sAdd2, sAdd3, sAdd4, sMul1, sMulT, sLen1, sLen2, sLen3, sInt1, sInt2, sTup1, sTup2, sLst1, sLst2, sSl1, sSl2, sSl3, sTru1, sTru2, sTru3, sTru4, sDvm, List.map, List.length_cons, List.length_nil, List.replicate, List.cons_append, List.nil_append, List.append_nil, List.getElem?_cons_zero, List.getElem?_cons_succ, List.set_cons_zero, List.set_cons_succ, DL.eq_int, DL.ne_int, eq_str, ne_str, Bool.not_true, Bool.not_false, decide_true, decide_false, true_and, and_true, if_true, if_false, Bool.false_eq_true, ex_some]
  rw [cut_map]
  refine loop_bin _ _ _ fun s e3 => ?_
  simp only [startD, endsD, wRet, wRetN, wAndV, wOrV, wNotV, wCB, wCons, wNil, wVar, wC, wChain, wOp, wUn, wIf, wIfE, wTv, wTru, wNot, wAnd, wOr, wSeq, wNext, wAsg, wDrop, dgN, dgT, dgCons, dgNil, dgSub, dgFldC, wPar, wTup, wLst, wLstC, wFldC, wSetFC, wMeth, wMake, wCall, wSl, wNoPart, wPart, wStar, wLenO, wTruO, wReprO, wBoolO, wCallN, wMakeN, wMethN, wFmt, wFS, wJs, wDNew, wDGet, wDPut, wBMl, wCallV, wCallE, gI20, gI2, gNeg, g1I, g2I, gNotN, gIsN, gIsB, D.isNon, sAdd1, sAdd2, sAdd3, sAdd4, sMul1, sMulT, sLen1, sLen2, sLen3, sInt1, sInt2, sTup1, sTup2, sLst1, sLst2, sSl1, sSl2, sSl3, sTru1, sTru2, sTru3, sTru4, sDvm, List.map, List.length_cons, List.length_nil, List.replicate, List.cons_append, List.nil_append, List.append_nil, List.getElem?_cons_zero, List.getElem?_cons_succ, List.set_cons_zero, List.set_cons_succ, DL.eq_int, DL.ne_int, eq_str, ne_str, Bool.not_true, Bool.not_false, decide_true, decide_false, true_and, and_true, if_true, if_false, Bool.false_eq_true, ex_some]
  have fin : ∀ own : Int, (wRet (wLstC (wCons (wIfE (wOr (wTv (wOp gLt (wVar 4) (wC (.int 0)))) (wTv (wOp gGe (wVar 4) (wOp gPow (wC (.int 10)) (wC (.int 18)))))) (wCB (g1I (fun _ => True) fun i => .int (if i < 0 then -i else i)) (wCons (wVar 4) wNil)) (wC (.int 0))) (wCons (wOp gMod (wCB gInt (wCons (wOp gAdd (wVar 2) (wOp gMul (wVar 4) (wC (.int 19)))) wNil)) (wC (.int 2147483179))) (wCons (wC (.int 0)) wNil)))))
      { nx := fun _ st => Kn .non st, rt := Kn, ex := fun x _ st => Kx x st } [some (.scr ns), some (.int t), some (.int s), e3, some (.int own)] st := fun own => by
    have end_ : ∀ v : Int, CMul own 19 ∧ (0 : Int) < 2147483179 ∧ 0 + 1 + 1 + 1 ≤ sizeLine ∧ ∀ (p : Addr), ¬ st.on p → Kn (.ref p) ((p, Cell.lst [.int v, .int ((s + own * 19) % 2147483179), .int 0]) :: st) := fun v =>
      ⟨.inr ⟨by decide, by decide⟩, by decide, sl_small (by decide), fun p np => h p _ _ _ np⟩
    simp only [startD, endsD, wRet, wRetN, wAndV, wOrV, wNotV, wCB, wCons, wNil, wVar, wC, wChain, wOp, wUn, wIf, wIfE, wTv, wTru, wNot, wAnd, wOr, wSeq, wNext, wAsg, wDrop, dgN, dgT, dgCons, dgNil, dgSub, dgFldC, wPar, wTup, wLst, wLstC, wFldC, wSetFC, wMeth, wMake, wCall, wSl, wNoPart, wPart, wStar, wLenO, wTruO, wReprO, wBoolO, wCallN, wMakeN, wMethN, wFmt, wFS, wJs, wDNew, wDGet, wDPut, wBMl, wCallV, wCallE, gI20, gI2, gNeg, g1I, g2I, gNotN, gIsN, gIsB, D.isNon, sAdd1, sAdd2, sAdd3, sAdd4, sMul1, sMulT, sLen1, sLen2, sLen3, sInt1, sInt2, sTup1, sTup2, sLst1, sLst2, sSl1, sSl2, sSl3, sTru1, sTru2, sTru3, sTru4, sDvm, List.map, List.length_cons, List.length_nil, List.replicate, List.cons_append, List.nil_append, List.append_nil, List.getElem?_cons_zero, List.getElem?_cons_succ, List.set_cons_zero, List.set_cons_succ, DL.eq_int, DL.ne_int, eq_str, ne_str, Bool.not_true, Bool.not_false, decide_true, decide_false, true_and, and_true, if_true, if_false, Bool.false_eq_true, ex_some]
    by_cases c1 : own < 0
    · rw [decide_eq_true c1]
      simp only [startD, endsD, wRet, wRetN, wAndV, wOrV, wNotV, wCB, wCons, wNil, wVar, wC, wChain, wOp, wUn, wIf, wIfE, wTv, wTru, wNot, wAnd, wOr, wSeq, wNext, wAsg, wDrop, dgN, dgT, dgCons, dgNil, dgSub, dgFldC, wPar, wTup, wLst, wLstC, wFldC, wSetFC, wMeth, wMake, wCall, wSl, wNoPart, wPart, wStar, wLenO, wTruO, wReprO, wBoolO, wCallN, wMakeN, wMethN, wFmt, wFS, wJs, wDNew, wDGet, wDPut, wBMl, wCallV, wCallE, gI20, gI2, gNeg, g1I, g2I, gNotN, gIsN, gIsB, D.isNon, sAdd1, sAdd2, sAdd3, sAdd4, sMul1, sMulT, sLen1, sLen2, sLen3, sInt1, sInt2, sTup1, sTup2, sLst1, sLst2, sSl1, sSl2, sSl3, sTru1, sTru2, sTru3, sTru4, sDvm, List.map, List.length_cons, List.length_nil, List.replicate, List.cons_append, List.nil_append, List.append_nil, List.getElem?_cons_zero, List.getElem?_cons_succ, List.set_cons_zero, List.set_cons_succ, DL.eq_int, DL.ne_int, eq_str, ne_str, Bool.not_true, Bool.not_false, decide_true, decide_false, true_and, and_true, if_true, if_false, Bool.false_eq_true, ex_some]
      exact end_ _
    · rw [decide_eq_false c1]
      simp only [startD, endsD, wRet, wRetN, wAndV, wOrV, wNotV, wCB, wCons, wNil, wVar, wC, wChain, wOp, wUn, wIf, wIfE, wTv, wTru, wNot, wAnd, wOr, wSeq, wNext, wAsg, wDrop, dgN, dgT, dgCons, dgNil, dgSub, dgFldC, wPar, wTup, wLst, wLstC, wFldC, wSetFC, wMeth, wMake, wCall, wSl, wNoPart, wPart, wStar, wLenO, wTruO, wReprO, wBoolO, wCallN, wMakeN, wMethN, wFmt, wFS, wJs, wDNew, wDGet, wDPut, wBMl, wCallV, wCallE, gI20, gI2, gNeg, g1I, g2I, gNotN, gIsN, gIsB, D.isNon, sAdd1, sAdd2, sAdd3, sAdd4, sMul1, sMulT, sLen1, sLen2, sLen3, sInt1, sInt2, sTup1, sTup2, sLst1, sLst2, sSl1, sSl2, sSl3, sTru1, sTru2, sTru3, sTru4, sDvm, List.map, List.length_cons, List.length_nil, List.replicate, List.cons_append, List.nil_append, List.append_nil, List.getElem?_cons_zero, List.getElem?_cons_succ, List.set_cons_zero, List.set_cons_succ, DL.eq_int, DL.ne_int, eq_str, ne_str, Bool.not_true, Bool.not_false, decide_true, decide_false, true_and, and_true, if_true, if_false, Bool.false_eq_true, ex_some]
      refine ⟨⟨by decide, by decide, by decide⟩, ?_⟩
      by_cases c2 : (10 : Int) ^ (18 : Int).toNat ≤ own
      · rw [decide_eq_true c2]
        simp only [startD, endsD, wRet, wRetN, wAndV, wOrV, wNotV, wCB, wCons, wNil, wVar, wC, wChain, wOp, wUn, wIf, wIfE, wTv, wTru, wNot, wAnd, wOr, wSeq, wNext, wAsg, wDrop, dgN, dgT, dgCons, dgNil, dgSub, dgFldC, wPar, wTup, wLst, wLstC, wFldC, wSetFC, wMeth, wMake, wCall, wSl, wNoPart, wPart, wStar, wLenO, wTruO, wReprO, wBoolO, wCallN, wMakeN, wMethN, wFmt, wFS, wJs, wDNew, wDGet, wDPut, wBMl, wCallV, wCallE, gI20, gI2, gNeg, g1I, g2I, gNotN, gIsN, gIsB, D.isNon, sAdd1, sAdd2, sAdd3, sAdd4, sMul1, sMulT, sLen1, sLen2, sLen3, sInt1, sInt2, sTup1, sTup2, sLst1, sLst2, sSl1, sSl2, sSl3, sTru1, sTru2, sTru3, sTru4, sDvm, List.map, List.length_cons, List.length_nil, List.replicate, List.cons_append, List.nil_append, List.append_nil, List.getElem?_cons_zero, List.getElem?_cons_succ, List.set_cons_zero, List.set_cons_succ, DL.eq_int, DL.ne_int, eq_str, ne_str, Bool.not_true, Bool.not_false, decide_true, decide_false, true_and, and_true, if_true, if_false, Bool.false_eq_true, ex_some]
        exact end_ _
      · rw [decide_eq_false c2]
        simp only [startD, endsD, wRet, wRetN, wAndV, wOrV, wNotV, wCB, wCons, wNil, wVar, wC, wChain, wOp, wUn, wIf, wIfE, wTv, wTru, wNot, wAnd, wOr, wSeq, wNext, wAsg, wDrop, dgN, dgT, dgCons, dgNil, dgSub, dgFldC, wPar, wTup, wLst, wLstC, wFldC, wSetFC, wMeth, wMake, wCall, wSl, wNoPart, wPart, wStar, wLenO, wTruO, wReprO, wBoolO, wCallN, wMakeN, wMethN, wFmt, wFS, wJs, wDNew, wDGet, wDPut, wBMl, wCallV, wCallE, gI20, gI2, gNeg, g1I, g2I, gNotN, gIsN, gIsB, D.isNon, sAdd1, sAdd2, sAdd3, sAdd4, sMul1, sMulT, sLen1, sLen2, sLen3, sInt1, sInt2, sTup1, sTup2, sLst1, sLst2, sSl1, sSl2, sSl3, sTru1, sTru2, sTru3, sTru4, sDvm, List.map, List.length_cons, List.length_nil, List.replicate, List.cons_append, List.nil_append, List.append_nil, List.getElem?_cons_zero, List.getElem?_cons_succ, List.set_cons_zero, List.set_cons_succ, DL.eq_int, DL.ne_int, eq_str, ne_str, Bool.not_true, Bool.not_false, decide_true, decide_false, true_and, and_true, if_true, if_false, Bool.false_eq_true, ex_some]
        exact end_ _
  rw [List.length_map]
  by_cases c : t < (ns.length : Int)
  · rw [decide_eq_true c]
    simp only [startD, endsD, wRet, wRetN, wAndV, wOrV, wNotV, wCB, wCons, wNil, wVar, wC, wChain, wOp, wUn, wIf, wIfE, wTv, wTru, wNot, wAnd, wOr, wSeq, wNext, wAsg, wDrop, dgN, dgT, dgCons, dgNil, dgSub, dgFldC, wPar, wTup, wLst, wLstC, wFldC, wSetFC, wMeth, wMake, wCall, wSl, wNoPart, wPart, wStar, wLenO, wTruO, wReprO, wBoolO, wCallN, wMakeN, wMethN, wFmt, wFS, wJs, wDNew, wDGet, wDPut, wBMl, wCallV, wCallE, gI20, gI2, gNeg, g1I, g2I, gNotN, gIsN, gIsB, D.isNon, sAdd1, sAdd2, sAdd3, sAdd4, sMul1, sMulT, sLen1, sLen2, sLen3, sInt1, sInt2, sTup1, sTup2, sLst1, sLst2, sSl1, sSl2, sSl3, sTru1, sTru2, sTru3, sTru4, sDvm, List.map, List.length_cons, List.length_nil, List.replicate, List.cons_append, List.nil_append, List.append_nil, List.getElem?_cons_zero, List.getElem?_cons_succ, List.set_cons_zero, List.set_cons_succ, DL.eq_int, DL.ne_int, eq_str, ne_str, Bool.not_true, Bool.not_false, decide_true, decide_false, true_and, and_true, if_true, if_false, Bool.false_eq_true, ex_some]
    have hn : t.toNat < ns.length := by omega
    rw [ix_lst (d := .int ns[t.toNat]) (atI_nat t0 (by rw [List.getElem?_map, List.getElem?_eq_getElem hn]; rfl))]
    simp only [startD, endsD, wRet, wRetN, wAndV, wOrV, wNotV, wCB, wCons, wNil, wVar, wC, wChain, wOp, wUn, wIf, wIfE, wTv, wTru, wNot, wAnd, wOr, wSeq, wNext, wAsg, wDrop, dgN, dgT, dgCons, dgNil, dgSub, dgFldC, wPar, wTup, wLst, wLstC, wFldC, wSetFC, wMeth, wMake, wCall, wSl, wNoPart, wPart, wStar, wLenO, wTruO, wReprO, wBoolO, wCallN, wMakeN, wMethN, wFmt, wFS, wJs, wDNew, wDGet, wDPut, wBMl, wCallV, wCallE, gI20, gI2, gNeg, g1I, g2I, gNotN, gIsN, gIsB, D.isNon, sAdd1, sAdd2, sAdd3, sAdd4, sMul1, sMulT, sLen1, sLen2, sLen3, sInt1, sInt2, sTup1, sTup2, sLst1, sLst2, sSl1, sSl2, sSl3, sTru1, sTru2, sTru3, sTru4, sDvm, List.map, List.length_cons, List.length_nil, List.replicate, List.cons_append, List.nil_append, List.append_nil, List.getElem?_cons_zero, List.getElem?_cons_succ, List.set_cons_zero, List.set_cons_succ, DL.eq_int, DL.ne_int, eq_str, ne_str, Bool.not_true, Bool.not_false, decide_true, decide_false, true_and, and_true, if_true, if_false, Bool.false_eq_true, ex_some]
    have q := fin ns[t.toNat]
    simp only [startD, endsD, wRet, wRetN, wAndV, wOrV, wNotV, wCB, wCons, wNil, wVar, wC, wChain, wOp, wUn, wIf, wIfE, wTv, wTru, wNot, wAnd, wOr, wSeq, wNext, wAsg, wDrop, dgN, dgT, dgCons, dgNil, dgSub, dgFldC, wPar, wTup, wLst, wLstC, wFldC, wSetFC, wMeth, wMake, wCall, wSl, wNoPart, wPart, wStar, wLenO, wTruO, wReprO, wBoolO, wCallN, wMakeN, wMethN, wFmt, wFS, wJs, wDNew, wDGet, wDPut, wBMl, wCallV, wCallE, gI20, gI2, gNeg, g1I, g2I, gNotN, gIsN, gIsB, D.isNon, sAdd1, sAdd2, sAdd3, sAdd4, sMul1, sMulT, sLen1, sLen2, sLen3, sInt1, sInt2, sTup1, sTup2, sLst1, sLst2, sSl1, sSl2, sSl3, sTru1, sTru2, sTru3, sTru4, sDvm, List.map, List.length_cons, List.length_nil, List.replicate, List.cons_append, List.nil_append, List.append_nil, List.getElem?_cons_zero, List.getElem?_cons_succ, List.set_cons_zero, List.set_cons_succ, DL.eq_int, DL.ne_int, eq_str, ne_str, Bool.not_true, Bool.not_false, decide_true, decide_false, true_and, and_true, if_true, if_false, Bool.false_eq_true, ex_some] at q
    exact q
  · rw [decide_eq_false c]
    simp only [startD, endsD, wRet, wRetN, wAndV, wOrV, wNotV, wCB, wCons, wNil, wVar, wC, wChain, wOp, wUn, wIf, wIfE, wTv, wTru, wNot, wAnd, wOr, wSeq, wNext, wAsg, wDrop, dgN, dgT, dgCons, dgNil, dgSub, dgFldC, wPar, wTup, wLst, wLstC, wFldC, wSetFC, wMeth, wMake, wCall, wSl, wNoPart, wPart, wStar, wLenO, wTruO, wReprO, wBoolO, wCallN, wMakeN, wMethN, wFmt, wFS, wJs, wDNew, wDGet, wDPut, wBMl, wCallV, wCallE, gI20, gI2, gNeg, g1I, g2I, gNotN, gIsN, gIsB, D.isNon, sAdd1, sAdd2, sAdd3, sAdd4, sMul1, sMulT, sLen1, sLen2, sLen3, sInt1, sInt2, sTup1, sTup2, sLst1, sLst2, sSl1, sSl2, sSl3, sTru1, sTru2, sTru3, sTru4, sDvm, List.map, List.length_cons, List.length_nil, List.replicate, List.cons_append, List.nil_append, List.append_nil, List.getElem?_cons_zero, List.getElem?_cons_succ, List.set_cons_zero, List.set_cons_succ, DL.eq_int, DL.ne_int, eq_str, ne_str, Bool.not_true, Bool.not_false, decide_true, decide_false, true_and, and_true, if_true, if_false, Bool.false_eq_true, ex_some]
    have q := fin s
    simp only [startD, endsD, wRet, wRetN, wAndV, wOrV, wNotV, wCB, wCons, wNil, wVar, wC, wChain, wOp, wUn, wIf, wIfE, wTv, wTru, wNot, wAnd, wOr, wSeq, wNext, wAsg, wDrop, dgN, dgT, dgCons, dgNil, dgSub, dgFldC, wPar, wTup, wLst, wLstC, wFldC, wSetFC, wMeth, wMake, wCall, wSl, wNoPart, wPart, wStar, wLenO, wTruO, wReprO, wBoolO, wCallN, wMakeN, wMethN, wFmt, wFS, wJs, wDNew, wDGet, wDPut, wBMl, wCallV, wCallE, gI20, gI2, gNeg, g1I, g2I, gNotN, gIsN, gIsB, D.isNon, sAdd1, sAdd2, sAdd3, sAdd4, sMul1, sMulT, sLen1, sLen2, sLen3, sInt1, sInt2, sTup1, sTup2, sLst1, sLst2, sSl1, sSl2, sSl3, sTru1, sTru2, sTru3, sTru4, sDvm, List.map, List.length_cons, List.length_nil, List.replicate, List.cons_append, List.nil_append, List.append_nil, List.getElem?_cons_zero, List.getElem?_cons_succ, List.set_cons_zero, List.set_cons_succ, DL.eq_int, DL.ne_int, eq_str, ne_str, Bool.not_true, Bool.not_false, decide_true, decide_false, true_and, and_true, if_true, if_false, Bool.false_eq_true, ex_some] at q
    exact q

theorem nip_at {K : PySem.W.Frag} {st : Sto} {b : Addr} {n : Int} {Kn : KD} {Kx : KX} (bn : binAt st b) (h1 : 1 ≤ n) (h2 : n < 1073741824) (h : ∀ v st', 0 ≤ v → v < n → Kp b st st' → Kn (.int v) st') : sp_law_nip K [.ref b, .int n] st Kn Kx :=
  ⟨b, n, rfl, bn, ⟨h1, h2⟩, h⟩
theorem pick_at {K : PySem.W.Frag} {st : Sto} {b : Addr} {xs : List D} {Kn : KD} {Kx : KX} (bn : binAt st b) (h1 : xs ≠ []) (h2 : xs.length ≤ 1000) (h : ∀ v st', v ∈ xs → Kp b st st' → Kn v st') : sp_law_pick K [.ref b, .lst xs] st Kn Kx :=
  ⟨b, .non, xs, .inl rfl, bn, ⟨h1, h2⟩, h⟩
theorem pure_law_pick {K : PySem.W.Frag} (T : TP K) : Pu_law_pick K := by
  rintro ds st Kn Kx - ⟨b, _, xs, e, bn, ⟨h1, h2⟩, h⟩
  have pos : 0 < xs.length := List.length_pos_iff.mpr h1
  rcases e with rfl | rfl
  · simp only [startD, endsD, wRet, wRetN, wAndV, wOrV, wNotV, wCB, wCons, wNil, wVar, wC, wChain, wOp, wUn, wIf, wIfE, wTv, wTru, wNot, wAnd, wOr, wSeq, wNext, wAsg, wDrop, dgN, dgT, dgCons, dgNil, dgSub, dgFldC, wPar, wTup, wLst, wLstC, wFldC, wSetFC, wMeth, wMake, wCall, wSl, wNoPart, wPart, wStar, wLenO, wTruO, wReprO, wBoolO, wCallN, wMakeN, wMethN, wFmt, wFS, wJs, wDNew, wDGet, wDPut, wBMl, wCallV, wCallE, gI20, gI2, gNeg, g1I, g2I, gNotN, gIsN, gIsB, D.isNon, sAdd1, sAdd2, sAdd3, sAdd4, sMul1, sMulT, sLen1, sLen2, sLen3, sInt1, sInt2, sTup1, sTup2, sLst1, sLst2, sSl1, sSl2, sSl3, sTru1, sTru2, sTru3, sTru4, sDvm, List.map, List.length_cons, List.length_nil, List.replicate, List.cons_append, List.nil_append, List.append_nil, List.getElem?_cons_zero, List.getElem?_cons_succ, List.set_cons_zero, List.set_cons_succ, DL.eq_int, DL.ne_int, eq_str, ne_str, Bool.not_true, Bool.not_false, decide_true, decide_false, true_and, and_true, if_true, if_false, Bool.false_eq_true, ex_some]
    refine nip_at bn (by omega) (by omega) fun v st' v0 v1 kp => ?_
    have hv : v.toNat < xs.length := by omega
    rw [ix_lst (d := xs[v.toNat]) (atI_nat v0 (List.getElem?_eq_getElem hv))]
    exact h _ _ (List.getElem_mem hv) kp
  · simp only [startD, endsD, wRet, wRetN, wAndV, wOrV, wNotV, wCB, wCons, wNil, wVar, wC, wChain, wOp, wUn, wIf, wIfE, wTv, wTru, wNot, wAnd, wOr, wSeq, wNext, wAsg, wDrop, dgN, dgT, dgCons, dgNil, dgSub, dgFldC, wPar, wTup, wLst, wLstC, wFldC, wSetFC, wMeth, wMake, wCall, wSl, wNoPart, wPart, wStar, wLenO, wTruO, wReprO, wBoolO, wCallN, wMakeN, wMethN, wFmt, wFS, wJs, wDNew, wDGet, wDPut, wBMl, wCallV, wCallE, gI20, gI2, gNeg, g1I, g2I, gNotN, gIsN, gIsB, D.isNon, sAdd1, sAdd2, sAdd3, sAdd4, sMul1, sMulT, sLen1, sLen2, sLen3, sInt1, sInt2, sTup1, sTup2, sLst1, sLst2, sSl1, sSl2, sSl3, sTru1, sTru2, sTru3, sTru4, sDvm, List.map, List.length_cons, List.length_nil, List.replicate, List.cons_append, List.nil_append, List.append_nil, List.getElem?_cons_zero, List.getElem?_cons_succ, List.set_cons_zero, List.set_cons_succ, DL.eq_int, DL.ne_int, eq_str, ne_str, Bool.not_true, Bool.not_false, decide_true, decide_false, true_and, and_true, if_true, if_false, Bool.false_eq_true, ex_some]
    refine nip_at bn (by omega) (by omega) fun v st' v0 v1 kp => ?_
    have hv : v.toNat < xs.length := by omega
    exact ix_tup v0 (List.getElem?_eq_getElem hv) (h _ _ (List.getElem_mem hv) kp)

abbrev bMix4 (K : PySem.W.Frag) : WS := wSeq (wAsg (wCallN 2 (sp_law_pick K) (wCons (wVar 0) (wCons (wLst (wCons (wC (.int 0)) (wCons (wC (.int 0)) (wCons (wCallN 2 (sp_law_nip K) (wCons (wVar 0) (wCons (wOp gAdd (wVar 3) (wC (.int 1))) wNil))) (wCons (wVar 3) wNil))))) wNil))) (dgN 7))
    (wDrop (wApp (wVar 4) (wCons (wTup (wCons (wCallN 2 (sp_law_nip K) (wCons (wVar 0) (wCons (wVar 2) wNil))) (wCons (wVar 7) wNil))) wNil)))
theorem loop_mix4 {K : PySem.W.Frag} {b s o : Addr} {c top : Int} {e1 : Option D} {DD : DEnds} (hc : 1 ≤ c ∧ c ≤ 8) (ht : 1 ≤ top ∧ top ≤ 1000000) (sb : s ≠ b) : ∀ (xs : List D) (ls : List (Int × Int)) (e6 e7 : Option D) (st : Sto), binAt st b → st.lookup s = some (.lst (ls.map pD)) → (∀ p ∈ ls, okE c p) → ls.length + xs.length ≤ 100 →
    (∀ (ls' : List (Int × Int)) (e6 e7 : Option D) (st' : Sto), ls'.length = ls.length + xs.length → binAt st' b → st'.lookup s = some (.lst (ls'.map pD)) → (∀ p ∈ ls', okE c p) → (∀ x d, x ≠ b → x ≠ s → st.lookup x = some d → st'.lookup x = some d) → DD.nx [some (.ref b), e1, some (.int c), some (.int top), some (.ref s), some (.ref o), e6, e7] st') →
    forL (dgN 6) (bMix4 K) DD xs [some (.ref b), e1, some (.int c), some (.int top), some (.ref s), some (.ref o), e6, e7] st
  | [], ls, e6, e7, st, bn, l, ho, _, h => h ls e6 e7 st (by simp) bn l ho fun _ _ _ _ l => l
  | x :: xs, ls, e6, e7, st, bn, l, ho, hl, h => by
    unfold forL
    simp only [startD, endsD, wRet, wRetN, wAndV, wOrV, wNotV, wCB, wCons, wNil, wVar, wC, wChain, wOp, wUn, wIf, wIfE, wTv, wTru, wNot, wAnd, wOr, wSeq, wNext, wAsg, wDrop, dgN, dgT, dgCons, dgNil, dgSub, dgFldC, wPar, wTup, wLst, wLstC, wFldC, wSetFC, wMeth, wMake, wCall, wSl, wNoPart, wPart, wStar, wLenO, wTruO, wReprO, wBoolO, wCallN, wMakeN, wMethN, wFmt, wFS, wJs, wDNew, wDGet, wDPut, wBMl, wCallV, wCallE, gI20, gI2, gNeg, g1I, g2I, gNotN, gIsN, gIsB, D.isNon, sAdd1, sAdd2, sAdd3, sAdd4, sMul1, sMulT, sLen1, sLen2, sLen3, sInt1, sInt2, sTup1, sTup2, sLst1, sLst2, sSl1, sSl2, sSl3, sTru1, sTru2, sTru3, sTru4, sDvm, List.map, List.length_cons, List.length_nil, List.replicate, List.cons_append, List.nil_append, List.append_nil, List.getElem?_cons_zero, List.getElem?_cons_succ, List.set_cons_zero, List.set_cons_succ, DL.eq_int, DL.ne_int, eq_str, ne_str, Bool.not_true, Bool.not_false, decide_true, decide_false, true_and, and_true, if_true, if_false, Bool.false_eq_true, ex_some]
    refine nip_at bn (by omega) (by omega) fun v st1 v0 v1 k1 => ?_
    refine ⟨sl_small (by decide), ?_⟩
    refine pick_at k1.1 (by simp) (by exact (by decide : 4 ≤ 1000)) fun g st2 hg k2 => ?_
    have hg2 : ∃ z : Int, g = .int z ∧ 0 ≤ z ∧ z ≤ 1000000 := by
      simp only [List.mem_cons, List.not_mem_nil, or_false] at hg
      rcases hg with rfl | rfl | rfl | rfl
      · exact ⟨_, rfl, by decide, by decide⟩
      · exact ⟨_, rfl, by decide, by decide⟩
      · exact ⟨_, rfl, by omega, by omega⟩
      · exact ⟨_, rfl, by omega, by omega⟩
    obtain ⟨z, rfl, z0, z1⟩ := hg2
    have k12 := k1.trans k2
    have l2 := k12.2 s _ sb l
    simp only [wApp]
    simp only [startD, endsD, wRet, wRetN, wAndV, wOrV, wNotV, wCB, wCons, wNil, wVar, wC, wChain, wOp, wUn, wIf, wIfE, wTv, wTru, wNot, wAnd, wOr, wSeq, wNext, wAsg, wDrop, dgN, dgT, dgCons, dgNil, dgSub, dgFldC, wPar, wTup, wLst, wLstC, wFldC, wSetFC, wMeth, wMake, wCall, wSl, wNoPart, wPart, wStar, wLenO, wTruO, wReprO, wBoolO, wCallN, wMakeN, wMethN, wFmt, wFS, wJs, wDNew, wDGet, wDPut, wBMl, wCallV, wCallE, gI20, gI2, gNeg, g1I, g2I, gNotN, gIsN, gIsB, D.isNon, sAdd1, sAdd2, sAdd3, sAdd4, sMul1, sMulT, sLen1, sLen2, sLen3, sInt1, sInt2, sTup1, sTup2, sLst1, sLst2, sSl1, sSl2, sSl3, sTru1, sTru2, sTru3, sTru4, sDvm, List.map, List.length_cons, List.length_nil, List.replicate, List.cons_append, List.nil_append, List.append_nil, List.getElem?_cons_zero, List.getElem?_cons_succ, List.set_cons_zero, List.set_cons_succ, DL.eq_int, DL.ne_int, eq_str, ne_str, Bool.not_true, Bool.not_false, decide_true, decide_false, true_and, and_true, if_true, if_false, Bool.false_eq_true, ex_some]
    refine ⟨⟨s, _, rfl, l2⟩, ?_⟩
    refine nip_at k2.1 (by omega) (by omega) fun w st3 w0 w1 k3 => ?_
    have k13 := k12.trans k3
    have l3 := k13.2 s _ sb l
    refine ⟨sl_small (by decide), ?_⟩
    simp only [gApp, l3]
    rw [List.length_cons] at hl
    refine ⟨by rw [List.length_map, sizeLine_eq]; omega, ?_⟩
    have e : ls.map pD ++ [D.tup [.int w, .int z]] = (ls ++ [(w, z)]).map pD := by rw [List.map_append]; rfl
    rw [e]
    refine loop_mix4 hc ht sb xs (ls ++ [(w, z)]) _ _ _ ?_ (put_lookup l3) (fun p hp => ?_) (by rw [List.length_append, List.length_cons, List.length_nil]; omega) fun ls' e6 e7 st' hl' bn' l' ho' oth => h ls' e6 e7 st' (by rw [hl', List.length_append, List.length_cons, List.length_nil, List.length_cons]; omega) bn' l' ho' fun x d n1 n2 lx => oth x d n1 n2 (by rw [put_other n2]; exact k13.2 x d n1 lx)
    · obtain ⟨x, y, z', e⟩ := k3.1
      exact ⟨x, y, z', by rw [put_other (Ne.symm sb)]; exact e⟩
    · rcases List.mem_append.mp hp with q | q
      · exact ho p q
      · have q : p = (w, z) := by simpa using q
        rw [q]
        exact ⟨w0, w1, z0, z1⟩

abbrev bMix5 (K : PySem.W.Frag) : WS := wSeq (wAsg (wCallN 2 (sp_law_pick K) (wCons (wVar 0) (wCons (wLst (wCons (wC (.int 0)) (wCons (wC (.int 1)) (wCons (wCallN 2 (sp_law_nip K) (wCons (wVar 0) (wCons (wOp gAdd (wVar 3) (wC (.int 1))) wNil))) (wCons (wVar 3) wNil))))) wNil))) (dgN 7))
    (wDrop (wApp (wVar 5) (wCons (wTup (wCons (wCallN 2 (sp_law_nip K) (wCons (wVar 0) (wCons (wVar 2) wNil))) (wCons (wVar 7) wNil))) wNil)))
theorem loop_mix5 {K : PySem.W.Frag} {b s o : Addr} {c top : Int} {e1 : Option D} {DD : DEnds} (hc : 1 ≤ c ∧ c ≤ 8) (ht : 1 ≤ top ∧ top ≤ 1000000) (sb : s ≠ b) : ∀ (xs : List D) (ls : List (Int × Int)) (e6 e7 : Option D) (st : Sto), binAt st b → st.lookup s = some (.lst (ls.map pD)) → (∀ p ∈ ls, okE c p) → ls.length + xs.length ≤ 100 →
    (∀ (ls' : List (Int × Int)) (e6 e7 : Option D) (st' : Sto), ls'.length = ls.length + xs.length → binAt st' b → st'.lookup s = some (.lst (ls'.map pD)) → (∀ p ∈ ls', okE c p) → (∀ x d, x ≠ b → x ≠ s → st.lookup x = some d → st'.lookup x = some d) → DD.nx [some (.ref b), e1, some (.int c), some (.int top), some (.ref o), some (.ref s), e6, e7] st') →
    forL (dgN 6) (bMix5 K) DD xs [some (.ref b), e1, some (.int c), some (.int top), some (.ref o), some (.ref s), e6, e7] st
  | [], ls, e6, e7, st, bn, l, ho, _, h => h ls e6 e7 st (by simp) bn l ho fun _ _ _ _ l => l
  | x :: xs, ls, e6, e7, st, bn, l, ho, hl, h => by
    unfold forL
    simp only [startD, endsD, wRet, wRetN, wAndV, wOrV, wNotV, wCB, wCons, wNil, wVar, wC, wChain, wOp, wUn, wIf, wIfE, wTv, wTru, wNot, wAnd, wOr, wSeq, wNext, wAsg, wDrop, dgN, dgT, dgCons, dgNil, dgSub, dgFldC, wPar, wTup, wLst, wLstC, wFldC, wSetFC, wMeth, wMake, wCall, wSl, wNoPart, wPart, wStar, wLenO, wTruO, wReprO, wBoolO, wCallN, wMakeN, wMethN, wFmt, wFS, wJs, wDNew, wDGet, wDPut, wBMl, wCallV, wCallE, gI20, gI2, gNeg, g1I, g2I, gNotN, gIsN, gIsB, D.isNon, sAdd1, sAdd2, sAdd3, sAdd4, sMul1, sMulT, sLen1, sLen2, sLen3, sInt1, sInt2, sTup1, sTup2, sLst1, sLst2, sSl1, sSl2, sSl3, sTru1, sTru2, sTru3, sTru4, sDvm, List.map, List.length_cons, List.length_nil, List.replicate, List.cons_append, List.nil_append, List.append_nil, List.getElem?_cons_zero, List.getElem?_cons_succ, List.set_cons_zero, List.set_cons_succ, DL.eq_int, DL.ne_int, eq_str, ne_str, Bool.not_true, Bool.not_false, decide_true, decide_false, true_and, and_true, if_true, if_false, Bool.false_eq_true, ex_some]
    refine nip_at bn (by omega) (by omega) fun v st1 v0 v1 k1 => ?_
    refine ⟨sl_small (by decide), ?_⟩
    refine pick_at k1.1 (by simp) (by exact (by decide : 4 ≤ 1000)) fun g st2 hg k2 => ?_
    have hg2 : ∃ z : Int, g = .int z ∧ 0 ≤ z ∧ z ≤ 1000000 := by
      simp only [List.mem_cons, List.not_mem_nil, or_false] at hg
      rcases hg with rfl | rfl | rfl | rfl
      · exact ⟨_, rfl, by decide, by decide⟩
      · exact ⟨_, rfl, by decide, by decide⟩
      · exact ⟨_, rfl, by omega, by omega⟩
      · exact ⟨_, rfl, by omega, by omega⟩
    obtain ⟨z, rfl, z0, z1⟩ := hg2
    have k12 := k1.trans k2
    have l2 := k12.2 s _ sb l
    simp only [wApp]
    simp only [startD, endsD, wRet, wRetN, wAndV, wOrV, wNotV, wCB, wCons, wNil, wVar, wC, wChain, wOp, wUn, wIf, wIfE, wTv, wTru, wNot, wAnd, wOr, wSeq, wNext, wAsg, wDrop, dgN, dgT, dgCons, dgNil, dgSub, dgFldC, wPar, wTup, wLst, wLstC, wFldC, wSetFC, wMeth, wMake, wCall, wSl, wNoPart, wPart, wStar, wLenO, wTruO, wReprO, wBoolO, wCallN, wMakeN, wMethN, wFmt, wFS, wJs, wDNew, wDGet, wDPut, wBMl, wCallV, wCallE, gI20, gI2, gNeg, g1I, g2I, gNotN, gIsN, gIsB, D.isNon, sAdd1, sAdd2, sAdd3, sAdd4, sMul1, sMulT, sLen1, sLen2, sLen3, sInt1, sInt2, sTup1, sTup2, sLst1, sLst2, sSl1, sSl2, sSl3, sTru1, sTru2, sTru3, sTru4, sDvm, List.map, List.length_cons, List.length_nil, List.replicate, List.cons_append, List.nil_append, List.append_nil, List.getElem?_cons_zero, List.getElem?_cons_succ, List.set_cons_zero, List.set_cons_succ, DL.eq_int, DL.ne_int, eq_str, ne_str, Bool.not_true, Bool.not_false, decide_true, decide_false, true_and, and_true, if_true, if_false, Bool.false_eq_true, ex_some]
    refine ⟨⟨s, _, rfl, l2⟩, ?_⟩
    refine nip_at k2.1 (by omega) (by omega) fun w st3 w0 w1 k3 => ?_
    have k13 := k12.trans k3
    have l3 := k13.2 s _ sb l
    refine ⟨sl_small (by decide), ?_⟩
    simp only [gApp, l3]
    rw [List.length_cons] at hl
    refine ⟨by rw [List.length_map, sizeLine_eq]; omega, ?_⟩
    have e : ls.map pD ++ [D.tup [.int w, .int z]] = (ls ++ [(w, z)]).map pD := by rw [List.map_append]; rfl
    rw [e]
    refine loop_mix5 hc ht sb xs (ls ++ [(w, z)]) _ _ _ ?_ (put_lookup l3) (fun p hp => ?_) (by rw [List.length_append, List.length_cons, List.length_nil]; omega) fun ls' e6 e7 st' hl' bn' l' ho' oth => h ls' e6 e7 st' (by rw [hl', List.length_append, List.length_cons, List.length_nil, List.length_cons]; omega) bn' l' ho' fun x d n1 n2 lx => oth x d n1 n2 (by rw [put_other n2]; exact k13.2 x d n1 lx)
    · obtain ⟨x, y, z', e⟩ := k3.1
      exact ⟨x, y, z', by rw [put_other (Ne.symm sb)]; exact e⟩
    · rcases List.mem_append.mp hp with q | q
      · exact ho p q
      · have q : p = (w, z) := by simpa using q
        rw [q]
        exact ⟨w0, w1, z0, z1⟩

theorem tri_le (c : Int) (h1 : 1 ≤ c) (h8 : c ≤ 8) : 0 ≤ c * (c + 1) / 2 ∧ c * (c + 1) / 2 ≤ 36 := by
  have key : ∀ c : Fin 9, 0 ≤ (c.val : Int) * ((c.val : Int) + 1) / 2 ∧ (c.val : Int) * ((c.val : Int) + 1) / 2 ≤ 36 := by decide +kernel
  have q := key ⟨c.toNat, by omega⟩
  have e1 : ((c.toNat : Nat) : Int) = c := by omega
  simp only [e1] at q
  exact q
theorem pure_law_mix {K : PySem.W.Frag} (T : TP K) : Pu_law_mix K := by
  rintro ds st Kn Kx - ⟨b, n, rfl, bn, ⟨n1, n8⟩, h⟩
  simp only [startD, endsD, wRet, wRetN, wAndV, wOrV, wNotV, wCB, wCons, wNil, wVar, wC, wChain, wOp, wUn, wIf, wIfE, wTv, wTru, wNot, wAnd, wOr, wSeq, wNext, wAsg, wDrop, dgN, dgT, dgCons, dgNil, dgSub, dgFldC, wPar, wTup, wLst, wLstC, wFldC, wSetFC, wMeth, wMake, wCall, wSl, wNoPart, wPart, wStar, wLenO, wTruO, wReprO, wBoolO, wCallN, wMakeN, wMethN, wFmt, wFS, wJs, wDNew, wDGet, wDPut, wBMl, wCallV, wCallE, gI20, gI2, gNeg, g1I, g2I, gNotN, gIsN, gIsB, D.isNon, sAdd1, sAdd2, sAdd3, sAdd4, sMul1, sMulT, sLen1, sLen2, sLen3, sInt1, sInt2, sTup1, sTup2, sLst1, sLst2, sSl1, sSl2, sSl3, sTru1, sTru2, sTru3, sTru4, sDvm, List.map, List.length_cons, List.length_nil, List.replicate, List.cons_append, List.nil_append, List.append_nil, List.getElem?_cons_zero, List.getElem?_cons_succ, List.set_cons_zero, List.set_cons_succ, DL.eq_int, DL.ne_int, eq_str, ne_str, Bool.not_true, Bool.not_false, decide_true, decide_false, true_and, and_true, if_true, if_false, Bool.false_eq_true, ex_some]
  refine nip_at bn (by omega) (by omega) fun c0 st1 c1 c2 k1 => ?_
  refine ⟨⟨by decide, by decide, by decide⟩, sl_small (by decide), ?_⟩
  refine pick_at k1.1 (by simp) (by exact (by decide : 3 ≤ 1000)) fun t0 st2 ht k2 => ?_
  have ht2 : ∃ top : Int, t0 = .int top ∧ 1 ≤ top ∧ top ≤ 1000000 := by
    simp only [List.mem_cons, List.not_mem_nil, or_false] at ht
    rcases ht with rfl | rfl | rfl
    · exact ⟨_, rfl, by decide, by decide⟩
    · exact ⟨_, rfl, by decide, by decide⟩
    · exact ⟨_, rfl, by decide, by decide⟩
  obtain ⟨top, rfl, t1, t2⟩ := ht2
  refine ⟨sl_small (by decide), fun s ns => ⟨sl_small (by decide), fun t nt => ?_⟩⟩
  have k12 := k1.trans k2
  obtain ⟨x, y, z, lb⟩ := id k2.1
  have sb : b ≠ s := ne_on lb ns
  have ts : s ≠ t := fun e => nt (by rw [← e]; exact List.mem_cons_self)
  have lb2 : List.lookup b ((s, Cell.lst []) :: st2) = some (binD x y z) := by rw [old_lookup sb]; exact lb
  have tb : b ≠ t := ne_on lb2 nt
  have bn3 : binAt ((t, Cell.lst []) :: (s, Cell.lst []) :: st2) b := ⟨x, y, z, by rw [old_lookup tb]; exact lb2⟩
  simp only [wForR1]
  simp only [startD, endsD, wRet, wRetN, wAndV, wOrV, wNotV, wCB, wCons, wNil, wVar, wC, wChain, wOp, wUn, wIf, wIfE, wTv, wTru, wNot, wAnd, wOr, wSeq, wNext, wAsg, wDrop, dgN, dgT, dgCons, dgNil, dgSub, dgFldC, wPar, wTup, wLst, wLstC, wFldC, wSetFC, wMeth, wMake, wCall, wSl, wNoPart, wPart, wStar, wLenO, wTruO, wReprO, wBoolO, wCallN, wMakeN, wMethN, wFmt, wFS, wJs, wDNew, wDGet, wDPut, wBMl, wCallV, wCallE, gI20, gI2, gNeg, g1I, g2I, gNotN, gIsN, gIsB, D.isNon, sAdd1, sAdd2, sAdd3, sAdd4, sMul1, sMulT, sLen1, sLen2, sLen3, sInt1, sInt2, sTup1, sTup2, sLst1, sLst2, sSl1, sSl2, sSl3, sTru1, sTru2, sTru3, sTru4, sDvm, List.map, List.length_cons, List.length_nil, List.replicate, List.cons_append, List.nil_append, List.append_nil, List.getElem?_cons_zero, List.getElem?_cons_succ, List.set_cons_zero, List.set_cons_succ, DL.eq_int, DL.ne_int, eq_str, ne_str, Bool.not_true, Bool.not_false, decide_true, decide_false, true_and, and_true, if_true, if_false, Bool.false_eq_true, ex_some]
  refine nip_at bn3 (by decide) (by decide) fun q st3 q0 q1 k3 => ?_
  have ls0 : st3.lookup s = some (.lst []) := k3.2 s _ (Ne.symm sb) (by rw [old_lookup ts, new_lookup])
  have lt0 : st3.lookup t = some (.lst []) := k3.2 t _ (Ne.symm tb) new_lookup
  refine ⟨⟨by omega, by omega⟩, ?_⟩
  refine loop_mix4 (s := s) (o := t) ⟨by omega, by omega⟩ ⟨t1, t2⟩ (Ne.symm sb) _ [] _ _ st3 k3.1 ls0 (fun p hp => absurd hp (by simp)) (by rw [rngD_length, List.length_nil]; omega) fun ss e6 e7 st4 hs bn4 l4 ho4 oth4 => ?_
  rw [rngD_length, List.length_nil] at hs
  have lt4 := oth4 t _ (Ne.symm tb) (Ne.symm ts) lt0
  have tri := tri_le (1 + c0) (by omega) (by omega)
  simp only [startD, endsD, wRet, wRetN, wAndV, wOrV, wNotV, wCB, wCons, wNil, wVar, wC, wChain, wOp, wUn, wIf, wIfE, wTv, wTru, wNot, wAnd, wOr, wSeq, wNext, wAsg, wDrop, dgN, dgT, dgCons, dgNil, dgSub, dgFldC, wPar, wTup, wLst, wLstC, wFldC, wSetFC, wMeth, wMake, wCall, wSl, wNoPart, wPart, wStar, wLenO, wTruO, wReprO, wBoolO, wCallN, wMakeN, wMethN, wFmt, wFS, wJs, wDNew, wDGet, wDPut, wBMl, wCallV, wCallE, gI20, gI2, gNeg, g1I, g2I, gNotN, gIsN, gIsB, D.isNon, sAdd1, sAdd2, sAdd3, sAdd4, sMul1, sMulT, sLen1, sLen2, sLen3, sInt1, sInt2, sTup1, sTup2, sLst1, sLst2, sSl1, sSl2, sSl3, sTru1, sTru2, sTru3, sTru4, sDvm, List.map, List.length_cons, List.length_nil, List.replicate, List.cons_append, List.nil_append, List.append_nil, List.getElem?_cons_zero, List.getElem?_cons_succ, List.set_cons_zero, List.set_cons_succ, DL.eq_int, DL.ne_int, eq_str, ne_str, Bool.not_true, Bool.not_false, decide_true, decide_false, true_and, and_true, if_true, if_false, Bool.false_eq_true, ex_some]
  refine ⟨cmul_small (by omega) (by omega), ⟨by decide, by decide⟩, ⟨by omega, by omega⟩, ?_⟩
  refine loop_mix5 (s := t) (o := s) ⟨by omega, by omega⟩ ⟨t1, t2⟩ (Ne.symm tb) _ [] _ _ st4 bn4 lt4 (fun p hp => absurd hp (by simp)) (by rw [rngD_length, List.length_nil]; omega) fun tt e6 e7 st5 h5 bn5 l5 ho5 oth5 => ?_
  rw [rngD_length, List.length_nil] at h5
  have ls5 := oth5 s _ (Ne.symm sb) ts l4
  simp only [startD, endsD, wRet, wRetN, wAndV, wOrV, wNotV, wCB, wCons, wNil, wVar, wC, wChain, wOp, wUn, wIf, wIfE, wTv, wTru, wNot, wAnd, wOr, wSeq, wNext, wAsg, wDrop, dgN, dgT, dgCons, dgNil, dgSub, dgFldC, wPar, wTup, wLst, wLstC, wFldC, wSetFC, wMeth, wMake, wCall, wSl, wNoPart, wPart, wStar, wLenO, wTruO, wReprO, wBoolO, wCallN, wMakeN, wMethN, wFmt, wFS, wJs, wDNew, wDGet, wDPut, wBMl, wCallV, wCallE, gI20, gI2, gNeg, g1I, g2I, gNotN, gIsN, gIsB, D.isNon, sAdd1, sAdd2, sAdd3, sAdd4, sMul1, sMulT, sLen1, sLen2, sLen3, sInt1, sInt2, sTup1, sTup2, sLst1, sLst2, sSl1, sSl2, sSl3, sTru1, sTru2, sTru3, sTru4, sDvm, List.map, List.length_cons, List.length_nil, List.replicate, List.cons_append, List.nil_append, List.append_nil, List.getElem?_cons_zero, List.getElem?_cons_succ, List.set_cons_zero, List.set_cons_succ, DL.eq_int, DL.ne_int, eq_str, ne_str, Bool.not_true, Bool.not_false, decide_true, decide_false, true_and, and_true, if_true, if_false, Bool.false_eq_true, ex_some]
  rw [tup_cell ls5, tup_cell l5]
  refine ⟨sl_small (by decide), h ⟨1 + c0, ss, tt, []⟩ st5 ⟨by show 1 ≤ 1 + c0; omega, by show 1 + c0 ≤ 8; omega, by show 1 ≤ ss.length; omega, by show ss.length ≤ 3; omega, ho4, by show (tt.length : Int) = (1 + c0) * (1 + c0 + 1) / 2; omega, ho5⟩ (by show 1 + c0 ≤ n; omega) rfl ⟨bn5, fun x d nx lx => ?_⟩⟩
  have l2 := k12.2 x d nx lx
  have xs : x ≠ s := ne_on l2 ns
  have l2' : List.lookup x ((s, Cell.lst []) :: st2) = some d := by rw [old_lookup xs]; exact l2
  have xt : x ≠ t := ne_on l2' nt
  exact oth5 x d nx xt (oth4 x d nx xs (k3.2 x d nx (by rw [old_lookup xt]; exact l2')))
theorem pure_law_made {K : PySem.W.Frag} (T : TP K) : Pu_law_made K := by
  rintro ds st Kn Kx - ⟨m, rfl, ok, h⟩
  unfold mixD
  simp only [startD, endsD, wRet, wRetN, wAndV, wOrV, wNotV, wCB, wCons, wNil, wVar, wC, wChain, wOp, wUn, wIf, wIfE, wTv, wTru, wNot, wAnd, wOr, wSeq, wNext, wAsg, wDrop, dgN, dgT, dgCons, dgNil, dgSub, dgFldC, wPar, wTup, wLst, wLstC, wFldC, wSetFC, wMeth, wMake, wCall, wSl, wNoPart, wPart, wStar, wLenO, wTruO, wReprO, wBoolO, wCallN, wMakeN, wMethN, wFmt, wFS, wJs, wDNew, wDGet, wDPut, wBMl, wCallV, wCallE, gI20, gI2, gNeg, g1I, g2I, gNotN, gIsN, gIsB, D.isNon, sAdd1, sAdd2, sAdd3, sAdd4, sMul1, sMulT, sLen1, sLen2, sLen3, sInt1, sInt2, sTup1, sTup2, sLst1, sLst2, sSl1, sSl2, sSl3, sTru1, sTru2, sTru3, sTru4, sDvm, List.map, List.length_cons, List.length_nil, List.replicate, List.cons_append, List.nil_append, List.append_nil, List.getElem?_cons_zero, List.getElem?_cons_succ, List.set_cons_zero, List.set_cons_succ, DL.eq_int, DL.ne_int, eq_str, ne_str, Bool.not_true, Bool.not_false, decide_true, decide_false, true_and, and_true, if_true, if_false, Bool.false_eq_true, ex_some]
  refine ix_tup (by decide) rfl (ix_tup (by decide) rfl (ix_tup (by decide) rfl ?_))
  intro a na
  exact ⟨a, m.c, m.st, m.tb, rfl, new_lookup, ok, fun ks => ⟨rfl, by rw [put_new na]; exact h a ks na⟩⟩
theorem pure_law_begun {K : PySem.W.Frag} (T : TP K) : Pu_law_begun K := by
  rintro ds st Kn Kx - ⟨m, rfl, ok, h⟩
  have s1 := ok.s1
  have s3 := ok.s3
  unfold mixD
  simp only [startD, endsD, wRet, wRetN, wAndV, wOrV, wNotV, wCB, wCons, wNil, wVar, wC, wChain, wOp, wUn, wIf, wIfE, wTv, wTru, wNot, wAnd, wOr, wSeq, wNext, wAsg, wDrop, dgN, dgT, dgCons, dgNil, dgSub, dgFldC, wPar, wTup, wLst, wLstC, wFldC, wSetFC, wMeth, wMake, wCall, wSl, wNoPart, wPart, wStar, wLenO, wTruO, wReprO, wBoolO, wCallN, wMakeN, wMethN, wFmt, wFS, wJs, wDNew, wDGet, wDPut, wBMl, wCallV, wCallE, gI20, gI2, gNeg, g1I, g2I, gNotN, gIsN, gIsB, D.isNon, sAdd1, sAdd2, sAdd3, sAdd4, sMul1, sMulT, sLen1, sLen2, sLen3, sInt1, sInt2, sTup1, sTup2, sLst1, sLst2, sSl1, sSl2, sSl3, sTru1, sTru2, sTru3, sTru4, sDvm, List.map, List.length_cons, List.length_nil, List.replicate, List.cons_append, List.nil_append, List.append_nil, List.getElem?_cons_zero, List.getElem?_cons_succ, List.set_cons_zero, List.set_cons_succ, DL.eq_int, DL.ne_int, eq_str, ne_str, Bool.not_true, Bool.not_false, decide_true, decide_false, true_and, and_true, if_true, if_false, Bool.false_eq_true, ex_some]
  refine ⟨sl_small (by decide), sl_small (by decide), ix_tup (by decide) rfl ?_⟩
  simp only [startD, endsD, wRet, wRetN, wAndV, wOrV, wNotV, wCB, wCons, wNil, wVar, wC, wChain, wOp, wUn, wIf, wIfE, wTv, wTru, wNot, wAnd, wOr, wSeq, wNext, wAsg, wDrop, dgN, dgT, dgCons, dgNil, dgSub, dgFldC, wPar, wTup, wLst, wLstC, wFldC, wSetFC, wMeth, wMake, wCall, wSl, wNoPart, wPart, wStar, wLenO, wTruO, wReprO, wBoolO, wCallN, wMakeN, wMethN, wFmt, wFS, wJs, wDNew, wDGet, wDPut, wBMl, wCallV, wCallE, gI20, gI2, gNeg, g1I, g2I, gNotN, gIsN, gIsB, D.isNon, sAdd1, sAdd2, sAdd3, sAdd4, sMul1, sMulT, sLen1, sLen2, sLen3, sInt1, sInt2, sTup1, sTup2, sLst1, sLst2, sSl1, sSl2, sSl3, sTru1, sTru2, sTru3, sTru4, sDvm, List.map, List.length_cons, List.length_nil, List.replicate, List.cons_append, List.nil_append, List.append_nil, List.getElem?_cons_zero, List.getElem?_cons_succ, List.set_cons_zero, List.set_cons_succ, DL.eq_int, DL.ne_int, eq_str, ne_str, Bool.not_true, Bool.not_false, decide_true, decide_false, true_and, and_true, if_true, if_false, Bool.false_eq_true, ex_some]
  rw [List.length_map]
  refine ⟨⟨by simp, by decide, by omega, by omega⟩, sl_small (by decide), sl_small (by decide), ?_⟩
  have e : (List.replicate m.st.length (0 : Int)).map D.int = (List.replicate ((m.st.length : Nat) : Int).toNat [D.int 0]).flatten := by
    rw [Int.toNat_natCast, List.map_replicate]
    generalize m.st.length = n
    induction n with
    | zero => rfl
    | succ n ih => rw [List.replicate_succ, List.replicate_succ, List.flatten_cons, ih]; rfl
  unfold sttD phD at h
  rw [List.nil_append, List.map_cons, List.map_nil, e] at h
  exact h
end GV

namespace GV
open PySem PySem.Spec PyProof.Rows L2 DL
variable [Tb]
/-! ### tables -/
theorem getT_rep {j k : List Key} {x : D} : ∀ {ks : List (List Key)} {ds : List D}, ds.length = ks.length → getT ks (repT ks ds j x) k = (getT ks ds k).map fun d => if k = j then x else d
  | [], ds, h => by cases ds with
    | nil => rfl
    | cons _ _ => cases h
  | q :: ks, [], h => by cases h
  | q :: ks, d :: ds, h => by
    simp only [repT, getT]
    by_cases e : q = k
    · simp only [e, if_true, Option.map_some]
    · simp only [e, if_false]
      exact getT_rep (by simpa using h)
theorem getT_none {j : List Key} : ∀ {ks : List (List Key)} {ds : List D}, ds.length = ks.length → ((ks.any fun k => decide (k = j)) = true ↔ getT ks ds j ≠ none)
  | [], ds, h => by cases ds <;> simp [getT]
  | q :: ks, [], h => by cases h
  | q :: ks, d :: ds, h => by
    rw [List.any_cons]
    simp only [getT]
    by_cases e : q = j
    · simp [e]
    · simp only [e, if_false, decide_false, Bool.false_or]
      exact getT_none (by simpa using h)
theorem getT_app {j k : List Key} {x : D} : ∀ {ks : List (List Key)} {ds : List D}, ds.length = ks.length → getT (ks ++ [j]) (ds ++ [x]) k = match getT ks ds k with
    | some d => some d
    | none => if j = k then some x else none
  | [], ds, h => by cases ds with
    | nil => simp [getT]
    | cons _ _ => cases h
  | q :: ks, [], h => by cases h
  | q :: ks, d :: ds, h => by
    simp only [List.cons_append, getT]
    by_cases e : q = k
    · simp [e]
    · simp only [e, if_false]
      exact getT_app (by simpa using h)
theorem len_rep {j : List Key} {x : D} : ∀ {ks : List (List Key)} {ds : List D}, (repT ks ds j x).length = ds.length
  | [], ds => by cases ds <;> simp [repT]
  | q :: ks, [] => by simp [repT]
  | q :: ks, d :: ds => by simp only [repT, List.length_cons, len_rep]
theorem put_len {j : List Key} {x : D} {ks : List (List Key)} {ds : List D} (h : ds.length = ks.length) : (putT ks ds j x).2.length = (putT ks ds j x).1.length ∧ (putT ks ds j x).1.length ≤ ks.length + 1 := by
  unfold putT
  split
  · exact ⟨by rw [len_rep, h], by show ks.length ≤ ks.length + 1; omega⟩
  · exact ⟨by rw [List.length_append, List.length_append, h]; rfl, by rw [List.length_append]; exact Nat.le_refl _⟩
theorem getT_put {j k : List Key} {x : D} {ks : List (List Key)} {ds : List D} (h : ds.length = ks.length) : getT (putT ks ds j x).1 (putT ks ds j x).2 k = if k = j then some x else getT ks ds k := by
  unfold putT
  have q := getT_none (j := j) h
  split
  · rename_i e
    rw [getT_rep h]
    by_cases ek : k = j
    · subst ek
      have ne := q.mp e
      cases e2 : getT ks ds k with
      | none => exact absurd e2 ne
      | some d => simp
    · simp only [ek, if_false]
      cases getT ks ds k <;> rfl
  · rename_i e
    rw [getT_app h]
    have e2 : getT ks ds j = none := Classical.byContradiction fun z => e (q.mpr z)
    by_cases ek : k = j
    · subst ek
      first
        | (rw [e2]; simp; done)
        | (rw [e2]; done)
    · rw [if_neg ek]
      cases getT ks ds k with
      | some d => rfl
      | none => exact if_neg (Ne.symm ek)
def idxI (c a b : Int) : Int := a * c - a * (a - 1) / 2 + b - a
theorem place_le {c i j : Int} (h : i ≤ j) : placeI c i j = idxI c i j := by
  have e1 : lowI i j = i := by rw [lowI_eq]; omega
  have e2 : highI i j = j := by rw [highI_eq]; omega
  unfold placeI idxI
  rw [e1, e2]
theorem place_ge {c i j : Int} (h : j ≤ i) : placeI c i j = idxI c j i := by
  have e1 : lowI i j = j := by rw [lowI_eq]; omega
  have e2 : highI i j = i := by rw [highI_eq]; omega
  unfold placeI idxI
  rw [e1, e2]
theorem idx_row {c a : Int} (h1 : 1 ≤ c) (h8 : c ≤ 8) (h0 : 0 ≤ a) (h : a < c) : idxI c a c = idxI c (a + 1) (a + 1) := by
  have key : ∀ c : Fin 9, ∀ a : Fin 9, idxI (c.val : Int) (a.val : Int) (c.val : Int) = idxI (c.val : Int) ((a.val : Int) + 1) ((a.val : Int) + 1) := by decide +kernel
  have q := key ⟨c.toNat, by omega⟩ ⟨a.toNat, by omega⟩
  have e1 : ((c.toNat : Nat) : Int) = c := by omega
  have e2 : ((a.toNat : Nat) : Int) = a := by omega
  simp only [e1, e2] at q
  exact q
theorem rng_succ {lo : Int} {n : Nat} : rngD lo (n + 1) = .int lo :: rngD (lo + 1) n := by
  unfold rngD
  rw [List.range_succ_eq_map, List.map_cons, List.map_map]
  refine List.cons_eq_cons.mpr ⟨by simp, List.map_congr_left fun k _ => ?_⟩
  simp only [Function.comp]
  congr 1
  push_cast
  omega
theorem rng_zero {lo : Int} : rngD lo 0 = [] := rfl
structure DI (m : Mx) (a b : Int) (ks : List (List Key)) (ds : List D) : Prop where
  len : ds.length = ks.length
  sz : (ks.length : Int) ≤ 2 * idxI m.c a b
  get : ∀ i j, 0 ≤ i → i ≤ j → j < m.c → (i < a ∨ (i = a ∧ j < b)) → getT ks ds (entK i j) = some (pD (m.tb.getD (idxI m.c i j).toNat (0, 0))) ∧ getT ks ds (entK j i) = some (pD (m.tb.getD (idxI m.c i j).toNat (0, 0)))
theorem entK_inj {i j i' j' : Int} (h : entK i j = entK i' j') : i = i' ∧ j = j' := by
  unfold entK at h
  simp only [List.cons.injEq, Sum.inl.injEq, and_true] at h
  exact h
theorem DI.step {m : Mx} {a b : Int} {ks : List (List Key)} {ds : List D} (h : DI m a b ks ds) (hab : a ≤ b) : DI m a (b + 1) (putT (putT ks ds (entK a b) (pD (m.tb.getD (idxI m.c a b).toNat (0, 0)))).1 (putT ks ds (entK a b) (pD (m.tb.getD (idxI m.c a b).toNat (0, 0)))).2 (entK b a) (pD (m.tb.getD (idxI m.c a b).toNat (0, 0)))).1
    (putT (putT ks ds (entK a b) (pD (m.tb.getD (idxI m.c a b).toNat (0, 0)))).1 (putT ks ds (entK a b) (pD (m.tb.getD (idxI m.c a b).toNat (0, 0)))).2 (entK b a) (pD (m.tb.getD (idxI m.c a b).toNat (0, 0)))).2 := by
  have l1 := put_len (j := entK a b) (x := pD (m.tb.getD (idxI m.c a b).toNat (0, 0))) h.len
  have l2 := put_len (j := entK b a) (x := pD (m.tb.getD (idxI m.c a b).toNat (0, 0))) l1.1
  refine ⟨l2.1, ?_, fun i j h0 h1 h2 h3 => ?_⟩
  · have := h.sz
    have e : idxI m.c a (b + 1) = idxI m.c a b + 1 := by unfold idxI; omega
    omega
  · rw [getT_put l1.1, getT_put h.len, getT_put l1.1, getT_put h.len]
    by_cases e : i = a ∧ j = b
    · obtain ⟨rfl, rfl⟩ := e
      refine ⟨?_, by rw [if_pos rfl]⟩
      by_cases e2 : entK i j = entK j i
      · rw [if_pos e2]
      · rw [if_neg e2, if_pos rfl]
    · have n1 : entK i j ≠ entK b a := fun z => by have := entK_inj z; omega
      have n2 : entK i j ≠ entK a b := fun z => by have := entK_inj z; omega
      have n3 : entK j i ≠ entK b a := fun z => by have := entK_inj z; omega
      have n4 : entK j i ≠ entK a b := fun z => by have := entK_inj z; omega
      rw [if_neg n1, if_neg n2, if_neg n3, if_neg n4]
      exact h.get i j h0 h1 h2 (by omega)
abbrev bEnt : WS := wSeq (wDPut (wVar 1) (wTup (wCons (wVar 3) (wCons (wVar 4) wNil))) (wOp gIx (wOp gIx (wVar 0) (wC (.int 2))) (wVar 2)))
    (wSeq (wDPut (wVar 1) (wTup (wCons (wVar 4) (wCons (wVar 3) wNil))) (wOp gIx (wOp gIx (wVar 0) (wC (.int 2))) (wVar 2)))
    (wAsg (wOp gAdd (wVar 2) (wC (.int 1))) (dgN 2)))
theorem keyT2 {i j : Int} : keyT (.tup [.int i, .int j]) = some (entK i j) := rfl
theorem loop_row {m : Mx} (ok : MxOk m.c m.st m.tb) {d : Addr} {a : Int} (a0 : 0 ≤ a) (a1 : a < m.c) {DD : DEnds} : ∀ (n : Nat) (b : Int) (ks : List (List Key)) (ds : List D) (e4 : Option D) (st : Sto), (n : Int) = m.c - b → a ≤ b → st.lookup d = some (.dT ks ds) → DI m a b ks ds →
    (∀ (ks : List (List Key)) (ds : List D) (e4 : Option D) (st' : Sto), st'.lookup d = some (.dT ks ds) → DI m a m.c ks ds → (∀ x c, x ≠ d → st.lookup x = some c → st'.lookup x = some c) → DD.nx [some (mixD m), some (.ref d), some (.int (idxI m.c a m.c)), some (.int a), e4] st') →
    forL (dgN 4) bEnt DD (rngD b n) [some (mixD m), some (.ref d), some (.int (idxI m.c a b)), some (.int a), e4] st
  | 0, b, ks, ds, e4, st, hn, hab, l, I, h => by
    have e : b = m.c := by omega
    subst e
    exact h ks ds e4 st l I fun _ _ _ l => l
  | n + 1, b, ks, ds, e4, st, hn, hab, l, I, h => by
    rw [rng_succ]
    unfold forL
    have q := place_ok m.c a b ok.c1 ok.c8 a0 a1 (by omega) (by omega)
    rw [place_le hab] at q
    have hl : (idxI m.c a b).toNat < m.tb.length := by have := ok.tl; omega
    have eg : m.tb[(idxI m.c a b).toNat]? = some (m.tb.getD (idxI m.c a b).toNat (0, 0)) := by rw [List.getD_eq_getElem?_getD, List.getElem?_eq_getElem hl]; rfl
    have tri := tri_le m.c ok.c1 ok.c8
    have sz := I.sz
    have l1 := put_len (j := entK a b) (x := pD (m.tb.getD (idxI m.c a b).toNat (0, 0))) I.len
    simp only [startD, endsD, wRet, wRetN, wAndV, wOrV, wNotV, wCB, wCons, wNil, wVar, wC, wChain, wOp, wUn, wIf, wIfE, wTv, wTru, wNot, wAnd, wOr, wSeq, wNext, wAsg, wDrop, dgN, dgT, dgCons, dgNil, dgSub, dgFldC, wPar, wTup, wLst, wLstC, wFldC, wSetFC, wMeth, wMake, wCall, wSl, wNoPart, wPart, wStar, wLenO, wTruO, wReprO, wBoolO, wCallN, wMakeN, wMethN, wFmt, wFS, wJs, wDNew, wDGet, wDPut, wBMl, wCallV, wCallE, gI20, gI2, gNeg, g1I, g2I, gNotN, gIsN, gIsB, D.isNon, sAdd1, sAdd2, sAdd3, sAdd4, sMul1, sMulT, sLen1, sLen2, sLen3, sInt1, sInt2, sTup1, sTup2, sLst1, sLst2, sSl1, sSl2, sSl3, sTru1, sTru2, sTru3, sTru4, sDvm, List.map, List.length_cons, List.length_nil, List.replicate, List.cons_append, List.nil_append, List.append_nil, List.getElem?_cons_zero, List.getElem?_cons_succ, List.set_cons_zero, List.set_cons_succ, DL.eq_int, DL.ne_int, eq_str, ne_str, Bool.not_true, Bool.not_false, decide_true, decide_false, true_and, and_true, if_true, if_false, Bool.false_eq_true, ex_some]
    unfold mixD
    refine ix_tup (by decide) rfl (ix_pD q.1 eg ?_)
    refine ⟨sl_small (by decide), d, ks, ds, entK a b, ⟨rfl, l, keyT2, by rw [sizeLine_eq]; omega⟩, ?_⟩
    refine ix_tup (by decide) rfl (ix_pD q.1 eg ?_)
    refine ⟨sl_small (by decide), d, _, _, entK b a, ⟨rfl, put_lookup l, keyT2, by rw [sizeLine_eq]; omega⟩, ?_⟩
    have e : idxI m.c a b + 1 = idxI m.c a (b + 1) := by unfold idxI; omega
    rw [e]
    refine loop_row ok a0 a1 (DD := DD) n (b + 1) _ _ (some (.int b)) _ (by omega) (by omega) (put_lookup (put_lookup l)) (I.step hab) fun ks ds e4 st' l' I' oth => h ks ds e4 st' l' I' fun x c nx lx => oth x c nx ?_
    rw [put_other nx, put_other nx]; exact lx
theorem DI.row {m : Mx} (ok : MxOk m.c m.st m.tb) {a : Int} {ks : List (List Key)} {ds : List D} (h : DI m a m.c ks ds) (a0 : 0 ≤ a) (a1 : a < m.c) : DI m (a + 1) (a + 1) ks ds :=
  ⟨h.len, by rw [← idx_row ok.c1 ok.c8 a0 a1]; exact h.sz, fun i j h0 h1 h2 h3 => h.get i j h0 h1 h2 (by omega)⟩
theorem loop_rows {m : Mx} (ok : MxOk m.c m.st m.tb) {d : Addr} {DD : DEnds} : ∀ (n : Nat) (a : Int) (ks : List (List Key)) (ds : List D) (e3 e4 : Option D) (st : Sto), (n : Int) = m.c - a → 0 ≤ a → st.lookup d = some (.dT ks ds) → DI m a a ks ds →
    (∀ (ks : List (List Key)) (ds : List D) (e2 e3 e4 : Option D) (st' : Sto), st'.lookup d = some (.dT ks ds) → DI m m.c m.c ks ds → (∀ x c, x ≠ d → st.lookup x = some c → st'.lookup x = some c) → DD.nx [some (mixD m), some (.ref d), e2, e3, e4] st') →
    forL (dgN 3) (wForR2 (wCons (wVar 3) (wCons (wOp gIx (wVar 0) (wC (.int 0))) wNil)) (dgN 4) bEnt) DD (rngD a n) [some (mixD m), some (.ref d), some (.int (idxI m.c a a)), e3, e4] st
  | 0, a, ks, ds, e3, e4, st, hn, a0, l, I, h => by
    have e : a = m.c := by omega
    subst e
    exact h ks ds _ e3 e4 st l I fun _ _ _ l => l
  | n + 1, a, ks, ds, e3, e4, st, hn, a0, l, I, h => by
    rw [rng_succ]
    unfold forL
    simp only [wForR2]
    simp only [startD, endsD, wRet, wRetN, wAndV, wOrV, wNotV, wCB, wCons, wNil, wVar, wC, wChain, wOp, wUn, wIf, wIfE, wTv, wTru, wNot, wAnd, wOr, wSeq, wNext, wAsg, wDrop, dgN, dgT, dgCons, dgNil, dgSub, dgFldC, wPar, wTup, wLst, wLstC, wFldC, wSetFC, wMeth, wMake, wCall, wSl, wNoPart, wPart, wStar, wLenO, wTruO, wReprO, wBoolO, wCallN, wMakeN, wMethN, wFmt, wFS, wJs, wDNew, wDGet, wDPut, wBMl, wCallV, wCallE, gI20, gI2, gNeg, g1I, g2I, gNotN, gIsN, gIsB, D.isNon, sAdd1, sAdd2, sAdd3, sAdd4, sMul1, sMulT, sLen1, sLen2, sLen3, sInt1, sInt2, sTup1, sTup2, sLst1, sLst2, sSl1, sSl2, sSl3, sTru1, sTru2, sTru3, sTru4, sDvm, List.map, List.length_cons, List.length_nil, List.replicate, List.cons_append, List.nil_append, List.append_nil, List.getElem?_cons_zero, List.getElem?_cons_succ, List.set_cons_zero, List.set_cons_succ, DL.eq_int, DL.ne_int, eq_str, ne_str, Bool.not_true, Bool.not_false, decide_true, decide_false, true_and, and_true, if_true, if_false, Bool.false_eq_true, ex_some]
    have c8 := ok.c8
    have r := loop_row ok a0 (by omega : a < m.c) (DD := { DD with nx := fun e s => forL (dgN 3) (wForR2 (wCons (wVar 3) (wCons (wOp gIx (wVar 0) (wC (.int 0))) wNil)) (dgN 4) bEnt) DD (rngD (a + 1) n) e s, ct := fun e s => forL (dgN 3) (wForR2 (wCons (wVar 3) (wCons (wOp gIx (wVar 0) (wC (.int 0))) wNil)) (dgN 4) bEnt) DD (rngD (a + 1) n) e s, bk := DD.nx }) (m.c - a).toNat a ks ds e4 st (by omega) (Int.le_refl _) l I fun ks2 ds2 e4 st2 l2 I2 oth => by
      rw [idx_row ok.c1 ok.c8 a0 (by omega)]
      exact loop_rows ok n (a + 1) ks2 ds2 _ _ st2 (by omega) (by omega) l2 (I2.row ok a0 (by omega)) fun ks ds e2 e3 e4 st' l' I' oth2 => h ks ds e2 e3 e4 st' l' I' fun x c nx lx => oth2 x c nx (oth x c nx lx)
    refine ix_tup (by decide) rfl ⟨⟨by omega, by omega, by omega, by omega⟩, ?_⟩
    exact r
theorem pure_law_entries {K : PySem.W.Frag} (T : TP K) : Pu_law_entries K := by
  rintro ds st Kn Kx - ⟨m, rfl, ok, h⟩
  simp only [startD, endsD, wRet, wRetN, wAndV, wOrV, wNotV, wCB, wCons, wNil, wVar, wC, wChain, wOp, wUn, wIf, wIfE, wTv, wTru, wNot, wAnd, wOr, wSeq, wNext, wAsg, wDrop, dgN, dgT, dgCons, dgNil, dgSub, dgFldC, wPar, wTup, wLst, wLstC, wFldC, wSetFC, wMeth, wMake, wCall, wSl, wNoPart, wPart, wStar, wLenO, wTruO, wReprO, wBoolO, wCallN, wMakeN, wMethN, wFmt, wFS, wJs, wDNew, wDGet, wDPut, wBMl, wCallV, wCallE, gI20, gI2, gNeg, g1I, g2I, gNotN, gIsN, gIsB, D.isNon, sAdd1, sAdd2, sAdd3, sAdd4, sMul1, sMulT, sLen1, sLen2, sLen3, sInt1, sInt2, sTup1, sTup2, sLst1, sLst2, sSl1, sSl2, sSl3, sTru1, sTru2, sTru3, sTru4, sDvm, List.map, List.length_cons, List.length_nil, List.replicate, List.cons_append, List.nil_append, List.append_nil, List.getElem?_cons_zero, List.getElem?_cons_succ, List.set_cons_zero, List.set_cons_succ, DL.eq_int, DL.ne_int, eq_str, ne_str, Bool.not_true, Bool.not_false, decide_true, decide_false, true_and, and_true, if_true, if_false, Bool.false_eq_true, ex_some]
  intro d nd
  simp only [wForR1]
  simp only [startD, endsD, wRet, wRetN, wAndV, wOrV, wNotV, wCB, wCons, wNil, wVar, wC, wChain, wOp, wUn, wIf, wIfE, wTv, wTru, wNot, wAnd, wOr, wSeq, wNext, wAsg, wDrop, dgN, dgT, dgCons, dgNil, dgSub, dgFldC, wPar, wTup, wLst, wLstC, wFldC, wSetFC, wMeth, wMake, wCall, wSl, wNoPart, wPart, wStar, wLenO, wTruO, wReprO, wBoolO, wCallN, wMakeN, wMethN, wFmt, wFS, wJs, wDNew, wDGet, wDPut, wBMl, wCallV, wCallE, gI20, gI2, gNeg, g1I, g2I, gNotN, gIsN, gIsB, D.isNon, sAdd1, sAdd2, sAdd3, sAdd4, sMul1, sMulT, sLen1, sLen2, sLen3, sInt1, sInt2, sTup1, sTup2, sLst1, sLst2, sSl1, sSl2, sSl3, sTru1, sTru2, sTru3, sTru4, sDvm, List.map, List.length_cons, List.length_nil, List.replicate, List.cons_append, List.nil_append, List.append_nil, List.getElem?_cons_zero, List.getElem?_cons_succ, List.set_cons_zero, List.set_cons_succ, DL.eq_int, DL.ne_int, eq_str, ne_str, Bool.not_true, Bool.not_false, decide_true, decide_false, true_and, and_true, if_true, if_false, Bool.false_eq_true, ex_some]
  have c8 := ok.c8
  have c1 := ok.c1
  refine ix_tup (by decide) rfl ⟨⟨by omega, by omega⟩, ?_⟩
  have I0 : DI m 0 0 [] [] := ⟨rfl, by unfold idxI; simp, fun i j h0 h1 h2 h3 => by omega⟩
  have e0 : idxI m.c 0 0 = 0 := by unfold idxI; simp
  have r := loop_rows ok (d := d) (DD := { nx := fun env st => wRet (wVar 1) { nx := fun x st => Kn D.non st, rt := Kn, ex := fun x _ st => Kx x st } env st, rt := Kn, ex := fun x _ st => Kx x st }) m.c.toNat 0 [] [] none none ((d, .dT [] []) :: st) (by omega) (Int.le_refl _) new_lookup I0 fun ks ds e2 e3 e4 st' l' I' oth => by
    simp only [startD, endsD, wRet, wRetN, wAndV, wOrV, wNotV, wCB, wCons, wNil, wVar, wC, wChain, wOp, wUn, wIf, wIfE, wTv, wTru, wNot, wAnd, wOr, wSeq, wNext, wAsg, wDrop, dgN, dgT, dgCons, dgNil, dgSub, dgFldC, wPar, wTup, wLst, wLstC, wFldC, wSetFC, wMeth, wMake, wCall, wSl, wNoPart, wPart, wStar, wLenO, wTruO, wReprO, wBoolO, wCallN, wMakeN, wMethN, wFmt, wFS, wJs, wDNew, wDGet, wDPut, wBMl, wCallV, wCallE, gI20, gI2, gNeg, g1I, g2I, gNotN, gIsN, gIsB, D.isNon, sAdd1, sAdd2, sAdd3, sAdd4, sMul1, sMulT, sLen1, sLen2, sLen3, sInt1, sInt2, sTup1, sTup2, sLst1, sLst2, sSl1, sSl2, sSl3, sTru1, sTru2, sTru3, sTru4, sDvm, List.map, List.length_cons, List.length_nil, List.replicate, List.cons_append, List.nil_append, List.append_nil, List.getElem?_cons_zero, List.getElem?_cons_succ, List.set_cons_zero, List.set_cons_succ, DL.eq_int, DL.ne_int, eq_str, ne_str, Bool.not_true, Bool.not_false, decide_true, decide_false, true_and, and_true, if_true, if_false, Bool.false_eq_true, ex_some]
    refine h d st' nd ⟨ks, ds, l', fun i j i0 i1 j0 j1 => ?_⟩ fun x c lx => oth x c (ne_on lx nd) (by rw [old_lookup (ne_on lx nd)]; exact lx)
    unfold metM
    rcases Int.le_total i j with q | q
    · rw [place_le q]; exact (I'.get i j i0 q j1 (.inl i1)).1
    · rw [place_ge q]; exact (I'.get j i j0 q i1 (.inl j1)).2
  rw [e0] at r
  exact r
theorem pure_law_is_in {K : PySem.W.Frag} (T : TP K) : Pu_law_is_in K := by
  rintro ds st Kn Kx - ⟨v, lo, hi, rfl, ok, h⟩
  exact between_wb (DD := endsD Kn Kx) ok h
end GV

namespace GV
open PySem PySem.Spec PyProof.Rows L2 DL
variable [Tb]
theorem str_len (x y : Str) : (x ++ y).length = x.length + y.length := by
  show (x.cps ++ y.cps).size = _
  rw [Array.size_append]; rfl
theorem str_emp (x : Str) : Str.empty ++ x = x := by
  show (⟨#[] ++ x.cps⟩ : Str) = x
  rw [Array.empty_append]
theorem int_len {i : Int} (h : i.natAbs < 10 ^ 12) : (toString i : Str).length ≤ 13 := PyData.shown_int_le h
theorem int_log {i : Int} (h : i.natAbs < 10 ^ 12) : i.natAbs.log2 < 1920 := by
  by_cases z : i.natAbs = 0
  · rw [z]; decide
  · exact (Nat.log2_lt z).mpr (Nat.lt_trans h (by decide +kernel))
theorem sl_mid {n : Nat} (h : n ≤ 1000000) : n ≤ sizeLine := by rw [sizeLine_eq]; omega
theorem c1_len : ("Pot(" : Str).length = 4 := by decide +kernel
theorem c2_len : (" things, " : Str).length = 9 := by decide +kernel
theorem c3_len : (" given)" : Str).length = 7 := by decide +kernel
theorem pot_len {ph : Ph} (h1 : ph.ks.length ≤ 100) (h2 : ph.g.natAbs < 10 ^ 12) : (potStr ph).length ≤ 46 := by
  have a1 := int_len (i := ((ph.ks.length : Nat) : Int)) (by omega)
  have a2 := int_len h2
  unfold potStr
  simp only [str_len, c1_len, c2_len, c3_len]
  omega
theorem pure_PotX_reprX {K : PySem.W.Frag} (T : TP K) : Pu_PotX_reprX K := by
  rintro ds st Kn Kx - ⟨p, a, ph, past, b, rfl, l, ⟨h1, h2⟩, h⟩
  unfold potC at l
  have a1 := int_len (i := ((ph.ks.length : Nat) : Int)) (by omega)
  have a2 := int_len h2
  simp only [startD, endsD, wRet, wRetN, wAndV, wOrV, wNotV, wCB, wCons, wNil, wVar, wC, wChain, wOp, wUn, wIf, wIfE, wTv, wTru, wNot, wAnd, wOr, wSeq, wNext, wAsg, wDrop, dgN, dgT, dgCons, dgNil, dgSub, dgFldC, wPar, wTup, wLst, wLstC, wFldC, wSetFC, wMeth, wMake, wCall, wSl, wNoPart, wPart, wStar, wLenO, wTruO, wReprO, wBoolO, wCallN, wMakeN, wMethN, wFmt, wFS, wJs, wDNew, wDGet, wDPut, wBMl, wCallV, wCallE, gI20, gI2, gNeg, g1I, g2I, gNotN, gIsN, gIsB, D.isNon, sAdd1, sAdd2, sAdd3, sAdd4, sMul1, sMulT, sLen1, sLen2, sLen3, sInt1, sInt2, sTup1, sTup2, sLst1, sLst2, sSl1, sSl2, sSl3, sTru1, sTru2, sTru3, sTru4, sDvm, List.map, List.length_cons, List.length_nil, List.replicate, List.cons_append, List.nil_append, List.append_nil, List.getElem?_cons_zero, List.getElem?_cons_succ, List.set_cons_zero, List.set_cons_succ, DL.eq_int, DL.ne_int, eq_str, ne_str, Bool.not_true, Bool.not_false, decide_true, decide_false, true_and, and_true, if_true, if_false, Bool.false_eq_true, ex_some, fldOf_ins l, pt_kinds, pt_given, str_emp, List.length_map]
  simp only [str_len, c1_len, c2_len, c3_len]
  refine ⟨sl_small (by decide), int_log (by omega), sl_mid (by omega), sl_mid (by omega), int_log h2, sl_mid (by omega), sl_mid (by omega), h⟩
theorem pyS_py {d : D} {p : PyData} {st : Sto} (h : d.py = some p) : pyS d st = some p := by
  cases d with
  | ref a => simp only [D.py] at h; cases h
  | _ => exact h
theorem rep_of {d : D} {p : PyData} {st : Sto} {Kn : KD} (h : d.py = some p) (f : fitR p) (k : Kn (.str p.shown) st) : gRepr [d] st Kn := by
  unfold gRepr
  dsimp only
  rw [pyS_py h]
  exact ⟨f, k⟩
theorem str_beq (x : Str) : (x == x) = true := by simp
theorem pure_law_alike {K : PySem.W.Frag} (T : TP K) : Pu_law_alike K := by
  rintro ds st Kn Kx - ⟨d, p, rfl, e, f, h⟩
  simp only [startD, endsD, wRet, wRetN, wAndV, wOrV, wNotV, wCB, wCons, wNil, wVar, wC, wChain, wOp, wUn, wIf, wIfE, wTv, wTru, wNot, wAnd, wOr, wSeq, wNext, wAsg, wDrop, dgN, dgT, dgCons, dgNil, dgSub, dgFldC, wPar, wTup, wLst, wLstC, wFldC, wSetFC, wMeth, wMake, wCall, wSl, wNoPart, wPart, wStar, wLenO, wTruO, wReprO, wBoolO, wCallN, wMakeN, wMethN, wFmt, wFS, wJs, wDNew, wDGet, wDPut, wBMl, wCallV, wCallE, gI20, gI2, gNeg, g1I, g2I, gNotN, gIsN, gIsB, D.isNon, sAdd1, sAdd2, sAdd3, sAdd4, sMul1, sMulT, sLen1, sLen2, sLen3, sInt1, sInt2, sTup1, sTup2, sLst1, sLst2, sSl1, sSl2, sSl3, sTru1, sTru2, sTru3, sTru4, sDvm, List.map, List.length_cons, List.length_nil, List.replicate, List.cons_append, List.nil_append, List.append_nil, List.getElem?_cons_zero, List.getElem?_cons_succ, List.set_cons_zero, List.set_cons_succ, DL.eq_int, DL.ne_int, eq_str, ne_str, Bool.not_true, Bool.not_false, decide_true, decide_false, true_and, and_true, if_true, if_false, Bool.false_eq_true, ex_some]
  refine rep_of e f (rep_of e f ?_)
  simp only [startD, endsD, wRet, wRetN, wAndV, wOrV, wNotV, wCB, wCons, wNil, wVar, wC, wChain, wOp, wUn, wIf, wIfE, wTv, wTru, wNot, wAnd, wOr, wSeq, wNext, wAsg, wDrop, dgN, dgT, dgCons, dgNil, dgSub, dgFldC, wPar, wTup, wLst, wLstC, wFldC, wSetFC, wMeth, wMake, wCall, wSl, wNoPart, wPart, wStar, wLenO, wTruO, wReprO, wBoolO, wCallN, wMakeN, wMethN, wFmt, wFS, wJs, wDNew, wDGet, wDPut, wBMl, wCallV, wCallE, gI20, gI2, gNeg, g1I, g2I, gNotN, gIsN, gIsB, D.isNon, sAdd1, sAdd2, sAdd3, sAdd4, sMul1, sMulT, sLen1, sLen2, sLen3, sInt1, sInt2, sTup1, sTup2, sLst1, sLst2, sSl1, sSl2, sSl3, sTru1, sTru2, sTru3, sTru4, sDvm, List.map, List.length_cons, List.length_nil, List.replicate, List.cons_append, List.nil_append, List.append_nil, List.getElem?_cons_zero, List.getElem?_cons_succ, List.set_cons_zero, List.set_cons_succ, DL.eq_int, DL.ne_int, eq_str, ne_str, Bool.not_true, Bool.not_false, decide_true, decide_false, true_and, and_true, if_true, if_false, Bool.false_eq_true, ex_some, str_beq]
  exact h
theorem pure_law_caught {K : PySem.W.Frag} (T : TP K) : Pu_law_caught K := by
  rintro Φ ds st Kn Kx - ⟨g, wf, rfl, e, h⟩
  simp only [startD, endsD, wRet, wRetN, wAndV, wOrV, wNotV, wCB, wCons, wNil, wVar, wC, wChain, wOp, wUn, wIf, wIfE, wTv, wTru, wNot, wAnd, wOr, wSeq, wNext, wAsg, wDrop, dgN, dgT, dgCons, dgNil, dgSub, dgFldC, wPar, wTup, wLst, wLstC, wFldC, wSetFC, wMeth, wMake, wCall, wSl, wNoPart, wPart, wStar, wLenO, wTruO, wReprO, wBoolO, wCallN, wMakeN, wMethN, wFmt, wFS, wJs, wDNew, wDGet, wDPut, wBMl, wCallV, wCallE, gI20, gI2, gNeg, g1I, g2I, gNotN, gIsN, gIsB, D.isNon, sAdd1, sAdd2, sAdd3, sAdd4, sMul1, sMulT, sLen1, sLen2, sLen3, sInt1, sInt2, sTup1, sTup2, sLst1, sLst2, sSl1, sSl2, sSl3, sTru1, sTru2, sTru3, sTru4, sDvm, List.map, List.length_cons, List.length_nil, List.replicate, List.cons_append, List.nil_append, List.append_nil, List.getElem?_cons_zero, List.getElem?_cons_succ, List.set_cons_zero, List.set_cons_succ, DL.eq_int, DL.ne_int, eq_str, ne_str, Bool.not_true, Bool.not_false, decide_true, decide_false, true_and, and_true, if_true, if_false, Bool.false_eq_true, ex_some]
  simp only [wTryT]
  simp only [startD, endsD, wRet, wRetN, wAndV, wOrV, wNotV, wCB, wCons, wNil, wVar, wC, wChain, wOp, wUn, wIf, wIfE, wTv, wTru, wNot, wAnd, wOr, wSeq, wNext, wAsg, wDrop, dgN, dgT, dgCons, dgNil, dgSub, dgFldC, wPar, wTup, wLst, wLstC, wFldC, wSetFC, wMeth, wMake, wCall, wSl, wNoPart, wPart, wStar, wLenO, wTruO, wReprO, wBoolO, wCallN, wMakeN, wMethN, wFmt, wFS, wJs, wDNew, wDGet, wDPut, wBMl, wCallV, wCallE, gI20, gI2, gNeg, g1I, g2I, gNotN, gIsN, gIsB, D.isNon, sAdd1, sAdd2, sAdd3, sAdd4, sMul1, sMulT, sLen1, sLen2, sLen3, sInt1, sInt2, sTup1, sTup2, sLst1, sLst2, sSl1, sSl2, sSl3, sTru1, sTru2, sTru3, sTru4, sDvm, List.map, List.length_cons, List.length_nil, List.replicate, List.cons_append, List.nil_append, List.append_nil, List.getElem?_cons_zero, List.getElem?_cons_succ, List.set_cons_zero, List.set_cons_succ, DL.eq_int, DL.ne_int, eq_str, ne_str, Bool.not_true, Bool.not_false, decide_true, decide_false, true_and, and_true, if_true, if_false, Bool.false_eq_true, ex_some, e]
  refine ⟨_, _, h, fun d s k => ⟨sl_small (by decide), k⟩, fun x s k => ?_⟩
  obtain ⟨e, rfl, k⟩ := k
  refine ⟨true, T.exm _ (List.mem_of_getElem? (er_at e)), fun a dd hd => ?_⟩
  exact ⟨T.ec _ (List.mem_of_getElem? (er_at e)), e, rfl, rfl, hd, k⟩
theorem w_uu : (("undo" : Str) == "undo") = true := by decide +kernel
theorem w_pu : (("put" : Str) == "undo") = false := by decide +kernel
theorem w_mu : (("meet" : Str) == "undo") = false := by decide +kernel
theorem w_pp : (("put" : Str) == "put") = true := by decide +kernel
theorem w_mp : (("meet" : Str) == "put") = false := by decide +kernel
theorem ix0 {d : D} {ds : List D} {st : Sto} {Kn : KD} : gIx (.tup (d :: ds)) (.int 0) st Kn ↔ Kn d st := by
  show (match L2.atI (d :: ds) 0 with
    | some d => Kn d st
    | none => False) ↔ _
  rw [atI_nat (a := d) (by decide) rfl]
theorem ix1 {d e : D} {ds : List D} {st : Sto} {Kn : KD} : gIx (.tup (d :: e :: ds)) (.int 1) st Kn ↔ Kn e st := by
  show (match L2.atI (d :: e :: ds) 1 with
    | some d => Kn d st
    | none => False) ↔ _
  rw [atI_nat (a := e) (by decide) rfl]
theorem ix2 {d e f : D} {ds : List D} {st : Sto} {Kn : KD} : gIx (.tup (d :: e :: f :: ds)) (.int 2) st Kn ↔ Kn f st := by
  show (match L2.atI (d :: e :: f :: ds) 2 with
    | some d => Kn d st
    | none => False) ↔ _
  rw [atI_nat (a := f) (by decide) rfl]
theorem pure_law_do {K : PySem.W.Frag} (T : TP K) : Pu_law_do K := by
  rintro ds st Kn Kx - ⟨p, a, m, ph, past, d, rfl, P, ok, h⟩
  have l := P.l
  unfold potC at l
  cases d with
  | undo =>
    unfold deedD
    simp only [startD, endsD, wRet, wRetN, wAndV, wOrV, wNotV, wCB, wCons, wNil, wVar, wC, wChain, wOp, wUn, wIf, wIfE, wTv, wTru, wNot, wAnd, wOr, wSeq, wNext, wAsg, wDrop, dgN, dgT, dgCons, dgNil, dgSub, dgFldC, wPar, wTup, wLst, wLstC, wFldC, wSetFC, wMeth, wMake, wCall, wSl, wNoPart, wPart, wStar, wLenO, wTruO, wReprO, wBoolO, wCallN, wMakeN, wMethN, wFmt, wFS, wJs, wDNew, wDGet, wDPut, wBMl, wCallV, wCallE, gI20, gI2, gNeg, g1I, g2I, gNotN, gIsN, gIsB, D.isNon, sAdd1, sAdd2, sAdd3, sAdd4, sMul1, sMulT, sLen1, sLen2, sLen3, sInt1, sInt2, sTup1, sTup2, sLst1, sLst2, sSl1, sSl2, sSl3, sTru1, sTru2, sTru3, sTru4, sDvm, List.map, List.length_cons, List.length_nil, List.replicate, List.cons_append, List.nil_append, List.append_nil, List.getElem?_cons_zero, List.getElem?_cons_succ, List.set_cons_zero, List.set_cons_succ, DL.eq_int, DL.ne_int, eq_str, ne_str, Bool.not_true, Bool.not_false, decide_true, decide_false, true_and, and_true, if_true, if_false, Bool.false_eq_true, ex_some, ix0, w_uu, l]
    refine ⟨rfl, p, a, ph, past, false, rfl, P.l, by have := P.ok.pl; omega, ?_⟩
    rw [if_neg Bool.false_ne_true]
    simp only [stepR] at h
    cases e : past.getLast? with
    | some q => rw [e] at h; exact h
    | none => rw [e] at h; exact h
  | put v =>
    unfold deedD
    simp only [startD, endsD, wRet, wRetN, wAndV, wOrV, wNotV, wCB, wCons, wNil, wVar, wC, wChain, wOp, wUn, wIf, wIfE, wTv, wTru, wNot, wAnd, wOr, wSeq, wNext, wAsg, wDrop, dgN, dgT, dgCons, dgNil, dgSub, dgFldC, wPar, wTup, wLst, wLstC, wFldC, wSetFC, wMeth, wMake, wCall, wSl, wNoPart, wPart, wStar, wLenO, wTruO, wReprO, wBoolO, wCallN, wMakeN, wMethN, wFmt, wFS, wJs, wDNew, wDGet, wDPut, wBMl, wCallV, wCallE, gI20, gI2, gNeg, g1I, g2I, gNotN, gIsN, gIsB, D.isNon, sAdd1, sAdd2, sAdd3, sAdd4, sMul1, sMulT, sLen1, sLen2, sLen3, sInt1, sInt2, sTup1, sTup2, sLst1, sLst2, sSl1, sSl2, sSl3, sTru1, sTru2, sTru3, sTru4, sDvm, List.map, List.length_cons, List.length_nil, List.replicate, List.cons_append, List.nil_append, List.append_nil, List.getElem?_cons_zero, List.getElem?_cons_succ, List.set_cons_zero, List.set_cons_succ, DL.eq_int, DL.ne_int, eq_str, ne_str, Bool.not_true, Bool.not_false, decide_true, decide_false, true_and, and_true, if_true, if_false, Bool.false_eq_true, ex_some, ix0, ix1, w_pu, w_pp, l]
    refine ⟨rfl, p, a, m, ph, past, false, v, rfl, P, ok, ?_⟩
    rw [if_neg Bool.false_ne_true]
    simp only [stepR] at h
    cases e : putR m past ph v with
    | ok r => rw [e] at h; exact h
    | error e2 => rw [e] at h; exact h
  | meet v w =>
    unfold deedD
    simp only [startD, endsD, wRet, wRetN, wAndV, wOrV, wNotV, wCB, wCons, wNil, wVar, wC, wChain, wOp, wUn, wIf, wIfE, wTv, wTru, wNot, wAnd, wOr, wSeq, wNext, wAsg, wDrop, dgN, dgT, dgCons, dgNil, dgSub, dgFldC, wPar, wTup, wLst, wLstC, wFldC, wSetFC, wMeth, wMake, wCall, wSl, wNoPart, wPart, wStar, wLenO, wTruO, wReprO, wBoolO, wCallN, wMakeN, wMethN, wFmt, wFS, wJs, wDNew, wDGet, wDPut, wBMl, wCallV, wCallE, gI20, gI2, gNeg, g1I, g2I, gNotN, gIsN, gIsB, D.isNon, sAdd1, sAdd2, sAdd3, sAdd4, sMul1, sMulT, sLen1, sLen2, sLen3, sInt1, sInt2, sTup1, sTup2, sLst1, sLst2, sSl1, sSl2, sSl3, sTru1, sTru2, sTru3, sTru4, sDvm, List.map, List.length_cons, List.length_nil, List.replicate, List.cons_append, List.nil_append, List.append_nil, List.getElem?_cons_zero, List.getElem?_cons_succ, List.set_cons_zero, List.set_cons_succ, DL.eq_int, DL.ne_int, eq_str, ne_str, Bool.not_true, Bool.not_false, decide_true, decide_false, true_and, and_true, if_true, if_false, Bool.false_eq_true, ex_some, ix0, ix1, ix2, w_mu, w_mp, l]
    refine ⟨rfl, p, a, m, ph, past, false, v, w, rfl, P, ok, ?_⟩
    rw [if_neg Bool.false_ne_true]
    simp only [stepR] at h
    cases e : meetR m past ph v w with
    | ok r => rw [e] at h; exact h
    | error e2 => rw [e] at h; exact h
end GV

namespace GV
open PySem PySem.Spec PyProof.Rows L2 DL
variable [Tb]
theorem isiE_at {K : PySem.W.Frag} {a C : Addr} {dd : Option Addr} {ks : List Str} {vs : List D} {c : D} {u : Value} {b : Bool} {st : Sto} {Kn : KD} (k : PySem.W.kitOne K (.ref C) u = some b) (hc : ClsD c u) (h : Kn (.bl b) st) : gIsiE K a C dd [.exc a C dd ks vs, c] st Kn :=
  ⟨ks, vs, u, b, rfl, hc, k, h⟩
theorem byE_at {K : PySem.W.Frag} {a C : Addr} {dd : Option Addr} {f : Str} {i : Nat} {ks : List Str} {vs : List D} {v : D} {env : DEnv} {st : Sto} {Kn : KD} {Kx : KX} (hi : env[i]? = some (some (.exc a C dd ks vs))) (hd : dd ≠ none) (hf : PySem.W.findIn K (.ref C) f = some none) (hv : (ks.zip vs).lookup f = some v) (h : Kn v st) : wByE K a C dd f (wVar i) env st Kn Kx := by
  unfold wByE
  simp only [startD, endsD, wRet, wRetN, wAndV, wOrV, wNotV, wCB, wCons, wNil, wVar, wC, wChain, wOp, wUn, wIf, wIfE, wTv, wTru, wNot, wAnd, wOr, wSeq, wNext, wAsg, wDrop, dgN, dgT, dgCons, dgNil, dgSub, dgFldC, wPar, wTup, wLst, wLstC, wFldC, wSetFC, wMeth, wMake, wCall, wSl, wNoPart, wPart, wStar, wLenO, wTruO, wReprO, wBoolO, wCallN, wMakeN, wMethN, wFmt, wFS, wJs, wDNew, wDGet, wDPut, wBMl, wCallV, wCallE, gI20, gI2, gNeg, g1I, g2I, gNotN, gIsN, gIsB, D.isNon, sAdd1, sAdd2, sAdd3, sAdd4, sMul1, sMulT, sLen1, sLen2, sLen3, sInt1, sInt2, sTup1, sTup2, sLst1, sLst2, sSl1, sSl2, sSl3, sTru1, sTru2, sTru3, sTru4, sDvm, List.map, List.length_cons, List.length_nil, List.replicate, List.cons_append, List.nil_append, List.append_nil, List.getElem?_cons_zero, List.getElem?_cons_succ, List.set_cons_zero, List.set_cons_succ, DL.eq_int, DL.ne_int, eq_str, ne_str, Bool.not_true, Bool.not_false, decide_true, decide_false, true_and, and_true, if_true, if_false, Bool.false_eq_true, ex_some, hi]
  exact ⟨ks, vs, v, rfl, hd, hf, hv, h⟩
def ownD (i : Nat) : List D := [.bl (decide (i = 0)), .bl (decide (i = 1)), .bl (decide (i = 2)), .bl (decide (i = 3)), .bl (decide (i = 4)), .bl (decide (i = 5)), .bl (decide (i = 6)), .bl (decide (i = 7)), .bl (decide (i = 8)), .bl (decide (i = 9))]
def ownP (i : Nat) : List PyData := [.bool (decide (i = 0)), .bool (decide (i = 1)), .bool (decide (i = 2)), .bool (decide (i = 3)), .bool (decide (i = 4)), .bool (decide (i = 5)), .bool (decide (i = 6)), .bool (decide (i = 7)), .bool (decide (i = 8)), .bool (decide (i = 9))]
theorem own_py (i : Nat) (st : Sto) : pyS (.lst (ownD i)) st = some (.list (ownP i)) := rfl
theorem own_key : ∀ i : Fin 10, SeqAt.shaped (.list (ownP i.val)) = true ∧ ((ownP i.val).countP fun z => PyData.eqv z (.bool true)) = 1 ∧ ((ownP i.val).findIdx? fun z => PyData.eqv z (.bool true)) = some i.val := by decide +kernel
theorem shaped_bl (b : Bool) : SeqAt.shaped (.bool b) = true := by cases b <;> decide +kernel
theorem cnt_own {i : Nat} (hi : i < 10) {st : Sto} {Kn : KD} (h : Kn (.int 1) st) : gCount (.lst (ownD i)) [.bl true] st Kn := by
  obtain ⟨k1, k2, k3⟩ := own_key ⟨i, hi⟩
  unfold gCount
  rw [own_py]
  show (SeqAt.shaped (.list (ownP i)) = true ∧ SeqAt.shaped (.bool true) = true) ∧ Kn (.int (((ownP i).countP fun z => PyData.eqv z (.bool true) : Nat) : Int)) st
  rw [k2]
  exact ⟨⟨k1, shaped_bl _⟩, h⟩
theorem idx_own {i : Nat} (hi : i < 10) {st : Sto} {Kn : KD} (h : Kn (.int (i : Nat)) st) : gIndex (.lst (ownD i)) [.bl true] st Kn := by
  obtain ⟨k1, k2, k3⟩ := own_key ⟨i, hi⟩
  unfold gIndex
  rw [own_py]
  show (match ((ownP i).findIdx? fun z => PyData.eqv z (.bool true)) with
    | some j => (SeqAt.shaped (.list (ownP i)) = true ∧ SeqAt.shaped (.bool true) = true) ∧ Kn (.int (j : Nat)) st
    | none => False)
  rw [k3]
  exact ⟨⟨k1, shaped_bl _⟩, h⟩
theorem ne_lst {ds : List D} {p : PyData} {st : Sto} {Kn : KD} (h : (D.lst ds).py = some p) (hs : SeqAt.shaped p = true) (k : Kn (.bl false) st) : gNe (.lst ds) (.lst ds) st Kn := by
  show gNeD (.lst ds) (.lst ds) st Kn
  unfold gNeD
  rw [pyS_py h]
  exact ⟨⟨hs, hs⟩, by rw [SeqAt.eqv_refl p (SeqAt.canLay_of_shaped hs)]; exact k⟩
theorem shaped3 (a b c : Bool) : SeqAt.shaped (.list [.bool a, .bool b, .bool c]) = true := by cases a <;> cases b <;> cases c <;> decide +kernel
theorem ne3 {a b c : Bool} {st : Sto} {Kn : KD} (k : Kn (.bl false) st) : gNe (.lst [.bl a, .bl b, .bl c]) (.lst [.bl a, .bl b, .bl c]) st Kn := ne_lst rfl (shaped3 a b c) k
theorem in78 {i : Int} {b : Bool} {st : Sto} {Kn : KD} (h : inV (.int i) [.int 7, .int 8] = b) (k : Kn (.bl b) st) : gIn false (.int i) (.lst [.int 7, .int 8]) st Kn := by subst h; exact k
theorem isLs_lst {ds : List D} {st : Sto} : isLs (.lst ds) st := ⟨ds, rfl⟩
theorem eq1 {i : Int} {st : Sto} {Kn : KD} : gEq (.int i) (.int i) st Kn ↔ Kn (.bl true) st := by rw [DL.eq_int, show (i == i) = true by simp]
abbrev wordsD : List D := [.str "mixture", .str "pattern", .str "pot", .str "kind", .str "line", .str "order", .str "deeds", .str "nothing", .str "busy", .str "many"]
theorem ix_word {i : Int} {d : D} {st : Sto} {Kn : KD} (h0 : 0 ≤ i) (h : wordsD[i.toNat]? = some d) (k : Kn d st) : gIx (.lst wordsD) (.int i) st Kn := (ix_lst (atI_nat h0 h)).mpr k
theorem pure_law_sort {K : PySem.W.Frag} (T : TP K) : Pu_law_sort K := by
  rintro a C dd ds st Kn Kx - ⟨e, rfl, rfl, hd, h⟩
  have m := er_at e
  have nof := T.nof _ (List.mem_of_getElem? m)
  simp only [startD, endsD, wRet, wRetN, wAndV, wOrV, wNotV, wCB, wCons, wNil, wVar, wC, wChain, wOp, wUn, wIf, wIfE, wTv, wTru, wNot, wAnd, wOr, wSeq, wNext, wAsg, wDrop, dgN, dgT, dgCons, dgNil, dgSub, dgFldC, wPar, wTup, wLst, wLstC, wFldC, wSetFC, wMeth, wMake, wCall, wSl, wNoPart, wPart, wStar, wLenO, wTruO, wReprO, wBoolO, wCallN, wMakeN, wMethN, wFmt, wFS, wJs, wDNew, wDGet, wDPut, wBMl, wCallV, wCallE, gI20, gI2, gNeg, g1I, g2I, gNotN, gIsN, gIsB, D.isNon, sAdd1, sAdd2, sAdd3, sAdd4, sMul1, sMulT, sLen1, sLen2, sLen3, sInt1, sInt2, sTup1, sTup2, sLst1, sLst2, sSl1, sSl2, sSl3, sTru1, sTru2, sTru3, sTru4, sDvm, List.map, List.length_cons, List.length_nil, List.replicate, List.cons_append, List.nil_append, List.append_nil, List.getElem?_cons_zero, List.getElem?_cons_succ, List.set_cons_zero, List.set_cons_succ, DL.eq_int, DL.ne_int, eq_str, ne_str, Bool.not_true, Bool.not_false, decide_true, decide_false, true_and, and_true, if_true, if_false, Bool.false_eq_true, ex_some]
  refine isiE_at (T.kit _ 0 _ _ m rfl) rfl (isiE_at (T.kit _ 1 _ _ m rfl) rfl (isiE_at (T.kit _ 2 _ _ m rfl) rfl (isiE_at (T.kit _ 3 _ _ m rfl) rfl ⟨sl_small (by decide), ?_⟩)))
  refine isiE_at (T.kit _ 4 _ _ m rfl) rfl (isiE_at (T.kit _ 5 _ _ m rfl) rfl (isiE_at (T.kit _ 6 _ _ m rfl) rfl ⟨sl_small (by decide), ?_⟩))
  refine ⟨sl_small (by decide), ?_⟩
  refine isiE_at (T.kit _ 7 _ _ m rfl) rfl (isiE_at (T.kit _ 8 _ _ m rfl) rfl (isiE_at (T.kit _ 9 _ _ m rfl) rfl ⟨sl_small (by decide), ?_⟩))
  refine ⟨sl_small (by decide), ?_⟩
  refine isiE_at (T.kitB _ 0 _ _ m rfl) rfl (isiE_at (T.kitB _ 1 _ _ m rfl) rfl (isiE_at (T.kitB _ 2 _ _ m rfl) rfl ⟨sl_small (by decide), ?_⟩))
  refine isiE_at (T.kitK _ 0 _ _ m rfl) rfl (isiE_at (T.kitK _ 1 _ _ m rfl) rfl (isiE_at (T.kitK _ 2 _ _ m rfl) rfl ⟨sl_small (by decide), ?_⟩))
  have hi : e.at_ < 10 := by cases e <;> simp only [Er.at_] <;> decide
  refine ⟨isLs_lst, cnt_own hi ?_⟩
  rw [eq1]
  dsimp only
  refine ⟨isLs_lst, idx_own hi (ne3 ?_)⟩
  cases e with
  | mixture v =>
    simp only [Er.at_]
    simp (decide := true) only [startD, endsD, wRet, wRetN, wAndV, wOrV, wNotV, wCB, wCons, wNil, wVar, wC, wChain, wOp, wUn, wIf, wIfE, wTv, wTru, wNot, wAnd, wOr, wSeq, wNext, wAsg, wDrop, dgN, dgT, dgCons, dgNil, dgSub, dgFldC, wPar, wTup, wLst, wLstC, wFldC, wSetFC, wMeth, wMake, wCall, wSl, wNoPart, wPart, wStar, wLenO, wTruO, wReprO, wBoolO, wCallN, wMakeN, wMethN, wFmt, wFS, wJs, wDNew, wDGet, wDPut, wBMl, wCallV, wCallE, gI20, gI2, gNeg, g1I, g2I, gNotN, gIsN, gIsB, D.isNon, sAdd1, sAdd2, sAdd3, sAdd4, sMul1, sMulT, sLen1, sLen2, sLen3, sInt1, sInt2, sTup1, sTup2, sLst1, sLst2, sSl1, sSl2, sSl3, sTru1, sTru2, sTru3, sTru4, sDvm, List.map, List.length_cons, List.length_nil, List.replicate, List.cons_append, List.nil_append, List.append_nil, List.getElem?_cons_zero, List.getElem?_cons_succ, List.set_cons_zero, List.set_cons_succ, DL.eq_int, DL.ne_int, eq_str, ne_str, Bool.not_true, Bool.not_false, decide_true, decide_false, true_and, and_true, if_true, if_false, Bool.false_eq_true, ex_some]
    refine ne3 ?_
    simp (decide := true) only [startD, endsD, wRet, wRetN, wAndV, wOrV, wNotV, wCB, wCons, wNil, wVar, wC, wChain, wOp, wUn, wIf, wIfE, wTv, wTru, wNot, wAnd, wOr, wSeq, wNext, wAsg, wDrop, dgN, dgT, dgCons, dgNil, dgSub, dgFldC, wPar, wTup, wLst, wLstC, wFldC, wSetFC, wMeth, wMake, wCall, wSl, wNoPart, wPart, wStar, wLenO, wTruO, wReprO, wBoolO, wCallN, wMakeN, wMethN, wFmt, wFS, wJs, wDNew, wDGet, wDPut, wBMl, wCallV, wCallE, gI20, gI2, gNeg, g1I, g2I, gNotN, gIsN, gIsB, D.isNon, sAdd1, sAdd2, sAdd3, sAdd4, sMul1, sMulT, sLen1, sLen2, sLen3, sInt1, sInt2, sTup1, sTup2, sLst1, sLst2, sSl1, sSl2, sSl3, sTru1, sTru2, sTru3, sTru4, sDvm, List.map, List.length_cons, List.length_nil, List.replicate, List.cons_append, List.nil_append, List.append_nil, List.getElem?_cons_zero, List.getElem?_cons_succ, List.set_cons_zero, List.set_cons_succ, DL.eq_int, DL.ne_int, eq_str, ne_str, Bool.not_true, Bool.not_false, decide_true, decide_false, true_and, and_true, if_true, if_false, Bool.false_eq_true, ex_some]
    refine in78 (b := false) (by decide +kernel) ?_
    simp (decide := true) only [startD, endsD, wRet, wRetN, wAndV, wOrV, wNotV, wCB, wCons, wNil, wVar, wC, wChain, wOp, wUn, wIf, wIfE, wTv, wTru, wNot, wAnd, wOr, wSeq, wNext, wAsg, wDrop, dgN, dgT, dgCons, dgNil, dgSub, dgFldC, wPar, wTup, wLst, wLstC, wFldC, wSetFC, wMeth, wMake, wCall, wSl, wNoPart, wPart, wStar, wLenO, wTruO, wReprO, wBoolO, wCallN, wMakeN, wMethN, wFmt, wFS, wJs, wDNew, wDGet, wDPut, wBMl, wCallV, wCallE, gI20, gI2, gNeg, g1I, g2I, gNotN, gIsN, gIsB, D.isNon, sAdd1, sAdd2, sAdd3, sAdd4, sMul1, sMulT, sLen1, sLen2, sLen3, sInt1, sInt2, sTup1, sTup2, sLst1, sLst2, sSl1, sSl2, sSl3, sTru1, sTru2, sTru3, sTru4, sDvm, List.map, List.length_cons, List.length_nil, List.replicate, List.cons_append, List.nil_append, List.append_nil, List.getElem?_cons_zero, List.getElem?_cons_succ, List.set_cons_zero, List.set_cons_succ, DL.eq_int, DL.ne_int, eq_str, ne_str, Bool.not_true, Bool.not_false, decide_true, decide_false, true_and, and_true, if_true, if_false, Bool.false_eq_true, ex_some]
    refine ix_word (by decide) rfl ?_
    exact byE_at rfl (hd (by simp [Er.fs])) (nof _ (by simp)) rfl h
  | pattern v =>
    simp only [Er.at_]
    simp (decide := true) only [startD, endsD, wRet, wRetN, wAndV, wOrV, wNotV, wCB, wCons, wNil, wVar, wC, wChain, wOp, wUn, wIf, wIfE, wTv, wTru, wNot, wAnd, wOr, wSeq, wNext, wAsg, wDrop, dgN, dgT, dgCons, dgNil, dgSub, dgFldC, wPar, wTup, wLst, wLstC, wFldC, wSetFC, wMeth, wMake, wCall, wSl, wNoPart, wPart, wStar, wLenO, wTruO, wReprO, wBoolO, wCallN, wMakeN, wMethN, wFmt, wFS, wJs, wDNew, wDGet, wDPut, wBMl, wCallV, wCallE, gI20, gI2, gNeg, g1I, g2I, gNotN, gIsN, gIsB, D.isNon, sAdd1, sAdd2, sAdd3, sAdd4, sMul1, sMulT, sLen1, sLen2, sLen3, sInt1, sInt2, sTup1, sTup2, sLst1, sLst2, sSl1, sSl2, sSl3, sTru1, sTru2, sTru3, sTru4, sDvm, List.map, List.length_cons, List.length_nil, List.replicate, List.cons_append, List.nil_append, List.append_nil, List.getElem?_cons_zero, List.getElem?_cons_succ, List.set_cons_zero, List.set_cons_succ, DL.eq_int, DL.ne_int, eq_str, ne_str, Bool.not_true, Bool.not_false, decide_true, decide_false, true_and, and_true, if_true, if_false, Bool.false_eq_true, ex_some]
    refine ne3 ?_
    simp (decide := true) only [startD, endsD, wRet, wRetN, wAndV, wOrV, wNotV, wCB, wCons, wNil, wVar, wC, wChain, wOp, wUn, wIf, wIfE, wTv, wTru, wNot, wAnd, wOr, wSeq, wNext, wAsg, wDrop, dgN, dgT, dgCons, dgNil, dgSub, dgFldC, wPar, wTup, wLst, wLstC, wFldC, wSetFC, wMeth, wMake, wCall, wSl, wNoPart, wPart, wStar, wLenO, wTruO, wReprO, wBoolO, wCallN, wMakeN, wMethN, wFmt, wFS, wJs, wDNew, wDGet, wDPut, wBMl, wCallV, wCallE, gI20, gI2, gNeg, g1I, g2I, gNotN, gIsN, gIsB, D.isNon, sAdd1, sAdd2, sAdd3, sAdd4, sMul1, sMulT, sLen1, sLen2, sLen3, sInt1, sInt2, sTup1, sTup2, sLst1, sLst2, sSl1, sSl2, sSl3, sTru1, sTru2, sTru3, sTru4, sDvm, List.map, List.length_cons, List.length_nil, List.replicate, List.cons_append, List.nil_append, List.append_nil, List.getElem?_cons_zero, List.getElem?_cons_succ, List.set_cons_zero, List.set_cons_succ, DL.eq_int, DL.ne_int, eq_str, ne_str, Bool.not_true, Bool.not_false, decide_true, decide_false, true_and, and_true, if_true, if_false, Bool.false_eq_true, ex_some]
    refine in78 (b := false) (by decide +kernel) ?_
    simp (decide := true) only [startD, endsD, wRet, wRetN, wAndV, wOrV, wNotV, wCB, wCons, wNil, wVar, wC, wChain, wOp, wUn, wIf, wIfE, wTv, wTru, wNot, wAnd, wOr, wSeq, wNext, wAsg, wDrop, dgN, dgT, dgCons, dgNil, dgSub, dgFldC, wPar, wTup, wLst, wLstC, wFldC, wSetFC, wMeth, wMake, wCall, wSl, wNoPart, wPart, wStar, wLenO, wTruO, wReprO, wBoolO, wCallN, wMakeN, wMethN, wFmt, wFS, wJs, wDNew, wDGet, wDPut, wBMl, wCallV, wCallE, gI20, gI2, gNeg, g1I, g2I, gNotN, gIsN, gIsB, D.isNon, sAdd1, sAdd2, sAdd3, sAdd4, sMul1, sMulT, sLen1, sLen2, sLen3, sInt1, sInt2, sTup1, sTup2, sLst1, sLst2, sSl1, sSl2, sSl3, sTru1, sTru2, sTru3, sTru4, sDvm, List.map, List.length_cons, List.length_nil, List.replicate, List.cons_append, List.nil_append, List.append_nil, List.getElem?_cons_zero, List.getElem?_cons_succ, List.set_cons_zero, List.set_cons_succ, DL.eq_int, DL.ne_int, eq_str, ne_str, Bool.not_true, Bool.not_false, decide_true, decide_false, true_and, and_true, if_true, if_false, Bool.false_eq_true, ex_some]
    refine ix_word (by decide) rfl ?_
    exact byE_at rfl (hd (by simp [Er.fs])) (nof _ (by simp)) rfl h
  | pot v =>
    simp only [Er.at_]
    simp (decide := true) only [startD, endsD, wRet, wRetN, wAndV, wOrV, wNotV, wCB, wCons, wNil, wVar, wC, wChain, wOp, wUn, wIf, wIfE, wTv, wTru, wNot, wAnd, wOr, wSeq, wNext, wAsg, wDrop, dgN, dgT, dgCons, dgNil, dgSub, dgFldC, wPar, wTup, wLst, wLstC, wFldC, wSetFC, wMeth, wMake, wCall, wSl, wNoPart, wPart, wStar, wLenO, wTruO, wReprO, wBoolO, wCallN, wMakeN, wMethN, wFmt, wFS, wJs, wDNew, wDGet, wDPut, wBMl, wCallV, wCallE, gI20, gI2, gNeg, g1I, g2I, gNotN, gIsN, gIsB, D.isNon, sAdd1, sAdd2, sAdd3, sAdd4, sMul1, sMulT, sLen1, sLen2, sLen3, sInt1, sInt2, sTup1, sTup2, sLst1, sLst2, sSl1, sSl2, sSl3, sTru1, sTru2, sTru3, sTru4, sDvm, List.map, List.length_cons, List.length_nil, List.replicate, List.cons_append, List.nil_append, List.append_nil, List.getElem?_cons_zero, List.getElem?_cons_succ, List.set_cons_zero, List.set_cons_succ, DL.eq_int, DL.ne_int, eq_str, ne_str, Bool.not_true, Bool.not_false, decide_true, decide_false, true_and, and_true, if_true, if_false, Bool.false_eq_true, ex_some]
    refine ne3 ?_
    simp (decide := true) only [startD, endsD, wRet, wRetN, wAndV, wOrV, wNotV, wCB, wCons, wNil, wVar, wC, wChain, wOp, wUn, wIf, wIfE, wTv, wTru, wNot, wAnd, wOr, wSeq, wNext, wAsg, wDrop, dgN, dgT, dgCons, dgNil, dgSub, dgFldC, wPar, wTup, wLst, wLstC, wFldC, wSetFC, wMeth, wMake, wCall, wSl, wNoPart, wPart, wStar, wLenO, wTruO, wReprO, wBoolO, wCallN, wMakeN, wMethN, wFmt, wFS, wJs, wDNew, wDGet, wDPut, wBMl, wCallV, wCallE, gI20, gI2, gNeg, g1I, g2I, gNotN, gIsN, gIsB, D.isNon, sAdd1, sAdd2, sAdd3, sAdd4, sMul1, sMulT, sLen1, sLen2, sLen3, sInt1, sInt2, sTup1, sTup2, sLst1, sLst2, sSl1, sSl2, sSl3, sTru1, sTru2, sTru3, sTru4, sDvm, List.map, List.length_cons, List.length_nil, List.replicate, List.cons_append, List.nil_append, List.append_nil, List.getElem?_cons_zero, List.getElem?_cons_succ, List.set_cons_zero, List.set_cons_succ, DL.eq_int, DL.ne_int, eq_str, ne_str, Bool.not_true, Bool.not_false, decide_true, decide_false, true_and, and_true, if_true, if_false, Bool.false_eq_true, ex_some]
    refine in78 (b := false) (by decide +kernel) ?_
    simp (decide := true) only [startD, endsD, wRet, wRetN, wAndV, wOrV, wNotV, wCB, wCons, wNil, wVar, wC, wChain, wOp, wUn, wIf, wIfE, wTv, wTru, wNot, wAnd, wOr, wSeq, wNext, wAsg, wDrop, dgN, dgT, dgCons, dgNil, dgSub, dgFldC, wPar, wTup, wLst, wLstC, wFldC, wSetFC, wMeth, wMake, wCall, wSl, wNoPart, wPart, wStar, wLenO, wTruO, wReprO, wBoolO, wCallN, wMakeN, wMethN, wFmt, wFS, wJs, wDNew, wDGet, wDPut, wBMl, wCallV, wCallE, gI20, gI2, gNeg, g1I, g2I, gNotN, gIsN, gIsB, D.isNon, sAdd1, sAdd2, sAdd3, sAdd4, sMul1, sMulT, sLen1, sLen2, sLen3, sInt1, sInt2, sTup1, sTup2, sLst1, sLst2, sSl1, sSl2, sSl3, sTru1, sTru2, sTru3, sTru4, sDvm, List.map, List.length_cons, List.length_nil, List.replicate, List.cons_append, List.nil_append, List.append_nil, List.getElem?_cons_zero, List.getElem?_cons_succ, List.set_cons_zero, List.set_cons_succ, DL.eq_int, DL.ne_int, eq_str, ne_str, Bool.not_true, Bool.not_false, decide_true, decide_false, true_and, and_true, if_true, if_false, Bool.false_eq_true, ex_some]
    refine ix_word (by decide) rfl ?_
    exact byE_at rfl (hd (by simp [Er.fs])) (nof _ (by simp)) rfl h
  | kind v =>
    simp only [Er.at_]
    simp (decide := true) only [startD, endsD, wRet, wRetN, wAndV, wOrV, wNotV, wCB, wCons, wNil, wVar, wC, wChain, wOp, wUn, wIf, wIfE, wTv, wTru, wNot, wAnd, wOr, wSeq, wNext, wAsg, wDrop, dgN, dgT, dgCons, dgNil, dgSub, dgFldC, wPar, wTup, wLst, wLstC, wFldC, wSetFC, wMeth, wMake, wCall, wSl, wNoPart, wPart, wStar, wLenO, wTruO, wReprO, wBoolO, wCallN, wMakeN, wMethN, wFmt, wFS, wJs, wDNew, wDGet, wDPut, wBMl, wCallV, wCallE, gI20, gI2, gNeg, g1I, g2I, gNotN, gIsN, gIsB, D.isNon, sAdd1, sAdd2, sAdd3, sAdd4, sMul1, sMulT, sLen1, sLen2, sLen3, sInt1, sInt2, sTup1, sTup2, sLst1, sLst2, sSl1, sSl2, sSl3, sTru1, sTru2, sTru3, sTru4, sDvm, List.map, List.length_cons, List.length_nil, List.replicate, List.cons_append, List.nil_append, List.append_nil, List.getElem?_cons_zero, List.getElem?_cons_succ, List.set_cons_zero, List.set_cons_succ, DL.eq_int, DL.ne_int, eq_str, ne_str, Bool.not_true, Bool.not_false, decide_true, decide_false, true_and, and_true, if_true, if_false, Bool.false_eq_true, ex_some]
    refine ne3 ?_
    simp (decide := true) only [startD, endsD, wRet, wRetN, wAndV, wOrV, wNotV, wCB, wCons, wNil, wVar, wC, wChain, wOp, wUn, wIf, wIfE, wTv, wTru, wNot, wAnd, wOr, wSeq, wNext, wAsg, wDrop, dgN, dgT, dgCons, dgNil, dgSub, dgFldC, wPar, wTup, wLst, wLstC, wFldC, wSetFC, wMeth, wMake, wCall, wSl, wNoPart, wPart, wStar, wLenO, wTruO, wReprO, wBoolO, wCallN, wMakeN, wMethN, wFmt, wFS, wJs, wDNew, wDGet, wDPut, wBMl, wCallV, wCallE, gI20, gI2, gNeg, g1I, g2I, gNotN, gIsN, gIsB, D.isNon, sAdd1, sAdd2, sAdd3, sAdd4, sMul1, sMulT, sLen1, sLen2, sLen3, sInt1, sInt2, sTup1, sTup2, sLst1, sLst2, sSl1, sSl2, sSl3, sTru1, sTru2, sTru3, sTru4, sDvm, List.map, List.length_cons, List.length_nil, List.replicate, List.cons_append, List.nil_append, List.append_nil, List.getElem?_cons_zero, List.getElem?_cons_succ, List.set_cons_zero, List.set_cons_succ, DL.eq_int, DL.ne_int, eq_str, ne_str, Bool.not_true, Bool.not_false, decide_true, decide_false, true_and, and_true, if_true, if_false, Bool.false_eq_true, ex_some]
    refine in78 (b := false) (by decide +kernel) ?_
    simp (decide := true) only [startD, endsD, wRet, wRetN, wAndV, wOrV, wNotV, wCB, wCons, wNil, wVar, wC, wChain, wOp, wUn, wIf, wIfE, wTv, wTru, wNot, wAnd, wOr, wSeq, wNext, wAsg, wDrop, dgN, dgT, dgCons, dgNil, dgSub, dgFldC, wPar, wTup, wLst, wLstC, wFldC, wSetFC, wMeth, wMake, wCall, wSl, wNoPart, wPart, wStar, wLenO, wTruO, wReprO, wBoolO, wCallN, wMakeN, wMethN, wFmt, wFS, wJs, wDNew, wDGet, wDPut, wBMl, wCallV, wCallE, gI20, gI2, gNeg, g1I, g2I, gNotN, gIsN, gIsB, D.isNon, sAdd1, sAdd2, sAdd3, sAdd4, sMul1, sMulT, sLen1, sLen2, sLen3, sInt1, sInt2, sTup1, sTup2, sLst1, sLst2, sSl1, sSl2, sSl3, sTru1, sTru2, sTru3, sTru4, sDvm, List.map, List.length_cons, List.length_nil, List.replicate, List.cons_append, List.nil_append, List.append_nil, List.getElem?_cons_zero, List.getElem?_cons_succ, List.set_cons_zero, List.set_cons_succ, DL.eq_int, DL.ne_int, eq_str, ne_str, Bool.not_true, Bool.not_false, decide_true, decide_false, true_and, and_true, if_true, if_false, Bool.false_eq_true, ex_some]
    refine ix_word (by decide) rfl ?_
    exact byE_at rfl (hd (by simp [Er.fs])) (nof _ (by simp)) rfl h
  | line v =>
    simp only [Er.at_]
    simp (decide := true) only [startD, endsD, wRet, wRetN, wAndV, wOrV, wNotV, wCB, wCons, wNil, wVar, wC, wChain, wOp, wUn, wIf, wIfE, wTv, wTru, wNot, wAnd, wOr, wSeq, wNext, wAsg, wDrop, dgN, dgT, dgCons, dgNil, dgSub, dgFldC, wPar, wTup, wLst, wLstC, wFldC, wSetFC, wMeth, wMake, wCall, wSl, wNoPart, wPart, wStar, wLenO, wTruO, wReprO, wBoolO, wCallN, wMakeN, wMethN, wFmt, wFS, wJs, wDNew, wDGet, wDPut, wBMl, wCallV, wCallE, gI20, gI2, gNeg, g1I, g2I, gNotN, gIsN, gIsB, D.isNon, sAdd1, sAdd2, sAdd3, sAdd4, sMul1, sMulT, sLen1, sLen2, sLen3, sInt1, sInt2, sTup1, sTup2, sLst1, sLst2, sSl1, sSl2, sSl3, sTru1, sTru2, sTru3, sTru4, sDvm, List.map, List.length_cons, List.length_nil, List.replicate, List.cons_append, List.nil_append, List.append_nil, List.getElem?_cons_zero, List.getElem?_cons_succ, List.set_cons_zero, List.set_cons_succ, DL.eq_int, DL.ne_int, eq_str, ne_str, Bool.not_true, Bool.not_false, decide_true, decide_false, true_and, and_true, if_true, if_false, Bool.false_eq_true, ex_some]
    refine ne3 ?_
    simp (decide := true) only [startD, endsD, wRet, wRetN, wAndV, wOrV, wNotV, wCB, wCons, wNil, wVar, wC, wChain, wOp, wUn, wIf, wIfE, wTv, wTru, wNot, wAnd, wOr, wSeq, wNext, wAsg, wDrop, dgN, dgT, dgCons, dgNil, dgSub, dgFldC, wPar, wTup, wLst, wLstC, wFldC, wSetFC, wMeth, wMake, wCall, wSl, wNoPart, wPart, wStar, wLenO, wTruO, wReprO, wBoolO, wCallN, wMakeN, wMethN, wFmt, wFS, wJs, wDNew, wDGet, wDPut, wBMl, wCallV, wCallE, gI20, gI2, gNeg, g1I, g2I, gNotN, gIsN, gIsB, D.isNon, sAdd1, sAdd2, sAdd3, sAdd4, sMul1, sMulT, sLen1, sLen2, sLen3, sInt1, sInt2, sTup1, sTup2, sLst1, sLst2, sSl1, sSl2, sSl3, sTru1, sTru2, sTru3, sTru4, sDvm, List.map, List.length_cons, List.length_nil, List.replicate, List.cons_append, List.nil_append, List.append_nil, List.getElem?_cons_zero, List.getElem?_cons_succ, List.set_cons_zero, List.set_cons_succ, DL.eq_int, DL.ne_int, eq_str, ne_str, Bool.not_true, Bool.not_false, decide_true, decide_false, true_and, and_true, if_true, if_false, Bool.false_eq_true, ex_some]
    refine in78 (b := false) (by decide +kernel) ?_
    simp (decide := true) only [startD, endsD, wRet, wRetN, wAndV, wOrV, wNotV, wCB, wCons, wNil, wVar, wC, wChain, wOp, wUn, wIf, wIfE, wTv, wTru, wNot, wAnd, wOr, wSeq, wNext, wAsg, wDrop, dgN, dgT, dgCons, dgNil, dgSub, dgFldC, wPar, wTup, wLst, wLstC, wFldC, wSetFC, wMeth, wMake, wCall, wSl, wNoPart, wPart, wStar, wLenO, wTruO, wReprO, wBoolO, wCallN, wMakeN, wMethN, wFmt, wFS, wJs, wDNew, wDGet, wDPut, wBMl, wCallV, wCallE, gI20, gI2, gNeg, g1I, g2I, gNotN, gIsN, gIsB, D.isNon, sAdd1, sAdd2, sAdd3, sAdd4, sMul1, sMulT, sLen1, sLen2, sLen3, sInt1, sInt2, sTup1, sTup2, sLst1, sLst2, sSl1, sSl2, sSl3, sTru1, sTru2, sTru3, sTru4, sDvm, List.map, List.length_cons, List.length_nil, List.replicate, List.cons_append, List.nil_append, List.append_nil, List.getElem?_cons_zero, List.getElem?_cons_succ, List.set_cons_zero, List.set_cons_succ, DL.eq_int, DL.ne_int, eq_str, ne_str, Bool.not_true, Bool.not_false, decide_true, decide_false, true_and, and_true, if_true, if_false, Bool.false_eq_true, ex_some]
    refine ix_word (by decide) rfl ?_
    exact byE_at rfl (hd (by simp [Er.fs])) (nof _ (by simp)) rfl h
  | order v =>
    simp only [Er.at_]
    simp (decide := true) only [startD, endsD, wRet, wRetN, wAndV, wOrV, wNotV, wCB, wCons, wNil, wVar, wC, wChain, wOp, wUn, wIf, wIfE, wTv, wTru, wNot, wAnd, wOr, wSeq, wNext, wAsg, wDrop, dgN, dgT, dgCons, dgNil, dgSub, dgFldC, wPar, wTup, wLst, wLstC, wFldC, wSetFC, wMeth, wMake, wCall, wSl, wNoPart, wPart, wStar, wLenO, wTruO, wReprO, wBoolO, wCallN, wMakeN, wMethN, wFmt, wFS, wJs, wDNew, wDGet, wDPut, wBMl, wCallV, wCallE, gI20, gI2, gNeg, g1I, g2I, gNotN, gIsN, gIsB, D.isNon, sAdd1, sAdd2, sAdd3, sAdd4, sMul1, sMulT, sLen1, sLen2, sLen3, sInt1, sInt2, sTup1, sTup2, sLst1, sLst2, sSl1, sSl2, sSl3, sTru1, sTru2, sTru3, sTru4, sDvm, List.map, List.length_cons, List.length_nil, List.replicate, List.cons_append, List.nil_append, List.append_nil, List.getElem?_cons_zero, List.getElem?_cons_succ, List.set_cons_zero, List.set_cons_succ, DL.eq_int, DL.ne_int, eq_str, ne_str, Bool.not_true, Bool.not_false, decide_true, decide_false, true_and, and_true, if_true, if_false, Bool.false_eq_true, ex_some]
    refine ne3 ?_
    simp (decide := true) only [startD, endsD, wRet, wRetN, wAndV, wOrV, wNotV, wCB, wCons, wNil, wVar, wC, wChain, wOp, wUn, wIf, wIfE, wTv, wTru, wNot, wAnd, wOr, wSeq, wNext, wAsg, wDrop, dgN, dgT, dgCons, dgNil, dgSub, dgFldC, wPar, wTup, wLst, wLstC, wFldC, wSetFC, wMeth, wMake, wCall, wSl, wNoPart, wPart, wStar, wLenO, wTruO, wReprO, wBoolO, wCallN, wMakeN, wMethN, wFmt, wFS, wJs, wDNew, wDGet, wDPut, wBMl, wCallV, wCallE, gI20, gI2, gNeg, g1I, g2I, gNotN, gIsN, gIsB, D.isNon, sAdd1, sAdd2, sAdd3, sAdd4, sMul1, sMulT, sLen1, sLen2, sLen3, sInt1, sInt2, sTup1, sTup2, sLst1, sLst2, sSl1, sSl2, sSl3, sTru1, sTru2, sTru3, sTru4, sDvm, List.map, List.length_cons, List.length_nil, List.replicate, List.cons_append, List.nil_append, List.append_nil, List.getElem?_cons_zero, List.getElem?_cons_succ, List.set_cons_zero, List.set_cons_succ, DL.eq_int, DL.ne_int, eq_str, ne_str, Bool.not_true, Bool.not_false, decide_true, decide_false, true_and, and_true, if_true, if_false, Bool.false_eq_true, ex_some]
    refine in78 (b := false) (by decide +kernel) ?_
    simp (decide := true) only [startD, endsD, wRet, wRetN, wAndV, wOrV, wNotV, wCB, wCons, wNil, wVar, wC, wChain, wOp, wUn, wIf, wIfE, wTv, wTru, wNot, wAnd, wOr, wSeq, wNext, wAsg, wDrop, dgN, dgT, dgCons, dgNil, dgSub, dgFldC, wPar, wTup, wLst, wLstC, wFldC, wSetFC, wMeth, wMake, wCall, wSl, wNoPart, wPart, wStar, wLenO, wTruO, wReprO, wBoolO, wCallN, wMakeN, wMethN, wFmt, wFS, wJs, wDNew, wDGet, wDPut, wBMl, wCallV, wCallE, gI20, gI2, gNeg, g1I, g2I, gNotN, gIsN, gIsB, D.isNon, sAdd1, sAdd2, sAdd3, sAdd4, sMul1, sMulT, sLen1, sLen2, sLen3, sInt1, sInt2, sTup1, sTup2, sLst1, sLst2, sSl1, sSl2, sSl3, sTru1, sTru2, sTru3, sTru4, sDvm, List.map, List.length_cons, List.length_nil, List.replicate, List.cons_append, List.nil_append, List.append_nil, List.getElem?_cons_zero, List.getElem?_cons_succ, List.set_cons_zero, List.set_cons_succ, DL.eq_int, DL.ne_int, eq_str, ne_str, Bool.not_true, Bool.not_false, decide_true, decide_false, true_and, and_true, if_true, if_false, Bool.false_eq_true, ex_some]
    refine ix_word (by decide) rfl ?_
    exact byE_at rfl (hd (by simp [Er.fs])) (nof _ (by simp)) rfl h
  | deeds v =>
    simp only [Er.at_]
    simp (decide := true) only [startD, endsD, wRet, wRetN, wAndV, wOrV, wNotV, wCB, wCons, wNil, wVar, wC, wChain, wOp, wUn, wIf, wIfE, wTv, wTru, wNot, wAnd, wOr, wSeq, wNext, wAsg, wDrop, dgN, dgT, dgCons, dgNil, dgSub, dgFldC, wPar, wTup, wLst, wLstC, wFldC, wSetFC, wMeth, wMake, wCall, wSl, wNoPart, wPart, wStar, wLenO, wTruO, wReprO, wBoolO, wCallN, wMakeN, wMethN, wFmt, wFS, wJs, wDNew, wDGet, wDPut, wBMl, wCallV, wCallE, gI20, gI2, gNeg, g1I, g2I, gNotN, gIsN, gIsB, D.isNon, sAdd1, sAdd2, sAdd3, sAdd4, sMul1, sMulT, sLen1, sLen2, sLen3, sInt1, sInt2, sTup1, sTup2, sLst1, sLst2, sSl1, sSl2, sSl3, sTru1, sTru2, sTru3, sTru4, sDvm, List.map, List.length_cons, List.length_nil, List.replicate, List.cons_append, List.nil_append, List.append_nil, List.getElem?_cons_zero, List.getElem?_cons_succ, List.set_cons_zero, List.set_cons_succ, DL.eq_int, DL.ne_int, eq_str, ne_str, Bool.not_true, Bool.not_false, decide_true, decide_false, true_and, and_true, if_true, if_false, Bool.false_eq_true, ex_some]
    refine ne3 ?_
    simp (decide := true) only [startD, endsD, wRet, wRetN, wAndV, wOrV, wNotV, wCB, wCons, wNil, wVar, wC, wChain, wOp, wUn, wIf, wIfE, wTv, wTru, wNot, wAnd, wOr, wSeq, wNext, wAsg, wDrop, dgN, dgT, dgCons, dgNil, dgSub, dgFldC, wPar, wTup, wLst, wLstC, wFldC, wSetFC, wMeth, wMake, wCall, wSl, wNoPart, wPart, wStar, wLenO, wTruO, wReprO, wBoolO, wCallN, wMakeN, wMethN, wFmt, wFS, wJs, wDNew, wDGet, wDPut, wBMl, wCallV, wCallE, gI20, gI2, gNeg, g1I, g2I, gNotN, gIsN, gIsB, D.isNon, sAdd1, sAdd2, sAdd3, sAdd4, sMul1, sMulT, sLen1, sLen2, sLen3, sInt1, sInt2, sTup1, sTup2, sLst1, sLst2, sSl1, sSl2, sSl3, sTru1, sTru2, sTru3, sTru4, sDvm, List.map, List.length_cons, List.length_nil, List.replicate, List.cons_append, List.nil_append, List.append_nil, List.getElem?_cons_zero, List.getElem?_cons_succ, List.set_cons_zero, List.set_cons_succ, DL.eq_int, DL.ne_int, eq_str, ne_str, Bool.not_true, Bool.not_false, decide_true, decide_false, true_and, and_true, if_true, if_false, Bool.false_eq_true, ex_some]
    refine in78 (b := false) (by decide +kernel) ?_
    simp (decide := true) only [startD, endsD, wRet, wRetN, wAndV, wOrV, wNotV, wCB, wCons, wNil, wVar, wC, wChain, wOp, wUn, wIf, wIfE, wTv, wTru, wNot, wAnd, wOr, wSeq, wNext, wAsg, wDrop, dgN, dgT, dgCons, dgNil, dgSub, dgFldC, wPar, wTup, wLst, wLstC, wFldC, wSetFC, wMeth, wMake, wCall, wSl, wNoPart, wPart, wStar, wLenO, wTruO, wReprO, wBoolO, wCallN, wMakeN, wMethN, wFmt, wFS, wJs, wDNew, wDGet, wDPut, wBMl, wCallV, wCallE, gI20, gI2, gNeg, g1I, g2I, gNotN, gIsN, gIsB, D.isNon, sAdd1, sAdd2, sAdd3, sAdd4, sMul1, sMulT, sLen1, sLen2, sLen3, sInt1, sInt2, sTup1, sTup2, sLst1, sLst2, sSl1, sSl2, sSl3, sTru1, sTru2, sTru3, sTru4, sDvm, List.map, List.length_cons, List.length_nil, List.replicate, List.cons_append, List.nil_append, List.append_nil, List.getElem?_cons_zero, List.getElem?_cons_succ, List.set_cons_zero, List.set_cons_succ, DL.eq_int, DL.ne_int, eq_str, ne_str, Bool.not_true, Bool.not_false, decide_true, decide_false, true_and, and_true, if_true, if_false, Bool.false_eq_true, ex_some]
    refine ix_word (by decide) rfl ?_
    exact byE_at rfl (hd (by simp [Er.fs])) (nof _ (by simp)) rfl h
  | nothing =>
    simp only [Er.at_]
    simp (decide := true) only [startD, endsD, wRet, wRetN, wAndV, wOrV, wNotV, wCB, wCons, wNil, wVar, wC, wChain, wOp, wUn, wIf, wIfE, wTv, wTru, wNot, wAnd, wOr, wSeq, wNext, wAsg, wDrop, dgN, dgT, dgCons, dgNil, dgSub, dgFldC, wPar, wTup, wLst, wLstC, wFldC, wSetFC, wMeth, wMake, wCall, wSl, wNoPart, wPart, wStar, wLenO, wTruO, wReprO, wBoolO, wCallN, wMakeN, wMethN, wFmt, wFS, wJs, wDNew, wDGet, wDPut, wBMl, wCallV, wCallE, gI20, gI2, gNeg, g1I, g2I, gNotN, gIsN, gIsB, D.isNon, sAdd1, sAdd2, sAdd3, sAdd4, sMul1, sMulT, sLen1, sLen2, sLen3, sInt1, sInt2, sTup1, sTup2, sLst1, sLst2, sSl1, sSl2, sSl3, sTru1, sTru2, sTru3, sTru4, sDvm, List.map, List.length_cons, List.length_nil, List.replicate, List.cons_append, List.nil_append, List.append_nil, List.getElem?_cons_zero, List.getElem?_cons_succ, List.set_cons_zero, List.set_cons_succ, DL.eq_int, DL.ne_int, eq_str, ne_str, Bool.not_true, Bool.not_false, decide_true, decide_false, true_and, and_true, if_true, if_false, Bool.false_eq_true, ex_some]
    refine ne3 ?_
    simp (decide := true) only [startD, endsD, wRet, wRetN, wAndV, wOrV, wNotV, wCB, wCons, wNil, wVar, wC, wChain, wOp, wUn, wIf, wIfE, wTv, wTru, wNot, wAnd, wOr, wSeq, wNext, wAsg, wDrop, dgN, dgT, dgCons, dgNil, dgSub, dgFldC, wPar, wTup, wLst, wLstC, wFldC, wSetFC, wMeth, wMake, wCall, wSl, wNoPart, wPart, wStar, wLenO, wTruO, wReprO, wBoolO, wCallN, wMakeN, wMethN, wFmt, wFS, wJs, wDNew, wDGet, wDPut, wBMl, wCallV, wCallE, gI20, gI2, gNeg, g1I, g2I, gNotN, gIsN, gIsB, D.isNon, sAdd1, sAdd2, sAdd3, sAdd4, sMul1, sMulT, sLen1, sLen2, sLen3, sInt1, sInt2, sTup1, sTup2, sLst1, sLst2, sSl1, sSl2, sSl3, sTru1, sTru2, sTru3, sTru4, sDvm, List.map, List.length_cons, List.length_nil, List.replicate, List.cons_append, List.nil_append, List.append_nil, List.getElem?_cons_zero, List.getElem?_cons_succ, List.set_cons_zero, List.set_cons_succ, DL.eq_int, DL.ne_int, eq_str, ne_str, Bool.not_true, Bool.not_false, decide_true, decide_false, true_and, and_true, if_true, if_false, Bool.false_eq_true, ex_some]
    refine in78 (b := true) (by decide +kernel) ?_
    dsimp only
    exact ix_word (by decide) rfl h
  | busy =>
    simp only [Er.at_]
    simp (decide := true) only [startD, endsD, wRet, wRetN, wAndV, wOrV, wNotV, wCB, wCons, wNil, wVar, wC, wChain, wOp, wUn, wIf, wIfE, wTv, wTru, wNot, wAnd, wOr, wSeq, wNext, wAsg, wDrop, dgN, dgT, dgCons, dgNil, dgSub, dgFldC, wPar, wTup, wLst, wLstC, wFldC, wSetFC, wMeth, wMake, wCall, wSl, wNoPart, wPart, wStar, wLenO, wTruO, wReprO, wBoolO, wCallN, wMakeN, wMethN, wFmt, wFS, wJs, wDNew, wDGet, wDPut, wBMl, wCallV, wCallE, gI20, gI2, gNeg, g1I, g2I, gNotN, gIsN, gIsB, D.isNon, sAdd1, sAdd2, sAdd3, sAdd4, sMul1, sMulT, sLen1, sLen2, sLen3, sInt1, sInt2, sTup1, sTup2, sLst1, sLst2, sSl1, sSl2, sSl3, sTru1, sTru2, sTru3, sTru4, sDvm, List.map, List.length_cons, List.length_nil, List.replicate, List.cons_append, List.nil_append, List.append_nil, List.getElem?_cons_zero, List.getElem?_cons_succ, List.set_cons_zero, List.set_cons_succ, DL.eq_int, DL.ne_int, eq_str, ne_str, Bool.not_true, Bool.not_false, decide_true, decide_false, true_and, and_true, if_true, if_false, Bool.false_eq_true, ex_some]
    refine ne3 ?_
    simp (decide := true) only [startD, endsD, wRet, wRetN, wAndV, wOrV, wNotV, wCB, wCons, wNil, wVar, wC, wChain, wOp, wUn, wIf, wIfE, wTv, wTru, wNot, wAnd, wOr, wSeq, wNext, wAsg, wDrop, dgN, dgT, dgCons, dgNil, dgSub, dgFldC, wPar, wTup, wLst, wLstC, wFldC, wSetFC, wMeth, wMake, wCall, wSl, wNoPart, wPart, wStar, wLenO, wTruO, wReprO, wBoolO, wCallN, wMakeN, wMethN, wFmt, wFS, wJs, wDNew, wDGet, wDPut, wBMl, wCallV, wCallE, gI20, gI2, gNeg, g1I, g2I, gNotN, gIsN, gIsB, D.isNon, sAdd1, sAdd2, sAdd3, sAdd4, sMul1, sMulT, sLen1, sLen2, sLen3, sInt1, sInt2, sTup1, sTup2, sLst1, sLst2, sSl1, sSl2, sSl3, sTru1, sTru2, sTru3, sTru4, sDvm, List.map, List.length_cons, List.length_nil, List.replicate, List.cons_append, List.nil_append, List.append_nil, List.getElem?_cons_zero, List.getElem?_cons_succ, List.set_cons_zero, List.set_cons_succ, DL.eq_int, DL.ne_int, eq_str, ne_str, Bool.not_true, Bool.not_false, decide_true, decide_false, true_and, and_true, if_true, if_false, Bool.false_eq_true, ex_some]
    refine in78 (b := true) (by decide +kernel) ?_
    dsimp only
    exact ix_word (by decide) rfl h
  | many n =>
    simp only [Er.at_]
    simp (decide := true) only [startD, endsD, wRet, wRetN, wAndV, wOrV, wNotV, wCB, wCons, wNil, wVar, wC, wChain, wOp, wUn, wIf, wIfE, wTv, wTru, wNot, wAnd, wOr, wSeq, wNext, wAsg, wDrop, dgN, dgT, dgCons, dgNil, dgSub, dgFldC, wPar, wTup, wLst, wLstC, wFldC, wSetFC, wMeth, wMake, wCall, wSl, wNoPart, wPart, wStar, wLenO, wTruO, wReprO, wBoolO, wCallN, wMakeN, wMethN, wFmt, wFS, wJs, wDNew, wDGet, wDPut, wBMl, wCallV, wCallE, gI20, gI2, gNeg, g1I, g2I, gNotN, gIsN, gIsB, D.isNon, sAdd1, sAdd2, sAdd3, sAdd4, sMul1, sMulT, sLen1, sLen2, sLen3, sInt1, sInt2, sTup1, sTup2, sLst1, sLst2, sSl1, sSl2, sSl3, sTru1, sTru2, sTru3, sTru4, sDvm, List.map, List.length_cons, List.length_nil, List.replicate, List.cons_append, List.nil_append, List.append_nil, List.getElem?_cons_zero, List.getElem?_cons_succ, List.set_cons_zero, List.set_cons_succ, DL.eq_int, DL.ne_int, eq_str, ne_str, Bool.not_true, Bool.not_false, decide_true, decide_false, true_and, and_true, if_true, if_false, Bool.false_eq_true, ex_some]
    refine ne3 ?_
    simp (decide := true) only [startD, endsD, wRet, wRetN, wAndV, wOrV, wNotV, wCB, wCons, wNil, wVar, wC, wChain, wOp, wUn, wIf, wIfE, wTv, wTru, wNot, wAnd, wOr, wSeq, wNext, wAsg, wDrop, dgN, dgT, dgCons, dgNil, dgSub, dgFldC, wPar, wTup, wLst, wLstC, wFldC, wSetFC, wMeth, wMake, wCall, wSl, wNoPart, wPart, wStar, wLenO, wTruO, wReprO, wBoolO, wCallN, wMakeN, wMethN, wFmt, wFS, wJs, wDNew, wDGet, wDPut, wBMl, wCallV, wCallE, gI20, gI2, gNeg, g1I, g2I, gNotN, gIsN, gIsB, D.isNon, sAdd1, sAdd2, sAdd3, sAdd4, sMul1, sMulT, sLen1, sLen2, sLen3, sInt1, sInt2, sTup1, sTup2, sLst1, sLst2, sSl1, sSl2, sSl3, sTru1, sTru2, sTru3, sTru4, sDvm, List.map, List.length_cons, List.length_nil, List.replicate, List.cons_append, List.nil_append, List.append_nil, List.getElem?_cons_zero, List.getElem?_cons_succ, List.set_cons_zero, List.set_cons_succ, DL.eq_int, DL.ne_int, eq_str, ne_str, Bool.not_true, Bool.not_false, decide_true, decide_false, true_and, and_true, if_true, if_false, Bool.false_eq_true, ex_some]
    refine in78 (b := false) (by decide +kernel) ?_
    simp (decide := true) only [startD, endsD, wRet, wRetN, wAndV, wOrV, wNotV, wCB, wCons, wNil, wVar, wC, wChain, wOp, wUn, wIf, wIfE, wTv, wTru, wNot, wAnd, wOr, wSeq, wNext, wAsg, wDrop, dgN, dgT, dgCons, dgNil, dgSub, dgFldC, wPar, wTup, wLst, wLstC, wFldC, wSetFC, wMeth, wMake, wCall, wSl, wNoPart, wPart, wStar, wLenO, wTruO, wReprO, wBoolO, wCallN, wMakeN, wMethN, wFmt, wFS, wJs, wDNew, wDGet, wDPut, wBMl, wCallV, wCallE, gI20, gI2, gNeg, g1I, g2I, gNotN, gIsN, gIsB, D.isNon, sAdd1, sAdd2, sAdd3, sAdd4, sMul1, sMulT, sLen1, sLen2, sLen3, sInt1, sInt2, sTup1, sTup2, sLst1, sLst2, sSl1, sSl2, sSl3, sTru1, sTru2, sTru3, sTru4, sDvm, List.map, List.length_cons, List.length_nil, List.replicate, List.cons_append, List.nil_append, List.append_nil, List.getElem?_cons_zero, List.getElem?_cons_succ, List.set_cons_zero, List.set_cons_succ, DL.eq_int, DL.ne_int, eq_str, ne_str, Bool.not_true, Bool.not_false, decide_true, decide_false, true_and, and_true, if_true, if_false, Bool.false_eq_true, ex_some]
    exact byE_at rfl (hd (by simp [Er.fs])) (nof _ (by simp)) rfl h
end GV

namespace GV
open PySem PySem.Spec PyProof.Rows L2 DL
variable [Tb]
/-! ### small data -/
structure Sm (d n : Nat) (p : PyData) : Prop where
  ls : p.leavesShort 60 = true
  sh : p.showable = true
  nd : p.hasDict = false
  dp : p.depth ≤ d
  bk : p.bulk ≤ n
structure SmA (d n : Nat) (ps : List PyData) : Prop where
  ls : PyData.leavesShortAll 60 ps = true
  sh : PyData.showableAll ps = true
  nd : PyData.hasDictAll ps = false
  dp : PyData.depthAll ps ≤ d
  bk : PyData.bulkAll ps ≤ n
theorem SmA.nil {d n : Nat} : SmA d n [] := ⟨by simp only [PyData.leavesShortAll], by simp only [PyData.showableAll], by simp only [PyData.hasDictAll], by simp [PyData.depthAll], by simp [PyData.bulkAll]⟩
theorem SmA.cons {d n m : Nat} {p : PyData} {ps : List PyData} (h : Sm d n p) (t : SmA d m ps) : SmA d (n + 1 + m) (p :: ps) :=
  ⟨by simp only [PyData.leavesShortAll, h.ls, t.ls, Bool.and_self], by simp only [PyData.showableAll, h.sh, t.sh, Bool.and_self], by simp only [PyData.hasDictAll, h.nd, t.nd, Bool.or_self], by simp only [PyData.depthAll]; exact Nat.max_le.mpr ⟨h.dp, t.dp⟩, by simp only [PyData.bulkAll]; have := h.bk; have := t.bk; omega⟩
theorem Sm.tup {d n : Nat} {ps : List PyData} (h : SmA d n ps) : Sm (d + 1) n (.tuple ps) := ⟨by simp only [PyData.leavesShort, h.ls], by simp only [PyData.showable, h.sh], by simp only [PyData.hasDict, h.nd], by simp only [PyData.depth]; have := h.dp; omega, by simp only [PyData.bulk]; exact h.bk⟩
theorem Sm.lst {d n : Nat} {ps : List PyData} (h : SmA d n ps) : Sm (d + 1) n (.list ps) := ⟨by simp only [PyData.leavesShort, h.ls], by simp only [PyData.showable, h.sh], by simp only [PyData.hasDict, h.nd], by simp only [PyData.depth]; have := h.dp; omega, by simp only [PyData.bulk]; exact h.bk⟩
theorem Sm.int {d n : Nat} {i : Int} (h : i.natAbs < 10 ^ 12) : Sm d n (.int i) := by
  refine ⟨?_, ?_, by simp only [PyData.hasDict], by simp [PyData.depth], by simp [PyData.bulk]⟩
  · have := PyData.shown_int_le h
    simp only [PyData.leavesShort, decide_eq_true_eq]
    exact Nat.le_trans this (by decide)
  · simp only [PyData.showable, decide_eq_true_eq]
    exact int_log h
theorem Sm.bl {d n : Nat} {b : Bool} : Sm d n (.bool b) := ⟨by simp only [PyData.leavesShort], by simp only [PyData.showable], by simp only [PyData.hasDict], by simp [PyData.depth], by simp [PyData.bulk]⟩
theorem Sm.non {d n : Nat} : Sm d n .none := ⟨by simp only [PyData.leavesShort], by simp only [PyData.showable], by simp only [PyData.hasDict], by simp [PyData.depth], by simp [PyData.bulk]⟩
theorem Sm.str {d n : Nat} {x : Str} (h : ∀ c ∈ x.cps.toList, c < 16 ^ 8) (hl : x.length ≤ n) : Sm d n (.str x) := by
  refine ⟨?_, by simp only [PyData.showable], by simp only [PyData.hasDict], by simp [PyData.depth], by simp only [PyData.bulk]; exact hl⟩
  simp only [PyData.leavesShort, List.all_eq_true, decide_eq_true_eq]
  exact h
theorem Sm.mono {d d' n n' : Nat} {p : PyData} (h : Sm d n p) (hd : d ≤ d') (hn : n ≤ n') : Sm d' n' p := ⟨h.ls, h.sh, h.nd, Nat.le_trans h.dp hd, Nat.le_trans h.bk hn⟩
theorem SmA.mono {d d' n n' : Nat} {p : List PyData} (h : SmA d n p) (hd : d ≤ d') (hn : n ≤ n') : SmA d' n' p := ⟨h.ls, h.sh, h.nd, Nat.le_trans h.dp hd, Nat.le_trans h.bk hn⟩
theorem SmA.ints {d n : Nat} : ∀ {l : List Int}, (∀ i ∈ l, i.natAbs < 10 ^ 12) → l.length ≤ n → SmA d n (l.map .int)
  | [], _, _ => .nil
  | i :: l, h, hl => by
    rw [List.length_cons] at hl
    exact SmA.mono (n := 0 + 1 + l.length) (SmA.cons (n := 0) (Sm.int (h i List.mem_cons_self)) (SmA.ints (fun j hj => h j (List.mem_cons_of_mem _ hj)) (Nat.le_refl _))) (Nat.le_refl _) (by omega)
theorem fitR_of {d n : Nat} {p : PyData} (h : Sm d n p) (hd : d ≤ 150) (hn : n ≤ 100000) : fitR p := by
  refine ⟨h.sh, h.nd, Nat.le_trans h.dp hd, ?_⟩
  have q := PyData.shown_le_bulk 60 (by decide) p h.ls
  have := h.bk
  have h2 : (60 + 2) * p.bulk ≤ 62 * 100000 := Nat.mul_le_mul (by omega) (by omega)
  rw [sizeLine_eq]
  omega
theorem okV_sm {v : D} (h : okV v) : ∃ p, v.py = some p ∧ Sm 20 1000 p ∧ SeqAt.shaped p = true := by
  obtain ⟨p, e, h1, h2, h3, h4, h5, h6⟩ := h
  exact ⟨p, e, ⟨h1, h2, h3, h4, h5⟩, h6⟩
theorem pys_ints : ∀ l : List Int, D.pys (l.map D.int) = some (l.map PyData.int)
  | [] => by simp only [List.map_nil, D.pys]
  | i :: l => by simp only [List.map_cons, D.pys, D.py, pys_ints l]
theorem py_ints (l : List Int) : (D.tup (l.map D.int)).py = some (.tuple (l.map PyData.int)) := by simp only [D.py, pys_ints]
/-! ### the characters of texts -/
def ChOk (x : Str) : Prop := ∀ c ∈ x.cps.toList, c < 16 ^ 8
theorem ChOk.app {x y : Str} (h : ChOk x) (g : ChOk y) : ChOk (x ++ y) := fun c hc => by
  have e : (x ++ y).cps.toList = x.cps.toList ++ y.cps.toList := by
    show (x.cps ++ y.cps).toList = _
    rw [Array.toList_append]
  rw [e] at hc
  exact (List.mem_append.mp hc).elim (h c) (g c)
theorem ChOk.of (s : String) : ChOk (Str.ofString s) := fun c hc => by
  rw [Str.ofString_eq_toList] at hc
  have hc : c ∈ s.toList.map Char.toNat := by simpa using hc
  obtain ⟨ch, _, rfl⟩ := List.mem_map.mp hc
  have h2 : ch.toNat < 0x110000 := by
    rcases ch.valid with h | ⟨_, h⟩
    · exact Nat.lt_trans h (by decide)
    · exact h
  exact Nat.lt_trans h2 (by decide)
theorem pot_ch (ph : Ph) : ChOk (potStr ph) := by
  unfold potStr
  exact ((((ChOk.of _).app (ChOk.of _)).app (ChOk.of _)).app (ChOk.of _)).app (ChOk.of _)
end GV

namespace GV
open PySem PySem.Spec PyProof.Rows L2 DL
variable [Tb]
theorem stt_last {past : List Ph} {ph : Ph} {st : Sto} {Kn : KD} : gIx (sttD past ph) (.int (-1)) st Kn ↔ Kn (phD ph) st := by
  unfold sttD
  rw [List.map_append]
  exact ix_lst atI_last
theorem lenO_at {K : PySem.W.Frag} {p a : Addr} {ph : Ph} {past : List Ph} {b : Bool} {st : Sto} {Kn : KD} {Kx : KX} {i : Nat} {env : DEnv} (hi : env[i]? = some (some (.ref p))) (l : st.lookup p = some (potC K a ph past b)) (hk : ph.ks.length ≤ 1000) (h : Kn (.int ph.ks.length) st) :
    wLenO (He.ga K "Pot") (sp_PotX_lenX K) (wCons (wVar i) wNil) env st Kn Kx := by
  have l' := l
  unfold potC at l
  simp only [startD, endsD, wRet, wRetN, wAndV, wOrV, wNotV, wCB, wCons, wNil, wVar, wC, wChain, wOp, wUn, wIf, wIfE, wTv, wTru, wNot, wAnd, wOr, wSeq, wNext, wAsg, wDrop, dgN, dgT, dgCons, dgNil, dgSub, dgFldC, wPar, wTup, wLst, wLstC, wFldC, wSetFC, wMeth, wMake, wCall, wSl, wNoPart, wPart, wStar, wCallN, wMakeN, wMethN, wFmt, wFS, wJs, wDNew, wDGet, wDPut, wBMl, wCallV, wCallE, gI20, gI2, gNeg, g1I, g2I, gNotN, gIsN, gIsB, D.isNon, sAdd1, sAdd2, sAdd3, sAdd4, sMul1, sMulT, sLen1, sLen2, sLen3, sInt1, sInt2, sTup1, sTup2, sLst1, sLst2, sSl1, sSl2, sSl3, sTru1, sTru2, sTru3, sTru4, sDvm, List.map, List.length_cons, List.length_nil, List.replicate, List.cons_append, List.nil_append, List.append_nil, List.getElem?_cons_zero, List.getElem?_cons_succ, List.set_cons_zero, List.set_cons_succ, DL.eq_int, DL.ne_int, eq_str, ne_str, Bool.not_true, Bool.not_false, decide_true, decide_false, true_and, and_true, if_true, if_false, Bool.false_eq_true, ex_some, wLenO, hi, l]
  exact ⟨p, a, ph, past, b, rfl, l', ⟨by omega, by omega⟩, h⟩
theorem boolO_at {K : PySem.W.Frag} {p a : Addr} {ph : Ph} {past : List Ph} {b : Bool} {st : Sto} {Kn : KD} {Kx : KX} {i : Nat} {env : DEnv} (hi : env[i]? = some (some (.ref p))) (l : st.lookup p = some (potC K a ph past b)) (hk : ph.ks.length ≤ 1000) (h : Kn (.bl (((ph.ks.length : Nat) : Int) != 0)) st) :
    wBoolO (He.ga K "Pot") (sp_PotX_lenX K) (wCons (wVar i) wNil) env st Kn Kx := by
  have l' := l
  unfold potC at l
  simp only [startD, endsD, wRet, wRetN, wAndV, wOrV, wNotV, wCB, wCons, wNil, wVar, wC, wChain, wOp, wUn, wIf, wIfE, wTv, wTru, wNot, wAnd, wOr, wSeq, wNext, wAsg, wDrop, dgN, dgT, dgCons, dgNil, dgSub, dgFldC, wPar, wTup, wLst, wLstC, wFldC, wSetFC, wMeth, wMake, wCall, wSl, wNoPart, wPart, wStar, wCallN, wMakeN, wMethN, wFmt, wFS, wJs, wDNew, wDGet, wDPut, wBMl, wCallV, wCallE, gI20, gI2, gNeg, g1I, g2I, gNotN, gIsN, gIsB, D.isNon, sAdd1, sAdd2, sAdd3, sAdd4, sMul1, sMulT, sLen1, sLen2, sLen3, sInt1, sInt2, sTup1, sTup2, sLst1, sLst2, sSl1, sSl2, sSl3, sTru1, sTru2, sTru3, sTru4, sDvm, List.map, List.length_cons, List.length_nil, List.replicate, List.cons_append, List.nil_append, List.append_nil, List.getElem?_cons_zero, List.getElem?_cons_succ, List.set_cons_zero, List.set_cons_succ, DL.eq_int, DL.ne_int, eq_str, ne_str, Bool.not_true, Bool.not_false, decide_true, decide_false, true_and, and_true, if_true, if_false, Bool.false_eq_true, ex_some, wBoolO, wReprO, hi]
  exact ⟨p, _, ⟨rfl, l⟩, p, a, ph, past, b, rfl, l', ⟨by omega, by omega⟩, h⟩
theorem reprO_at {K : PySem.W.Frag} {p a : Addr} {ph : Ph} {past : List Ph} {b : Bool} {st : Sto} {Kn : KD} {Kx : KX} {i : Nat} {env : DEnv} (hi : env[i]? = some (some (.ref p))) (l : st.lookup p = some (potC K a ph past b)) (h1 : ph.ks.length ≤ 100) (h2 : ph.g.natAbs < 10 ^ 12) (h : Kn (.str (potStr ph)) st) :
    wReprO (He.ga K "Pot") (sp_PotX_reprX K) (wCons (wVar i) wNil) env st Kn Kx := by
  have l' := l
  unfold potC at l
  simp only [startD, endsD, wRet, wRetN, wAndV, wOrV, wNotV, wCB, wCons, wNil, wVar, wC, wChain, wOp, wUn, wIf, wIfE, wTv, wTru, wNot, wAnd, wOr, wSeq, wNext, wAsg, wDrop, dgN, dgT, dgCons, dgNil, dgSub, dgFldC, wPar, wTup, wLst, wLstC, wFldC, wSetFC, wMeth, wMake, wCall, wSl, wNoPart, wPart, wStar, wCallN, wMakeN, wMethN, wFmt, wFS, wJs, wDNew, wDGet, wDPut, wBMl, wCallV, wCallE, gI20, gI2, gNeg, g1I, g2I, gNotN, gIsN, gIsB, D.isNon, sAdd1, sAdd2, sAdd3, sAdd4, sMul1, sMulT, sLen1, sLen2, sLen3, sInt1, sInt2, sTup1, sTup2, sLst1, sLst2, sSl1, sSl2, sSl3, sTru1, sTru2, sTru3, sTru4, sDvm, List.map, List.length_cons, List.length_nil, List.replicate, List.cons_append, List.nil_append, List.append_nil, List.getElem?_cons_zero, List.getElem?_cons_succ, List.set_cons_zero, List.set_cons_succ, DL.eq_int, DL.ne_int, eq_str, ne_str, Bool.not_true, Bool.not_false, decide_true, decide_false, true_and, and_true, if_true, if_false, Bool.false_eq_true, ex_some, wBoolO, wReprO, hi]
  exact ⟨p, _, ⟨rfl, l⟩, p, a, ph, past, b, rfl, l', ⟨h1, h2⟩, h⟩
theorem eqv_nil {ks : List Int} : PyData.eqv (.tuple (ks.map PyData.int)) (.tuple []) = ks.isEmpty := by
  cases ks with
  | nil => simp [PyData.eqv, PyData.eqvAll]
  | cons _ _ => simp [PyData.eqv, PyData.eqvAll]
theorem lay_ints : ∀ l : List Int, PyData.canLayAll0 (l.map PyData.int) = true
  | [] => by simp [PyData.canLayAll0]
  | i :: l => by simp [PyData.canLayAll0, PyData.canLay0, lay_ints l]
theorem dep_ints : ∀ l : List Int, PyData.depthAll (l.map PyData.int) = 0
  | [] => by simp [PyData.depthAll]
  | i :: l => by simp [PyData.depthAll, PyData.depth, dep_ints l]
theorem shaped_ints (l : List Int) : SeqAt.shaped (.tuple (l.map PyData.int)) = true := by
  unfold SeqAt.shaped
  simp [PyData.canLay0, PyData.depth, lay_ints, dep_ints]
theorem ne_nil {ks : List Int} {st : Sto} {Kn : KD} (h : Kn (.bl (!ks.isEmpty)) st) : gNe (.tup (ks.map D.int)) (.tup []) st Kn := by
  show gNeD (.tup (ks.map D.int)) (.tup []) st Kn
  unfold gNeD
  rw [pyS_py (py_ints ks), show pyS (.tup []) st = some (.tuple []) from rfl]
  dsimp only
  rw [eqv_nil]
  exact ⟨⟨shaped_ints ks, shaped_ints []⟩, h⟩
theorem ne0_empty (ks : List Int) : (((ks.length : Nat) : Int) != 0) = !ks.isEmpty := by
  cases ks with
  | nil => rfl
  | cons x l => simp; omega
theorem pure_law_shows {K : PySem.W.Frag} (T : TP K) : Pu_law_shows K := by
  rintro ds st Kn Kx - ⟨p, a, m, ph, past, past', rfl, P, h⟩
  have l := P.l
  have l' := l
  unfold potC at l'
  have O := P.ok.last
  have pl := P.ok.pl
  have kl := O.kl
  have g0 := O.g0
  have g1 : ph.g ≤ 60000000 := by have := O.g1; omega
  have c8 := P.mx.2.c8
  have s3 := P.mx.2.s3
  have al := O.al
  have gz : ph.g.natAbs < 10 ^ 12 := by omega
  have pz := pot_len (ph := ph) (by omega) gz
  simp only [startD, endsD, wRet, wRetN, wAndV, wOrV, wNotV, wCB, wCons, wNil, wVar, wC, wChain, wOp, wUn, wIf, wIfE, wTv, wTru, wNot, wAnd, wOr, wSeq, wNext, wAsg, wDrop, dgN, dgT, dgCons, dgNil, dgSub, dgFldC, wPar, wTup, wLst, wLstC, wFldC, wSetFC, wMeth, wMake, wCall, wSl, wNoPart, wPart, wStar, wCallN, wMakeN, wMethN, wFmt, wFS, wJs, wDNew, wDGet, wDPut, wBMl, wCallV, wCallE, gI20, gI2, gNeg, g1I, g2I, gNotN, gIsN, gIsB, D.isNon, sAdd1, sAdd2, sAdd3, sAdd4, sMul1, sMulT, sLen1, sLen2, sLen3, sInt1, sInt2, sTup1, sTup2, sLst1, sLst2, sSl1, sSl2, sSl3, sTru1, sTru2, sTru3, sTru4, sDvm, List.map, List.length_cons, List.length_nil, List.replicate, List.cons_append, List.nil_append, List.append_nil, List.getElem?_cons_zero, List.getElem?_cons_succ, List.set_cons_zero, List.set_cons_succ, DL.eq_int, DL.ne_int, eq_str, ne_str, Bool.not_true, Bool.not_false, decide_true, decide_false, true_and, and_true, if_true, if_false, Bool.false_eq_true, ex_some]
  rw [stt_last]
  unfold phD
  simp only [startD, endsD, wRet, wRetN, wAndV, wOrV, wNotV, wCB, wCons, wNil, wVar, wC, wChain, wOp, wUn, wIf, wIfE, wTv, wTru, wNot, wAnd, wOr, wSeq, wNext, wAsg, wDrop, dgN, dgT, dgCons, dgNil, dgSub, dgFldC, wPar, wTup, wLst, wLstC, wFldC, wSetFC, wMeth, wMake, wCall, wSl, wNoPart, wPart, wStar, wCallN, wMakeN, wMethN, wFmt, wFS, wJs, wDNew, wDGet, wDPut, wBMl, wCallV, wCallE, gI20, gI2, gNeg, g1I, g2I, gNotN, gIsN, gIsB, D.isNon, sAdd1, sAdd2, sAdd3, sAdd4, sMul1, sMulT, sLen1, sLen2, sLen3, sInt1, sInt2, sTup1, sTup2, sLst1, sLst2, sSl1, sSl2, sSl3, sTru1, sTru2, sTru3, sTru4, sDvm, List.map, List.length_cons, List.length_nil, List.replicate, List.cons_append, List.nil_append, List.append_nil, List.getElem?_cons_zero, List.getElem?_cons_succ, List.set_cons_zero, List.set_cons_succ, DL.eq_int, DL.ne_int, eq_str, ne_str, Bool.not_true, Bool.not_false, decide_true, decide_false, true_and, and_true, if_true, if_false, Bool.false_eq_true, ex_some, fldOf_ins l', pt_kinds, pt_given, pt_amounts, pt_busy]
  refine lenO_at (by rfl) l (by omega) ?_
  refine boolO_at (by rfl) l (by omega) ?_
  refine reprO_at (by rfl) l (by omega) gz ?_
  refine ⟨sl_small (by decide), ?_⟩
  rw [List.length_map]
  have a1 := int_len (i := ((ph.ks.length : Nat) : Int)) (by omega)
  have a2 := int_len gz
  simp only [str_len, c1_len, c2_len, c3_len]
  refine ⟨int_log (by omega), sl_mid (by omega), sl_mid (by omega), int_log gz, sl_mid (by omega), sl_mid (by omega), ?_⟩
  refine ⟨Nat.zero_le _, ne_nil ?_⟩
  refine ⟨sl_small (by decide), ?_⟩
  rw [ne0_empty]
  have e : (D.lst [.tup (ph.ks.map D.int), .int ph.g, .tup (ph.am.map D.int), .int ((ph.ks.length : Nat) : Int), .bl (!ph.ks.isEmpty), .str (potStr ph)]).py = some (.list [.tuple (ph.ks.map .int), .int ph.g, .tuple (ph.am.map .int), .int ((ph.ks.length : Nat) : Int), .bool (!ph.ks.isEmpty), .str (potStr ph)]) := by
    simp only [D.py, D.pys, pys_ints]
  have sm : Sm 2 _ (.list [.tuple (ph.ks.map .int), .int ph.g, .tuple (ph.am.map .int), .int ((ph.ks.length : Nat) : Int), .bool (!ph.ks.isEmpty), .str (potStr ph)]) :=
    Sm.lst (.cons ((Sm.tup (SmA.ints (d := 0) (n := 60) (fun i hi => by have := O.kr i hi; omega) (by omega)))) (.cons (Sm.int (n := 0) gz) (.cons (Sm.tup (SmA.ints (d := 0) (n := 3) (fun i hi => by have := O.ar i hi; omega) (by omega))) (.cons (Sm.int (n := 0) (by omega)) (.cons (Sm.bl (n := 0)) (.cons (Sm.str (n := 46) (pot_ch ph) pz) (SmA.nil (n := 0))))))))
  refine rep_of e (fitR_of sm (by decide) (by decide)) (rep_of e (fitR_of sm (by decide) (by decide)) ?_)
  simp only [startD, endsD, wRet, wRetN, wAndV, wOrV, wNotV, wCB, wCons, wNil, wVar, wC, wChain, wOp, wUn, wIf, wIfE, wTv, wTru, wNot, wAnd, wOr, wSeq, wNext, wAsg, wDrop, dgN, dgT, dgCons, dgNil, dgSub, dgFldC, wPar, wTup, wLst, wLstC, wFldC, wSetFC, wMeth, wMake, wCall, wSl, wNoPart, wPart, wStar, wCallN, wMakeN, wMethN, wFmt, wFS, wJs, wDNew, wDGet, wDPut, wBMl, wCallV, wCallE, gI20, gI2, gNeg, g1I, g2I, gNotN, gIsN, gIsB, D.isNon, sAdd1, sAdd2, sAdd3, sAdd4, sMul1, sMulT, sLen1, sLen2, sLen3, sInt1, sInt2, sTup1, sTup2, sLst1, sLst2, sSl1, sSl2, sSl3, sTru1, sTru2, sTru3, sTru4, sDvm, List.map, List.length_cons, List.length_nil, List.replicate, List.cons_append, List.nil_append, List.append_nil, List.getElem?_cons_zero, List.getElem?_cons_succ, List.set_cons_zero, List.set_cons_succ, DL.eq_int, DL.ne_int, eq_str, ne_str, Bool.not_true, Bool.not_false, decide_true, decide_false, true_and, and_true, if_true, if_false, Bool.false_eq_true, ex_some, str_beq, fldOf_ins l', pt_busy]
  exact h
end GV

namespace GV
open PySem PySem.Spec PyProof.Rows L2 DL
variable [Tb]
theorem sIx_some {n : Nat} {d i : Int} {k : Nat} (h0 : 0 ≤ i) (h1 : i ≤ n) : HT.sIx n k (some i) = i.toNat := by
  show (if i < 0 then (i + (n : Int)).toNat else min i.toNat n) = i.toNat
  rw [if_neg (by omega)]
  omega
theorem sIx_none {n k : Nat} : HT.sIx n k none = k := by unfold HT.sIx; rfl
theorem cut1 {α : Type} {xs : List α} {i : Int} (h0 : 0 ≤ i) (h1 : i ≤ xs.length) : DL.cutD xs none (some i) = xs.take i.toNat := by
  unfold DL.cutD
  rw [sIx_some (d := 0) h0 h1, sIx_none]; simp
theorem cut2 {α : Type} {xs : List α} {i j : Int} (h0 : 0 ≤ i) (h1 : i ≤ xs.length) (h2 : 0 ≤ j) (h3 : j ≤ xs.length) : DL.cutD xs (some i) (some j) = (xs.drop i.toNat).take (j.toNat - i.toNat) := by
  unfold DL.cutD
  rw [sIx_some (d := 0) h0 h1, sIx_some (d := 0) h2 h3]
theorem cut3 {α : Type} {xs : List α} {i : Int} (h0 : 0 ≤ i) (h1 : i ≤ xs.length) : DL.cutD xs (some i) none = xs.drop i.toNat := by
  unfold DL.cutD
  rw [sIx_some (d := 0) h0 h1, sIx_none]
  rw [List.take_of_length_le (by rw [List.length_drop]; exact Nat.le_refl _)]
theorem jn_eq {ks : List Int} {k i j : Int} (h0 : 0 ≤ i) (h1 : i < j) (h2 : j < ks.length) : jn ks k i j = ks.take i.toNat ++ [k] ++ (ks.drop (i.toNat + 1)).take (j.toNat - (i.toNat + 1)) ++ ks.drop (j.toNat + 1) := by
  unfold jn
  rw [cut1 h0 (by omega), cut2 (by omega) (by omega) (by omega) (by omega), cut3 (by omega) (by omega)]
  rw [show (i + 1).toNat = i.toNat + 1 by omega, show (j + 1).toNat = j.toNat + 1 by omega]
theorem jn_len {ks : List Int} {k i j : Int} (h0 : 0 ≤ i) (h1 : i < j) (h2 : j < ks.length) : (jn ks k i j).length + 1 = ks.length := by
  rw [jn_eq h0 h1 h2]
  simp only [List.length_append, List.length_take, List.length_drop, List.length_cons, List.length_nil]
  omega
theorem jn_mem {ks : List Int} {k i j x : Int} (h0 : 0 ≤ i) (h1 : i < j) (h2 : j < ks.length) (h : x ∈ jn ks k i j) : x = k ∨ x ∈ ks := by
  rw [jn_eq h0 h1 h2] at h
  simp only [List.mem_append, List.mem_singleton] at h
  rcases h with ((h | h) | h) | h
  · exact .inr (List.mem_of_mem_take h)
  · exact .inl h
  · exact .inr (List.mem_of_mem_drop (List.mem_of_mem_take h))
  · exact .inr (List.mem_of_mem_drop h)

/-! ### the states stay good -/
theorem bump_len (n : Int) : ∀ (l : List Int) (k : Nat), (bump k n l).length = l.length
  | [], _ => rfl
  | x :: l, k => by unfold bump; rw [List.length_cons, List.length_cons, bump_len n l]
theorem bump_rg (n : Int) {N : Int} : ∀ (l : List Int) (k : Nat), (∀ x ∈ l, 0 ≤ x ∧ x ≤ N) → ∀ x ∈ bump k n l, 0 ≤ x ∧ x ≤ N + 1
  | [], _, _, x, hx => by cases hx
  | y :: l, k, h, x, hx => by
    unfold bump at hx
    rcases List.mem_cons.mp hx with rfl | hx
    · have := h y List.mem_cons_self
      split <;> omega
    · exact bump_rg n l (k + 1) (fun z hz => h z (List.mem_cons_of_mem _ hz)) x hx
theorem bump_after {n : Int} : ∀ (l : List Int) (k : Nat), n < k → bump k n l = l
  | [], _, _ => rfl
  | x :: l, k, h => by
    unfold bump
    rw [bump_after l (k + 1) (by omega), if_neg (by omega)]
    simp
theorem bump_cut {n : Int} : ∀ (l : List Int) (k : Nat), (k : Int) ≤ n → n - k < l.length → bump k n l = l.take (n - k).toNat ++ [kat l (n - k) + 1] ++ l.drop ((n - k).toNat + 1)
  | [], k, _, h => by simp at h; omega
  | x :: l, k, h1, h2 => by
    unfold bump
    by_cases e : (k : Int) = n
    · rw [if_pos e, bump_after l (k + 1) (by omega), show (n - (k : Int)) = 0 by omega]
      rfl
    · rw [if_neg e, bump_cut l (k + 1) (by omega) (by rw [List.length_cons] at h2; omega)]
      rw [show (n - (k : Int)).toNat = (n - ((k + 1 : Nat) : Int)).toNat + 1 by omega]
      have ek : kat (x :: l) (n - (k : Int)) = kat l (n - ((k + 1 : Nat) : Int)) := by
        unfold kat
        rw [show (n - (k : Int)).toNat = (n - ((k + 1 : Nat) : Int)).toNat + 1 by omega]
        rfl
      rw [ek]
      simp
theorem st_get {m : Mx} (ok : MxOk m.c m.st m.tb) {n : Int} (h0 : 0 ≤ n) (h1 : n ≤ (m.st.length : Int) - 1) : m.st[n.toNat]? = some (m.st.getD n.toNat (0, 0)) ∧ okE m.c (m.st.getD n.toNat (0, 0)) := by
  have hn : n.toNat < m.st.length := by omega
  have e : m.st[n.toNat]? = some (m.st.getD n.toNat (0, 0)) := by rw [List.getD_eq_getElem?_getD, List.getElem?_eq_getElem hn]; rfl
  exact ⟨e, ok.so _ (List.mem_of_getElem? e)⟩
theorem putS_ok {m : Mx} (ok : MxOk m.c m.st m.tb) {N : Nat} {ph : Ph} (h : PhOk m N ph) {n : Int} (h0 : 0 ≤ n) (h1 : n ≤ (m.st.length : Int) - 1) : PhOk m (N + 1) (putS m ph n).2 ∧ 0 ≤ (putS m ph n).1 ∧ (putS m ph n).1 ≤ 1000000 := by
  obtain ⟨e, o1, o2, o3, o4⟩ := st_get ok h0 h1
  have g0 := h.g0
  have g1 := h.g1
  refine ⟨⟨?_, fun k hk => ?_, ?_, ?_, ?_, fun x hx => ?_⟩, o3, o4⟩
  · show (ph.ks ++ [_]).length ≤ N + 1
    rw [List.length_append, List.length_cons, List.length_nil]; have := h.kl; omega
  · rcases List.mem_append.mp (show k ∈ ph.ks ++ [_] from hk) with q | q
    · exact h.kr k q
    · rw [List.mem_singleton.mp q]; exact ⟨o1, o2⟩
  · show 0 ≤ ph.g + _; omega
  · show ph.g + _ ≤ ((N + 1 : Nat) : Int) * 1000000
    push_cast; omega
  · show (bump 0 n ph.am).length = _
    rw [bump_len]; exact h.al
  · have := bump_rg n ph.am 0 (N := N) h.ar x hx
    push_cast; omega
theorem met_ok {m : Mx} (ok : MxOk m.c m.st m.tb) {i j : Int} (hi : 0 ≤ i ∧ i < m.c) (hj : 0 ≤ j ∧ j < m.c) : okE m.c (metM m i j) := by
  obtain ⟨p, e1, e2, e3, e4⟩ := tab_get ok hi.1 hi.2 hj.1 hj.2
  unfold metM
  rw [← e3]; exact e4
theorem meetS_ok {m : Mx} (ok : MxOk m.c m.st m.tb) {N : Nat} {ph : Ph} (h : PhOk m N ph) {i j : Int} (h0 : 0 ≤ i) (h1 : i < j) (h2 : j < ph.ks.length) : PhOk m (N + 1) (meetS m ph i j).2 ∧ 0 ≤ (meetS m ph i j).1 ∧ (meetS m ph i j).1 ≤ 1000000 := by
  have k1 := h.kr _ (kat_mem h0 (by omega))
  have k2 := h.kr _ (kat_mem (by omega : 0 ≤ j) h2)
  obtain ⟨o1, o2, o3, o4⟩ := met_ok ok k1 k2
  have g0 := h.g0
  have g1 := h.g1
  have kl := h.kl
  refine ⟨⟨?_, fun k hk => ?_, ?_, ?_, h.al, fun x hx => ?_⟩, o3, o4⟩
  · show (jn ph.ks _ i j).length ≤ N + 1
    have := jn_len (k := (metM m (kat ph.ks i) (kat ph.ks j)).1) h0 h1 h2
    omega
  · rcases jn_mem h0 h1 h2 (show k ∈ jn ph.ks _ i j from hk) with q | q
    · rw [q]; exact ⟨o1, o2⟩
    · exact h.kr k q
  · show 0 ≤ ph.g + _; omega
  · show ph.g + _ ≤ ((N + 1 : Nat) : Int) * 1000000
    push_cast; omega
  · have := h.ar x hx
    push_cast; omega
theorem PotOk.more {m : Mx} {past : List Ph} {ph q : Ph} (h : PotOk m past ph) (hn : past.length ≠ 60) (hq : PhOk m (past.length + 1) q) : PotOk m (past ++ [ph]) q := by
  have pl := h.pl
  refine ⟨by rw [List.length_append, List.length_cons, List.length_nil]; omega, fun i r e => ?_⟩
  by_cases hi : i < (past ++ [ph]).length
  · rw [List.getElem?_append_left hi] at e
    exact h.all i r e
  · rw [List.getElem?_append_right (by omega)] at e
    have hl : (past ++ [ph]).length = past.length + 1 := by rw [List.length_append, List.length_cons, List.length_nil]
    have e0 : i - (past ++ [ph]).length = 0 := by
      have := (List.getElem?_eq_some_iff.mp e).1
      rw [List.length_cons, List.length_nil] at this
      omega
    rw [e0] at e
    have e1 : q = r := by simpa using e
    rw [← e1, show i = past.length + 1 by omega]
    exact hq
theorem PotOk.less {m : Mx} {past : List Ph} {q ph : Ph} (h : PotOk m (past ++ [q]) ph) : PotOk m past q :=
  ⟨by have := h.pl; rw [List.length_append] at this; omega, fun i r e => h.all i r (by rw [List.getElem?_append_left (List.getElem?_eq_some_iff.mp e).1]; exact e)⟩
/-- what a deed gives is small -/
def okR (r : D) : Prop := r = .non ∨ ∃ g : Int, r = .int g ∧ 0 ≤ g ∧ g ≤ 1000000
theorem inB_int {v : D} {lo hi : Int} (h : inB v lo hi = true) : ∃ i, v = .int i ∧ lo ≤ i ∧ i ≤ hi := by
  cases v with
  | int i => exact ⟨i, rfl, of_decide_eq_true h⟩
  | _ => cases h
theorem stepR_ok {m : Mx} (ok : MxOk m.c m.st m.tb) {past : List Ph} {ph : Ph} (h : PotOk m past ph) {d : Deed} {r : D} {q : Ph} {past' : List Ph} (e : stepR m past ph d = .ok (r, q, past')) : PotOk m past' q ∧ okR r := by
  cases d with
  | put v =>
    simp only [stepR, putR] at e
    split at e
    · rename_i g q' e1
      cases e
      split at e1
      · rename_i ei
        split at e1
        · cases e1
        · rename_i hn
          obtain ⟨i, rfl, i0, i1⟩ := inB_int ei
          have o := putS_ok ok h.last i0 i1
          have e2 : putS m ph i = (g, q) := Except.ok.inj e1
          rw [e2] at o
          exact ⟨h.more hn o.1, .inr ⟨g, rfl, o.2.1, o.2.2⟩⟩
      · cases e1
    · cases e
  | meet a b =>
    simp only [stepR, meetR] at e
    split at e
    · rename_i g q' e1
      cases e
      split at e1
      · rename_i ei
        split at e1
        · cases e1
        · rename_i hn
          obtain ⟨i, j, rfl, rfl, i0, i1, i2⟩ := isPl_int ei
          have o := meetS_ok ok h.last i0 i1 i2
          have e2 : meetS m ph i j = (g, q) := Except.ok.inj e1
          rw [e2] at o
          exact ⟨h.more hn o.1, .inr ⟨g, rfl, o.2.1, o.2.2⟩⟩
      · cases e1
    · cases e
  | undo =>
    simp only [stepR] at e
    rcases List.eq_nil_or_concat past with rfl | ⟨past2, ph2, rfl⟩
    · cases e
    · rw [List.concat_eq_append, List.getLast?_concat, List.dropLast_concat] at e
      cases e
      rw [List.concat_eq_append] at h
      exact ⟨h.less, .inl rfl⟩
end GV

namespace GV
open PySem PySem.Spec PyProof.Rows L2 DL
variable [Tb]
theorem stt_len {past : List Ph} {ph : Ph} {st : Sto} {Kn : KD} : gLen [sttD past ph] st Kn ↔ Kn (.int ((past.length + 1 : Nat) : Int)) st := by
  unfold sttD
  rw [sLen1, List.length_map, List.length_append, List.length_cons, List.length_nil]
theorem stt_add {past : List Ph} {ph q : Ph} {st : Sto} {Kn : KD} (hl : past.length ≤ 1000) (h : Kn (sttD (past ++ [ph]) q) st) : gAdd (sttD past ph) (.lst [phD q]) st Kn := by
  unfold sttD at h ⊢
  rw [sAdd3]
  refine ⟨by rw [List.length_map, List.length_append, List.length_cons, List.length_nil, List.length_cons, List.length_nil, sizeLine_eq]; omega, ?_⟩
  rw [List.map_append] at h
  exact h
theorem stt_cut {past : List Ph} {q ph : Ph} {st : Sto} {Kn : KD} (h : Kn (sttD past q) st) : gSl (sttD (past ++ [q]) ph) none (some (-1)) st Kn := by
  unfold sttD at h ⊢
  rw [sSl1, List.map_append, List.map_cons, List.map_nil, cut_last]
  exact h
theorem okV_py {v : D} (h : okV v) {st : Sto} : ∃ p, pyS v st = some p := by obtain ⟨p, e, _⟩ := h; exact ⟨p, pyS_py e⟩
theorem am_cut {am : List Int} {n : Int} (h0 : 0 ≤ n) (h1 : n < am.length) : (bump 0 n am).map D.int = DL.cutD (am.map D.int) none (some n) ++ [D.int (kat am n + 1)] ++ DL.cutD (am.map D.int) (some (n + 1)) none := by
  rw [bump_cut am 0 (by simpa using h0) (by simpa using h1), cut1 h0 (by rw [List.length_map]; omega), cut3 (by omega) (by rw [List.length_map]; omega)]
  rw [show (n + 1).toNat = n.toNat + 1 by omega, show n - ((0 : Nat) : Int) = n by simp]
  simp only [List.map_append, List.map_take, List.map_drop, List.map_cons, List.map_nil]
theorem pure_law_after {K : PySem.W.Frag} (T : TP K) : Pu_law_after K := by
  rintro ds st Kn Kx - ⟨m, past, ph, d, rfl, ok, P, od, h⟩
  have pl := P.pl
  have O := P.last
  have kl := O.kl
  have al := O.al
  have s1 := ok.s1
  have s3 := ok.s3
  simp only [startD, endsD, wRet, wRetN, wAndV, wOrV, wNotV, wCB, wCons, wNil, wVar, wC, wChain, wOp, wUn, wIf, wIfE, wTv, wTru, wNot, wAnd, wOr, wSeq, wNext, wAsg, wDrop, dgN, dgT, dgCons, dgNil, dgSub, dgFldC, wPar, wTup, wLst, wLstC, wFldC, wSetFC, wMeth, wMake, wCall, wSl, wNoPart, wPart, wStar, wCallN, wMakeN, wMethN, wFmt, wFS, wJs, wDNew, wDGet, wDPut, wBMl, wCallV, wCallE, gI20, gI2, gNeg, g1I, g2I, gNotN, gIsN, gIsB, D.isNon, sAdd1, sAdd2, sAdd3, sAdd4, sMul1, sMulT, sLen1, sLen2, sLen3, sInt1, sInt2, sTup1, sTup2, sLst1, sLst2, sSl1, sSl2, sSl3, sTru1, sTru2, sTru3, sTru4, sDvm, List.map, List.length_cons, List.length_nil, List.replicate, List.cons_append, List.nil_append, List.append_nil, List.getElem?_cons_zero, List.getElem?_cons_succ, List.set_cons_zero, List.set_cons_succ, DL.eq_int, DL.ne_int, eq_str, ne_str, Bool.not_true, Bool.not_false, decide_true, decide_false, true_and, and_true, if_true, if_false, Bool.false_eq_true, ex_some]
  rw [stt_last]
  unfold phD
  simp only [startD, endsD, wRet, wRetN, wAndV, wOrV, wNotV, wCB, wCons, wNil, wVar, wC, wChain, wOp, wUn, wIf, wIfE, wTv, wTru, wNot, wAnd, wOr, wSeq, wNext, wAsg, wDrop, dgN, dgT, dgCons, dgNil, dgSub, dgFldC, wPar, wTup, wLst, wLstC, wFldC, wSetFC, wMeth, wMake, wCall, wSl, wNoPart, wPart, wStar, wCallN, wMakeN, wMethN, wFmt, wFS, wJs, wDNew, wDGet, wDPut, wBMl, wCallV, wCallE, gI20, gI2, gNeg, g1I, g2I, gNotN, gIsN, gIsB, D.isNon, sAdd1, sAdd2, sAdd3, sAdd4, sMul1, sMulT, sLen1, sLen2, sLen3, sInt1, sInt2, sTup1, sTup2, sLst1, sLst2, sSl1, sSl2, sSl3, sTru1, sTru2, sTru3, sTru4, sDvm, List.map, List.length_cons, List.length_nil, List.replicate, List.cons_append, List.nil_append, List.append_nil, List.getElem?_cons_zero, List.getElem?_cons_succ, List.set_cons_zero, List.set_cons_succ, DL.eq_int, DL.ne_int, eq_str, ne_str, Bool.not_true, Bool.not_false, decide_true, decide_false, true_and, and_true, if_true, if_false, Bool.false_eq_true, ex_some]
  cases d with
  | undo =>
    unfold deedD
    have h := h st Grow.refl
    simp only [stepR] at h
    simp only [startD, endsD, wRet, wRetN, wAndV, wOrV, wNotV, wCB, wCons, wNil, wVar, wC, wChain, wOp, wUn, wIf, wIfE, wTv, wTru, wNot, wAnd, wOr, wSeq, wNext, wAsg, wDrop, dgN, dgT, dgCons, dgNil, dgSub, dgFldC, wPar, wTup, wLst, wLstC, wFldC, wSetFC, wMeth, wMake, wCall, wSl, wNoPart, wPart, wStar, wCallN, wMakeN, wMethN, wFmt, wFS, wJs, wDNew, wDGet, wDPut, wBMl, wCallV, wCallE, gI20, gI2, gNeg, g1I, g2I, gNotN, gIsN, gIsB, D.isNon, sAdd1, sAdd2, sAdd3, sAdd4, sMul1, sMulT, sLen1, sLen2, sLen3, sInt1, sInt2, sTup1, sTup2, sLst1, sLst2, sSl1, sSl2, sSl3, sTru1, sTru2, sTru3, sTru4, sDvm, List.map, List.length_cons, List.length_nil, List.replicate, List.cons_append, List.nil_append, List.append_nil, List.getElem?_cons_zero, List.getElem?_cons_succ, List.set_cons_zero, List.set_cons_succ, DL.eq_int, DL.ne_int, eq_str, ne_str, Bool.not_true, Bool.not_false, decide_true, decide_false, true_and, and_true, if_true, if_false, Bool.false_eq_true, ex_some, ix0, w_uu]
    rw [stt_len]
    rcases List.eq_nil_or_concat past with rfl | ⟨past2, ph2, rfl⟩
    · simp (decide := true) only [startD, endsD, wRet, wRetN, wAndV, wOrV, wNotV, wCB, wCons, wNil, wVar, wC, wChain, wOp, wUn, wIf, wIfE, wTv, wTru, wNot, wAnd, wOr, wSeq, wNext, wAsg, wDrop, dgN, dgT, dgCons, dgNil, dgSub, dgFldC, wPar, wTup, wLst, wLstC, wFldC, wSetFC, wMeth, wMake, wCall, wSl, wNoPart, wPart, wStar, wCallN, wMakeN, wMethN, wFmt, wFS, wJs, wDNew, wDGet, wDPut, wBMl, wCallV, wCallE, gI20, gI2, gNeg, g1I, g2I, gNotN, gIsN, gIsB, D.isNon, sAdd1, sAdd2, sAdd3, sAdd4, sMul1, sMulT, sLen1, sLen2, sLen3, sInt1, sInt2, sTup1, sTup2, sLst1, sLst2, sSl1, sSl2, sSl3, sTru1, sTru2, sTru3, sTru4, sDvm, List.map, List.length_cons, List.length_nil, List.replicate, List.cons_append, List.nil_append, List.append_nil, List.getElem?_cons_zero, List.getElem?_cons_succ, List.set_cons_zero, List.set_cons_succ, DL.eq_int, DL.ne_int, eq_str, ne_str, Bool.not_true, Bool.not_false, decide_true, decide_false, true_and, and_true, if_true, if_false, Bool.false_eq_true, ex_some]
      exact h
    · rw [List.concat_eq_append] at h ⊢
      rw [List.getLast?_concat, List.dropLast_concat] at h
      simp only [startD, endsD, wRet, wRetN, wAndV, wOrV, wNotV, wCB, wCons, wNil, wVar, wC, wChain, wOp, wUn, wIf, wIfE, wTv, wTru, wNot, wAnd, wOr, wSeq, wNext, wAsg, wDrop, dgN, dgT, dgCons, dgNil, dgSub, dgFldC, wPar, wTup, wLst, wLstC, wFldC, wSetFC, wMeth, wMake, wCall, wSl, wNoPart, wPart, wStar, wCallN, wMakeN, wMethN, wFmt, wFS, wJs, wDNew, wDGet, wDPut, wBMl, wCallV, wCallE, gI20, gI2, gNeg, g1I, g2I, gNotN, gIsN, gIsB, D.isNon, sAdd1, sAdd2, sAdd3, sAdd4, sMul1, sMulT, sLen1, sLen2, sLen3, sInt1, sInt2, sTup1, sTup2, sLst1, sLst2, sSl1, sSl2, sSl3, sTru1, sTru2, sTru3, sTru4, sDvm, List.map, List.length_cons, List.length_nil, List.replicate, List.cons_append, List.nil_append, List.append_nil, List.getElem?_cons_zero, List.getElem?_cons_succ, List.set_cons_zero, List.set_cons_succ, DL.eq_int, DL.ne_int, eq_str, ne_str, Bool.not_true, Bool.not_false, decide_true, decide_false, true_and, and_true, if_true, if_false, Bool.false_eq_true, ex_some]
      rw [decide_eq_true (show (1 : Int) < (((past2 ++ [ph2]).length + 1 : Nat) : Int) by rw [List.length_append, List.length_cons, List.length_nil]; omega)]
      dsimp only
      exact ⟨sl_small (by decide), stt_cut ⟨sl_small (by decide), h⟩⟩
  | put v =>
    unfold deedD
    have h := h st Grow.refl
    simp only [stepR, putR] at h
    simp only [startD, endsD, wRet, wRetN, wAndV, wOrV, wNotV, wCB, wCons, wNil, wVar, wC, wChain, wOp, wUn, wIf, wIfE, wTv, wTru, wNot, wAnd, wOr, wSeq, wNext, wAsg, wDrop, dgN, dgT, dgCons, dgNil, dgSub, dgFldC, wPar, wTup, wLst, wLstC, wFldC, wSetFC, wMeth, wMake, wCall, wSl, wNoPart, wPart, wStar, wCallN, wMakeN, wMethN, wFmt, wFS, wJs, wDNew, wDGet, wDPut, wBMl, wCallV, wCallE, gI20, gI2, gNeg, g1I, g2I, gNotN, gIsN, gIsB, D.isNon, sAdd1, sAdd2, sAdd3, sAdd4, sMul1, sMulT, sLen1, sLen2, sLen3, sInt1, sInt2, sTup1, sTup2, sLst1, sLst2, sSl1, sSl2, sSl3, sTru1, sTru2, sTru3, sTru4, sDvm, List.map, List.length_cons, List.length_nil, List.replicate, List.cons_append, List.nil_append, List.append_nil, List.getElem?_cons_zero, List.getElem?_cons_succ, List.set_cons_zero, List.set_cons_succ, DL.eq_int, DL.ne_int, eq_str, ne_str, Bool.not_true, Bool.not_false, decide_true, decide_false, true_and, and_true, if_true, if_false, Bool.false_eq_true, ex_some, ix0, ix1, w_pu, w_pp]
    unfold mixD
    rw [ix1]
    simp only [startD, endsD, wRet, wRetN, wAndV, wOrV, wNotV, wCB, wCons, wNil, wVar, wC, wChain, wOp, wUn, wIf, wIfE, wTv, wTru, wNot, wAnd, wOr, wSeq, wNext, wAsg, wDrop, dgN, dgT, dgCons, dgNil, dgSub, dgFldC, wPar, wTup, wLst, wLstC, wFldC, wSetFC, wMeth, wMake, wCall, wSl, wNoPart, wPart, wStar, wCallN, wMakeN, wMethN, wFmt, wFS, wJs, wDNew, wDGet, wDPut, wBMl, wCallV, wCallE, gI20, gI2, gNeg, g1I, g2I, gNotN, gIsN, gIsB, D.isNon, sAdd1, sAdd2, sAdd3, sAdd4, sMul1, sMulT, sLen1, sLen2, sLen3, sInt1, sInt2, sTup1, sTup2, sLst1, sLst2, sSl1, sSl2, sSl3, sTru1, sTru2, sTru3, sTru4, sDvm, List.map, List.length_cons, List.length_nil, List.replicate, List.cons_append, List.nil_append, List.append_nil, List.getElem?_cons_zero, List.getElem?_cons_succ, List.set_cons_zero, List.set_cons_succ, DL.eq_int, DL.ne_int, eq_str, ne_str, Bool.not_true, Bool.not_false, decide_true, decide_false, true_and, and_true, if_true, if_false, Bool.false_eq_true, ex_some]
    rw [List.length_map]
    refine ⟨v, _, _, rfl, od, ?_⟩
    cases e : inB v 0 ((m.st.length : Int) - 1) with
    | false =>
      rw [e] at h
      simp only [startD, endsD, wRet, wRetN, wAndV, wOrV, wNotV, wCB, wCons, wNil, wVar, wC, wChain, wOp, wUn, wIf, wIfE, wTv, wTru, wNot, wAnd, wOr, wSeq, wNext, wAsg, wDrop, dgN, dgT, dgCons, dgNil, dgSub, dgFldC, wPar, wTup, wLst, wLstC, wFldC, wSetFC, wMeth, wMake, wCall, wSl, wNoPart, wPart, wStar, wCallN, wMakeN, wMethN, wFmt, wFS, wJs, wDNew, wDGet, wDPut, wBMl, wCallV, wCallE, gI20, gI2, gNeg, g1I, g2I, gNotN, gIsN, gIsB, D.isNon, sAdd1, sAdd2, sAdd3, sAdd4, sMul1, sMulT, sLen1, sLen2, sLen3, sInt1, sInt2, sTup1, sTup2, sLst1, sLst2, sSl1, sSl2, sSl3, sTru1, sTru2, sTru3, sTru4, sDvm, List.map, List.length_cons, List.length_nil, List.replicate, List.cons_append, List.nil_append, List.append_nil, List.getElem?_cons_zero, List.getElem?_cons_succ, List.set_cons_zero, List.set_cons_succ, DL.eq_int, DL.ne_int, eq_str, ne_str, Bool.not_true, Bool.not_false, decide_true, decide_false, true_and, and_true, if_true, if_false, Bool.false_eq_true, ex_some]
      exact ⟨sl_small (by decide), sl_small (by decide), h⟩
    | true =>
      rw [e, if_pos rfl] at h
      obtain ⟨n, rfl, n0, n1⟩ := inB_int e
      obtain ⟨eg, o1, o2, o3, o4⟩ := st_get ok n0 n1
      simp only [startD, endsD, wRet, wRetN, wAndV, wOrV, wNotV, wCB, wCons, wNil, wVar, wC, wChain, wOp, wUn, wIf, wIfE, wTv, wTru, wNot, wAnd, wOr, wSeq, wNext, wAsg, wDrop, dgN, dgT, dgCons, dgNil, dgSub, dgFldC, wPar, wTup, wLst, wLstC, wFldC, wSetFC, wMeth, wMake, wCall, wSl, wNoPart, wPart, wStar, wCallN, wMakeN, wMethN, wFmt, wFS, wJs, wDNew, wDGet, wDPut, wBMl, wCallV, wCallE, gI20, gI2, gNeg, g1I, g2I, gNotN, gIsN, gIsB, D.isNon, sAdd1, sAdd2, sAdd3, sAdd4, sMul1, sMulT, sLen1, sLen2, sLen3, sInt1, sInt2, sTup1, sTup2, sLst1, sLst2, sSl1, sSl2, sSl3, sTru1, sTru2, sTru3, sTru4, sDvm, List.map, List.length_cons, List.length_nil, List.replicate, List.cons_append, List.nil_append, List.append_nil, List.getElem?_cons_zero, List.getElem?_cons_succ, List.set_cons_zero, List.set_cons_succ, DL.eq_int, DL.ne_int, eq_str, ne_str, Bool.not_true, Bool.not_false, decide_true, decide_false, true_and, and_true, if_true, if_false, Bool.false_eq_true, ex_some, ix0, ix1]
      refine ix_pD n0 eg ?_
      unfold pD
      simp only [startD, endsD, wRet, wRetN, wAndV, wOrV, wNotV, wCB, wCons, wNil, wVar, wC, wChain, wOp, wUn, wIf, wIfE, wTv, wTru, wNot, wAnd, wOr, wSeq, wNext, wAsg, wDrop, dgN, dgT, dgCons, dgNil, dgSub, dgFldC, wPar, wTup, wLst, wLstC, wFldC, wSetFC, wMeth, wMake, wCall, wSl, wNoPart, wPart, wStar, wCallN, wMakeN, wMethN, wFmt, wFS, wJs, wDNew, wDGet, wDPut, wBMl, wCallV, wCallE, gI20, gI2, gNeg, g1I, g2I, gNotN, gIsN, gIsB, D.isNon, sAdd1, sAdd2, sAdd3, sAdd4, sMul1, sMulT, sLen1, sLen2, sLen3, sInt1, sInt2, sTup1, sTup2, sLst1, sLst2, sSl1, sSl2, sSl3, sTru1, sTru2, sTru3, sTru4, sDvm, List.map, List.length_cons, List.length_nil, List.replicate, List.cons_append, List.nil_append, List.append_nil, List.getElem?_cons_zero, List.getElem?_cons_succ, List.set_cons_zero, List.set_cons_succ, DL.eq_int, DL.ne_int, eq_str, ne_str, Bool.not_true, Bool.not_false, decide_true, decide_false, true_and, and_true, if_true, if_false, Bool.false_eq_true, ex_some, ix1]
      refine ix_ints n0 (kat_get n0 (by omega)) ?_
      rw [sAdd1]
      have c1 := cutD_len (ph.am.map D.int) none (some n)
      have c2 := cutD_len (ph.am.map D.int) (some (n + 1)) none
      rw [List.length_map] at c1 c2
      refine ⟨sl_small (by decide), sl_small (by omega), sl_small (by rw [List.length_append, List.length_cons, List.length_nil]; omega), sl_small (by decide), sl_small (by rw [List.length_map]; omega), sl_small (by decide), ?_⟩
      rw [stt_len]
      simp only [startD, endsD, wRet, wRetN, wAndV, wOrV, wNotV, wCB, wCons, wNil, wVar, wC, wChain, wOp, wUn, wIf, wIfE, wTv, wTru, wNot, wAnd, wOr, wSeq, wNext, wAsg, wDrop, dgN, dgT, dgCons, dgNil, dgSub, dgFldC, wPar, wTup, wLst, wLstC, wFldC, wSetFC, wMeth, wMake, wCall, wSl, wNoPart, wPart, wStar, wCallN, wMakeN, wMethN, wFmt, wFS, wJs, wDNew, wDGet, wDPut, wBMl, wCallV, wCallE, gI20, gI2, gNeg, g1I, g2I, gNotN, gIsN, gIsB, D.isNon, sAdd1, sAdd2, sAdd3, sAdd4, sMul1, sMulT, sLen1, sLen2, sLen3, sInt1, sInt2, sTup1, sTup2, sLst1, sLst2, sSl1, sSl2, sSl3, sTru1, sTru2, sTru3, sTru4, sDvm, List.map, List.length_cons, List.length_nil, List.replicate, List.cons_append, List.nil_append, List.append_nil, List.getElem?_cons_zero, List.getElem?_cons_succ, List.set_cons_zero, List.set_cons_succ, DL.eq_int, DL.ne_int, eq_str, ne_str, Bool.not_true, Bool.not_false, decide_true, decide_false, true_and, and_true, if_true, if_false, Bool.false_eq_true, ex_some]
      by_cases e6 : past.length = 60
      · rw [if_pos e6] at h
        rw [decide_eq_true (by omega)]
        exact ⟨sl_small (by decide), sl_small (by decide), h⟩
      · rw [if_neg e6] at h
        rw [decide_eq_false (by omega)]
        have ep : D.tup [D.tup (ph.ks.map D.int ++ [D.int (m.st.getD n.toNat (0, 0)).1]), D.int (ph.g + (m.st.getD n.toNat (0, 0)).2), D.tup (DL.cutD (ph.am.map D.int) none (some n) ++ [D.int (kat ph.am n + 1)] ++ DL.cutD (ph.am.map D.int) (some (n + 1)) none)] = phD (putS m ph n).2 := by
          unfold phD putS
          rw [am_cut n0 (by omega), List.map_append]
          rfl
        simp only [startD, endsD, wRet, wRetN, wAndV, wOrV, wNotV, wCB, wCons, wNil, wVar, wC, wChain, wOp, wUn, wIf, wIfE, wTv, wTru, wNot, wAnd, wOr, wSeq, wNext, wAsg, wDrop, dgN, dgT, dgCons, dgNil, dgSub, dgFldC, wPar, wTup, wLst, wLstC, wFldC, wSetFC, wMeth, wMake, wCall, wSl, wNoPart, wPart, wStar, wCallN, wMakeN, wMethN, wFmt, wFS, wJs, wDNew, wDGet, wDPut, wBMl, wCallV, wCallE, gI20, gI2, gNeg, g1I, g2I, gNotN, gIsN, gIsB, D.isNon, sAdd1, sAdd2, sAdd3, sAdd4, sMul1, sMulT, sLen1, sLen2, sLen3, sInt1, sInt2, sTup1, sTup2, sLst1, sLst2, sSl1, sSl2, sSl3, sTru1, sTru2, sTru3, sTru4, sDvm, List.map, List.length_cons, List.length_nil, List.replicate, List.cons_append, List.nil_append, List.append_nil, List.getElem?_cons_zero, List.getElem?_cons_succ, List.set_cons_zero, List.set_cons_succ, DL.eq_int, DL.ne_int, eq_str, ne_str, Bool.not_true, Bool.not_false, decide_true, decide_false, true_and, and_true, if_true, if_false, Bool.false_eq_true, ex_some]
        rw [ep]
        exact ⟨sl_small (by decide), sl_small (by decide), stt_add (by omega) ⟨sl_small (by decide), h⟩⟩
  | meet a b =>
    unfold deedD
    simp only [stepR, meetR] at h
    simp only [startD, endsD, wRet, wRetN, wAndV, wOrV, wNotV, wCB, wCons, wNil, wVar, wC, wChain, wOp, wUn, wIf, wIfE, wTv, wTru, wNot, wAnd, wOr, wSeq, wNext, wAsg, wDrop, dgN, dgT, dgCons, dgNil, dgSub, dgFldC, wPar, wTup, wLst, wLstC, wFldC, wSetFC, wMeth, wMake, wCall, wSl, wNoPart, wPart, wStar, wCallN, wMakeN, wMethN, wFmt, wFS, wJs, wDNew, wDGet, wDPut, wBMl, wCallV, wCallE, gI20, gI2, gNeg, g1I, g2I, gNotN, gIsN, gIsB, D.isNon, sAdd1, sAdd2, sAdd3, sAdd4, sMul1, sMulT, sLen1, sLen2, sLen3, sInt1, sInt2, sTup1, sTup2, sLst1, sLst2, sSl1, sSl2, sSl3, sTru1, sTru2, sTru3, sTru4, sDvm, List.map, List.length_cons, List.length_nil, List.replicate, List.cons_append, List.nil_append, List.append_nil, List.getElem?_cons_zero, List.getElem?_cons_succ, List.set_cons_zero, List.set_cons_succ, DL.eq_int, DL.ne_int, eq_str, ne_str, Bool.not_true, Bool.not_false, decide_true, decide_false, true_and, and_true, if_true, if_false, Bool.false_eq_true, ex_some, ix0, ix1, ix2, w_mu, w_mp]
    rw [List.length_map]
    refine ⟨a, _, _, rfl, od.1, ?_⟩
    unfold isPl at h
    cases e : inB a 0 ((ph.ks.length : Int) - 1) with
    | false =>
      have h := h st Grow.refl
      rw [e] at h
      simp only [startD, endsD, wRet, wRetN, wAndV, wOrV, wNotV, wCB, wCons, wNil, wVar, wC, wChain, wOp, wUn, wIf, wIfE, wTv, wTru, wNot, wAnd, wOr, wSeq, wNext, wAsg, wDrop, dgN, dgT, dgCons, dgNil, dgSub, dgFldC, wPar, wTup, wLst, wLstC, wFldC, wSetFC, wMeth, wMake, wCall, wSl, wNoPart, wPart, wStar, wCallN, wMakeN, wMethN, wFmt, wFS, wJs, wDNew, wDGet, wDPut, wBMl, wCallV, wCallE, gI20, gI2, gNeg, g1I, g2I, gNotN, gIsN, gIsB, D.isNon, sAdd1, sAdd2, sAdd3, sAdd4, sMul1, sMulT, sLen1, sLen2, sLen3, sInt1, sInt2, sTup1, sTup2, sLst1, sLst2, sSl1, sSl2, sSl3, sTru1, sTru2, sTru3, sTru4, sDvm, List.map, List.length_cons, List.length_nil, List.replicate, List.cons_append, List.nil_append, List.append_nil, List.getElem?_cons_zero, List.getElem?_cons_succ, List.set_cons_zero, List.set_cons_succ, DL.eq_int, DL.ne_int, eq_str, ne_str, Bool.not_true, Bool.not_false, decide_true, decide_false, true_and, and_true, if_true, if_false, Bool.false_eq_true, ex_some]
      exact ⟨sl_small (by decide), sl_small (by decide), h⟩
    | true =>
      rw [e] at h
      obtain ⟨i, rfl, i0, i1⟩ := inB_int e
      simp only [startD, endsD, wRet, wRetN, wAndV, wOrV, wNotV, wCB, wCons, wNil, wVar, wC, wChain, wOp, wUn, wIf, wIfE, wTv, wTru, wNot, wAnd, wOr, wSeq, wNext, wAsg, wDrop, dgN, dgT, dgCons, dgNil, dgSub, dgFldC, wPar, wTup, wLst, wLstC, wFldC, wSetFC, wMeth, wMake, wCall, wSl, wNoPart, wPart, wStar, wCallN, wMakeN, wMethN, wFmt, wFS, wJs, wDNew, wDGet, wDPut, wBMl, wCallV, wCallE, gI20, gI2, gNeg, g1I, g2I, gNotN, gIsN, gIsB, D.isNon, sAdd1, sAdd2, sAdd3, sAdd4, sMul1, sMulT, sLen1, sLen2, sLen3, sInt1, sInt2, sTup1, sTup2, sLst1, sLst2, sSl1, sSl2, sSl3, sTru1, sTru2, sTru3, sTru4, sDvm, List.map, List.length_cons, List.length_nil, List.replicate, List.cons_append, List.nil_append, List.append_nil, List.getElem?_cons_zero, List.getElem?_cons_succ, List.set_cons_zero, List.set_cons_succ, DL.eq_int, DL.ne_int, eq_str, ne_str, Bool.not_true, Bool.not_false, decide_true, decide_false, true_and, and_true, if_true, if_false, Bool.false_eq_true, ex_some]
      refine ⟨b, _, _, rfl, od.2, ?_⟩
      simp only [Bool.true_and, intOf] at h
      cases e2 : inB b (i + 1) ((ph.ks.length : Int) - 1) with
      | false =>
        have h := h st Grow.refl
        rw [e2] at h
        simp only [startD, endsD, wRet, wRetN, wAndV, wOrV, wNotV, wCB, wCons, wNil, wVar, wC, wChain, wOp, wUn, wIf, wIfE, wTv, wTru, wNot, wAnd, wOr, wSeq, wNext, wAsg, wDrop, dgN, dgT, dgCons, dgNil, dgSub, dgFldC, wPar, wTup, wLst, wLstC, wFldC, wSetFC, wMeth, wMake, wCall, wSl, wNoPart, wPart, wStar, wCallN, wMakeN, wMethN, wFmt, wFS, wJs, wDNew, wDGet, wDPut, wBMl, wCallV, wCallE, gI20, gI2, gNeg, g1I, g2I, gNotN, gIsN, gIsB, D.isNon, sAdd1, sAdd2, sAdd3, sAdd4, sMul1, sMulT, sLen1, sLen2, sLen3, sInt1, sInt2, sTup1, sTup2, sLst1, sLst2, sSl1, sSl2, sSl3, sTru1, sTru2, sTru3, sTru4, sDvm, List.map, List.length_cons, List.length_nil, List.replicate, List.cons_append, List.nil_append, List.append_nil, List.getElem?_cons_zero, List.getElem?_cons_succ, List.set_cons_zero, List.set_cons_succ, DL.eq_int, DL.ne_int, eq_str, ne_str, Bool.not_true, Bool.not_false, decide_true, decide_false, true_and, and_true, if_true, if_false, Bool.false_eq_true, ex_some]
        exact ⟨sl_small (by decide), sl_small (by decide), h⟩
      | true =>
        rw [e2] at h
        obtain ⟨j, rfl, j0, j1⟩ := inB_int e2
        simp only [if_true, intOf] at h
        simp only [startD, endsD, wRet, wRetN, wAndV, wOrV, wNotV, wCB, wCons, wNil, wVar, wC, wChain, wOp, wUn, wIf, wIfE, wTv, wTru, wNot, wAnd, wOr, wSeq, wNext, wAsg, wDrop, dgN, dgT, dgCons, dgNil, dgSub, dgFldC, wPar, wTup, wLst, wLstC, wFldC, wSetFC, wMeth, wMake, wCall, wSl, wNoPart, wPart, wStar, wCallN, wMakeN, wMethN, wFmt, wFS, wJs, wDNew, wDGet, wDPut, wBMl, wCallV, wCallE, gI20, gI2, gNeg, g1I, g2I, gNotN, gIsN, gIsB, D.isNon, sAdd1, sAdd2, sAdd3, sAdd4, sMul1, sMulT, sLen1, sLen2, sLen3, sInt1, sInt2, sTup1, sTup2, sLst1, sLst2, sSl1, sSl2, sSl3, sTru1, sTru2, sTru3, sTru4, sDvm, List.map, List.length_cons, List.length_nil, List.replicate, List.cons_append, List.nil_append, List.append_nil, List.getElem?_cons_zero, List.getElem?_cons_succ, List.set_cons_zero, List.set_cons_succ, DL.eq_int, DL.ne_int, eq_str, ne_str, Bool.not_true, Bool.not_false, decide_true, decide_false, true_and, and_true, if_true, if_false, Bool.false_eq_true, ex_some]
        refine ⟨m, rfl, ok, fun dd st' nd en gr => ?_⟩
        have h := h st' gr
        refine ix_ints i0 (kat_get i0 (by omega)) ?_
        refine ix_ints (by omega) (kat_get (by omega) (by omega)) ?_
        have k1 := O.kr _ (kat_mem i0 (by omega))
        have k2 := O.kr _ (kat_mem (by omega : 0 ≤ j) (by omega))
        obtain ⟨tk, td, tl, tg⟩ := en
        refine ⟨sl_small (by decide), dd, tk, td, _, _, ⟨rfl, tl, rfl, tg _ _ k1.1 k1.2 k2.1 k2.2⟩, ?_⟩
        have ej : jn ph.ks (metM m (kat ph.ks i) (kat ph.ks j)).1 i j = jn ph.ks (metM m (kat ph.ks i) (kat ph.ks j)).1 i j := rfl
        unfold pD
        have c1 := cutD_len (ph.ks.map D.int) none (some i)
        have c2 := cutD_len (ph.ks.map D.int) (some (i + 1)) (some j)
        have c3 := cutD_len (ph.ks.map D.int) (some (j + 1)) none
        rw [List.length_map] at c1 c2 c3
        simp only [startD, endsD, wRet, wRetN, wAndV, wOrV, wNotV, wCB, wCons, wNil, wVar, wC, wChain, wOp, wUn, wIf, wIfE, wTv, wTru, wNot, wAnd, wOr, wSeq, wNext, wAsg, wDrop, dgN, dgT, dgCons, dgNil, dgSub, dgFldC, wPar, wTup, wLst, wLstC, wFldC, wSetFC, wMeth, wMake, wCall, wSl, wNoPart, wPart, wStar, wCallN, wMakeN, wMethN, wFmt, wFS, wJs, wDNew, wDGet, wDPut, wBMl, wCallV, wCallE, gI20, gI2, gNeg, g1I, g2I, gNotN, gIsN, gIsB, D.isNon, sAdd1, sAdd2, sAdd3, sAdd4, sMul1, sMulT, sLen1, sLen2, sLen3, sInt1, sInt2, sTup1, sTup2, sLst1, sLst2, sSl1, sSl2, sSl3, sTru1, sTru2, sTru3, sTru4, sDvm, List.map, List.length_cons, List.length_nil, List.replicate, List.cons_append, List.nil_append, List.append_nil, List.getElem?_cons_zero, List.getElem?_cons_succ, List.set_cons_zero, List.set_cons_succ, DL.eq_int, DL.ne_int, eq_str, ne_str, Bool.not_true, Bool.not_false, decide_true, decide_false, true_and, and_true, if_true, if_false, Bool.false_eq_true, ex_some]
        refine ⟨sl_small (by decide), sl_small (by omega), sl_small (by rw [List.length_append, List.length_cons, List.length_nil]; omega), sl_small (by rw [List.length_append, List.length_append, List.length_cons, List.length_nil]; omega), sl_small (by decide), ?_⟩
        rw [stt_len]
        simp only [startD, endsD, wRet, wRetN, wAndV, wOrV, wNotV, wCB, wCons, wNil, wVar, wC, wChain, wOp, wUn, wIf, wIfE, wTv, wTru, wNot, wAnd, wOr, wSeq, wNext, wAsg, wDrop, dgN, dgT, dgCons, dgNil, dgSub, dgFldC, wPar, wTup, wLst, wLstC, wFldC, wSetFC, wMeth, wMake, wCall, wSl, wNoPart, wPart, wStar, wCallN, wMakeN, wMethN, wFmt, wFS, wJs, wDNew, wDGet, wDPut, wBMl, wCallV, wCallE, gI20, gI2, gNeg, g1I, g2I, gNotN, gIsN, gIsB, D.isNon, sAdd1, sAdd2, sAdd3, sAdd4, sMul1, sMulT, sLen1, sLen2, sLen3, sInt1, sInt2, sTup1, sTup2, sLst1, sLst2, sSl1, sSl2, sSl3, sTru1, sTru2, sTru3, sTru4, sDvm, List.map, List.length_cons, List.length_nil, List.replicate, List.cons_append, List.nil_append, List.append_nil, List.getElem?_cons_zero, List.getElem?_cons_succ, List.set_cons_zero, List.set_cons_succ, DL.eq_int, DL.ne_int, eq_str, ne_str, Bool.not_true, Bool.not_false, decide_true, decide_false, true_and, and_true, if_true, if_false, Bool.false_eq_true, ex_some]
        by_cases e6 : past.length = 60
        · rw [if_pos e6] at h
          rw [decide_eq_true (by omega)]
          exact ⟨sl_small (by decide), sl_small (by decide), h⟩
        · rw [if_neg e6] at h
          rw [decide_eq_false (by omega)]
          have ep : D.tup [D.tup (DL.cutD (ph.ks.map D.int) none (some i) ++ [D.int (metM m (kat ph.ks i) (kat ph.ks j)).1] ++ DL.cutD (ph.ks.map D.int) (some (i + 1)) (some j) ++ DL.cutD (ph.ks.map D.int) (some (j + 1)) none), D.int (ph.g + (metM m (kat ph.ks i) (kat ph.ks j)).2), D.tup (ph.am.map D.int)] = phD (meetS m ph i j).2 := by
            unfold phD meetS
            rw [jn_map]
          simp only [startD, endsD, wRet, wRetN, wAndV, wOrV, wNotV, wCB, wCons, wNil, wVar, wC, wChain, wOp, wUn, wIf, wIfE, wTv, wTru, wNot, wAnd, wOr, wSeq, wNext, wAsg, wDrop, dgN, dgT, dgCons, dgNil, dgSub, dgFldC, wPar, wTup, wLst, wLstC, wFldC, wSetFC, wMeth, wMake, wCall, wSl, wNoPart, wPart, wStar, wCallN, wMakeN, wMethN, wFmt, wFS, wJs, wDNew, wDGet, wDPut, wBMl, wCallV, wCallE, gI20, gI2, gNeg, g1I, g2I, gNotN, gIsN, gIsB, D.isNon, sAdd1, sAdd2, sAdd3, sAdd4, sMul1, sMulT, sLen1, sLen2, sLen3, sInt1, sInt2, sTup1, sTup2, sLst1, sLst2, sSl1, sSl2, sSl3, sTru1, sTru2, sTru3, sTru4, sDvm, List.map, List.length_cons, List.length_nil, List.replicate, List.cons_append, List.nil_append, List.append_nil, List.getElem?_cons_zero, List.getElem?_cons_succ, List.set_cons_zero, List.set_cons_succ, DL.eq_int, DL.ne_int, eq_str, ne_str, Bool.not_true, Bool.not_false, decide_true, decide_false, true_and, and_true, if_true, if_false, Bool.false_eq_true, ex_some]
          rw [ep]
          exact ⟨sl_small (by decide), sl_small (by decide), stt_add (by omega) ⟨sl_small (by decide), h⟩⟩
end GV

namespace GV
open PySem PySem.Spec PyProof.Rows L2 DL
variable [Tb]
mutual
theorem py_px : ∀ (d : D) (p : PyData), d.py = some p → d.px = true
  | .non, _, _ => by simp only [D.px]
  | .bl _, _, _ => by simp only [D.px]
  | .int _, _, _ => by simp only [D.px]
  | .str _, _, _ => by simp only [D.px]
  | .ty _, _, e => by simp only [D.py] at e; cases e
  | .ref _, _, e => by simp only [D.py] at e; cases e
  | .emp, _, e => by simp only [D.py] at e; cases e
  | .exc _ _ _ _ _, _, e => by simp only [D.py] at e; cases e
  | .tup ds, _, e => by
    simp only [D.py] at e
    split at e
    · rename_i l el
      simp only [D.px]
      exact pys_px ds l el
    · cases e
  | .lst ds, _, e => by
    simp only [D.py] at e
    split at e
    · rename_i l el
      simp only [D.px]
      exact pys_px ds l el
    · cases e
theorem pys_px : ∀ (ds : List D) (l : List PyData), D.pys ds = some l → D.pxs ds = true
  | [], _, _ => by simp only [D.pxs]
  | d :: ds, _, e => by
    simp only [D.pys] at e
    split at e
    · rename_i a b ea eb
      simp only [D.pxs, py_px d a ea, pys_px ds b eb, Bool.and_self]
    · cases e
end
theorem okV_px {v : D} (h : okV v) : v.px = true := by obtain ⟨p, e, _⟩ := h; exact py_px v p e
theorem deed_px {d : Deed} (h : okDeed d) : (deedD d).px = true := by
  cases d with
  | put v => simp only [deedD, D.px, D.pxs, okV_px h, Bool.and_self]
  | meet a b => simp only [deedD, D.px, D.pxs, okV_px h.1, okV_px h.2, Bool.and_self]
  | undo => simp only [deedD, D.px, D.pxs, Bool.and_self]
/-- errors whose kept value is plain and small -/
def okEr (e : Er) : Prop := ∃ p, e.kept.py = some p ∧ Sm 20 1000 p
theorem sm_word (e : Er) : Sm 20 20 (.str e.word) := by
  cases e <;> exact Sm.str (ChOk.of _) (by simp only [Er.word]; decide +kernel)
theorem er_py {e : Er} (h : okEr e) : ∃ p, (erD e).py = some p ∧ fitR p := by
  obtain ⟨p, ep, sm⟩ := h
  refine ⟨.tuple [.str e.word, p], by unfold erD; simp only [D.py, D.pys, ep], ?_⟩
  exact fitR_of (Sm.tup (.cons (sm_word e) (.cons sm (SmA.nil (n := 0))))) (by decide) (by decide)
theorem gave_py {r : D} (h : okR r) : ∃ p, (D.tup [.str "gave", r]).py = some p ∧ fitR p := by
  have w : Sm 20 20 (.str "gave") := Sm.str (ChOk.of _) (by decide +kernel)
  rcases h with rfl | ⟨g, rfl, g0, g1⟩
  · exact ⟨.tuple [.str "gave", .none], rfl, fitR_of (Sm.tup (.cons w (.cons (Sm.non (n := 0)) (SmA.nil (n := 0))))) (by decide) (by decide)⟩
  · exact ⟨.tuple [.str "gave", .int g], rfl, fitR_of (Sm.tup (.cons w (.cons (Sm.int (n := 0) (by omega)) (SmA.nil (n := 0))))) (by decide) (by decide)⟩
theorem stepR_er {m : Mx} {past : List Ph} {ph : Ph} {d : Deed} {e : Er} (od : okDeed d) (h : stepR m past ph d = .error e) : okEr e := by
  cases d with
  | put v =>
    simp only [stepR, putR] at h
    split at h
    · cases h
    · rename_i e1
      cases h
      split at e1
      · split at e1
        · cases e1; exact ⟨_, rfl, Sm.int (by decide)⟩
        · cases e1
      · cases e1
        obtain ⟨p, ep, sm, _⟩ := okV_sm od
        exact ⟨p, ep, sm⟩
  | meet a b =>
    simp only [stepR, meetR] at h
    split at h
    · cases h
    · rename_i e1
      cases h
      split at e1
      · split at e1
        · cases e1; exact ⟨_, rfl, Sm.int (by decide)⟩
        · cases e1
      · cases e1; exact ⟨_, rfl, Sm.non⟩
  | undo =>
    simp only [stepR] at h
    split at h
    · cases h
    · cases h; exact ⟨_, rfl, Sm.str (ChOk.of _) (by decide +kernel)⟩
theorem okV_small {i : Int} (h0 : -1000 ≤ i) (h1 : i ≤ 1000) : okV (.int i) := okV_int i (by omega)
/-- what a law's pot is, beside its bin -/
structure Here (K : PySem.W.Frag) (st : Sto) (b p a : Addr) (m : Mx) (ph : Ph) (past : List Ph) : Prop where
  bn : binAt st b
  P : PotAt K st p a m ph past false
  pb : p ≠ b
  ab : a ≠ b
  ap : a ≠ p
theorem Here.kp {K : PySem.W.Frag} {st st' : Sto} {b p a : Addr} {m : Mx} {ph : Ph} {past : List Ph} (h : Here K st b p a m ph past) (k : Kp b st st') : Here K st' b p a m ph past :=
  ⟨k.1, ⟨k.2 p _ h.pb h.P.l, ⟨k.2 a _ h.ab h.P.mx.1, h.P.mx.2⟩, h.P.ok⟩, h.pb, h.ab, h.ap⟩
theorem Here.grow {K : PySem.W.Frag} {st st' : Sto} {b p a : Addr} {m : Mx} {ph : Ph} {past : List Ph} (h : Here K st b p a m ph past) (g : Grow st st') : Here K st' b p a m ph past := h.kp (kp_grow g h.bn)
theorem Here.put {K : PySem.W.Frag} {st : Sto} {b p a : Addr} {m : Mx} {ph q : Ph} {past past' : List Ph} (h : Here K st b p a m ph past) (ok : PotOk m past' q) : Here K (st.put p (potC K a q past' false)) b p a m q past' := by
  obtain ⟨x, y, z, e⟩ := h.bn
  exact ⟨⟨x, y, z, by rw [put_other (Ne.symm h.pb)]; exact e⟩, ⟨put_lookup h.P.l, ⟨by rw [put_other h.ap]; exact h.P.mx.1, h.P.mx.2⟩, ok⟩, h.pb, h.ab, h.ap⟩
end GV

namespace GV
open PySem PySem.Spec PyProof.Rows L2 DL
variable [Tb]
theorem pure_law_deed {K : PySem.W.Frag} (T : TP K) : Pu_law_deed K := by
  rintro ds st Kn Kx - ⟨b, m, past, ph, rfl, bn, ok, P, h⟩
  have pl := P.pl
  have kl := P.last.kl
  have s1 := ok.s1
  have s3 := ok.s3
  simp only [startD, endsD, wRet, wRetN, wAndV, wOrV, wNotV, wCB, wCons, wNil, wVar, wC, wChain, wOp, wUn, wIf, wIfE, wTv, wTru, wNot, wAnd, wOr, wSeq, wNext, wAsg, wDrop, dgN, dgT, dgCons, dgNil, dgSub, dgFldC, wPar, wTup, wLst, wLstC, wFldC, wSetFC, wMeth, wMake, wCall, wSl, wNoPart, wPart, wStar, wCallN, wMakeN, wMethN, wFmt, wFS, wJs, wDNew, wDGet, wDPut, wBMl, wCallV, wCallE, gI20, gI2, gNeg, g1I, g2I, gNotN, gIsN, gIsB, D.isNon, sAdd1, sAdd2, sAdd3, sAdd4, sMul1, sMulT, sLen1, sLen2, sLen3, sInt1, sInt2, sTup1, sTup2, sLst1, sLst2, sSl1, sSl2, sSl3, sTru1, sTru2, sTru3, sTru4, sDvm, List.map, List.length_cons, List.length_nil, List.replicate, List.cons_append, List.nil_append, List.append_nil, List.getElem?_cons_zero, List.getElem?_cons_succ, List.set_cons_zero, List.set_cons_succ, DL.eq_int, DL.ne_int, eq_str, ne_str, Bool.not_true, Bool.not_false, decide_true, decide_false, true_and, and_true, if_true, if_false, Bool.false_eq_true, ex_some]
  rw [stt_last]
  unfold phD
  simp only [startD, endsD, wRet, wRetN, wAndV, wOrV, wNotV, wCB, wCons, wNil, wVar, wC, wChain, wOp, wUn, wIf, wIfE, wTv, wTru, wNot, wAnd, wOr, wSeq, wNext, wAsg, wDrop, dgN, dgT, dgCons, dgNil, dgSub, dgFldC, wPar, wTup, wLst, wLstC, wFldC, wSetFC, wMeth, wMake, wCall, wSl, wNoPart, wPart, wStar, wCallN, wMakeN, wMethN, wFmt, wFS, wJs, wDNew, wDGet, wDPut, wBMl, wCallV, wCallE, gI20, gI2, gNeg, g1I, g2I, gNotN, gIsN, gIsB, D.isNon, sAdd1, sAdd2, sAdd3, sAdd4, sMul1, sMulT, sLen1, sLen2, sLen3, sInt1, sInt2, sTup1, sTup2, sLst1, sLst2, sSl1, sSl2, sSl3, sTru1, sTru2, sTru3, sTru4, sDvm, List.map, List.length_cons, List.length_nil, List.replicate, List.cons_append, List.nil_append, List.append_nil, List.getElem?_cons_zero, List.getElem?_cons_succ, List.set_cons_zero, List.set_cons_succ, DL.eq_int, DL.ne_int, eq_str, ne_str, Bool.not_true, Bool.not_false, decide_true, decide_false, true_and, and_true, if_true, if_false, Bool.false_eq_true, ex_some, ix0]
  rw [List.length_map]
  refine nip_at bn (by decide) (by decide) fun w st1 w0 w1 k1 => ?_
  have putE : ∀ st1, Kp b st st1 → sp_law_nip K [.ref b, .int 9] st1 (fun d st' => gEq d (.int 0) st' fun d st' => gInt [d] st' fun y st2 => gAdd (.int (m.st.length : Nat)) y st2 fun d st1 => sp_law_nip K [.ref b, d] st1 (fun d st2 => 0 + 1 + 1 ≤ sizeLine ∧ Kn (.tup [.str "put", d]) st2) fun x s => Kx x s) fun x s => Kx x s := fun st1 k1 => by
    refine nip_at k1.1 (by decide) (by decide) fun u st2 u0 u1 k2 => ?_
    simp only [startD, endsD, wRet, wRetN, wAndV, wOrV, wNotV, wCB, wCons, wNil, wVar, wC, wChain, wOp, wUn, wIf, wIfE, wTv, wTru, wNot, wAnd, wOr, wSeq, wNext, wAsg, wDrop, dgN, dgT, dgCons, dgNil, dgSub, dgFldC, wPar, wTup, wLst, wLstC, wFldC, wSetFC, wMeth, wMake, wCall, wSl, wNoPart, wPart, wStar, wCallN, wMakeN, wMethN, wFmt, wFS, wJs, wDNew, wDGet, wDPut, wBMl, wCallV, wCallE, gI20, gI2, gNeg, g1I, g2I, gNotN, gIsN, gIsB, D.isNon, sAdd1, sAdd2, sAdd3, sAdd4, sMul1, sMulT, sLen1, sLen2, sLen3, sInt1, sInt2, sTup1, sTup2, sLst1, sLst2, sSl1, sSl2, sSl3, sTru1, sTru2, sTru3, sTru4, sDvm, List.map, List.length_cons, List.length_nil, List.replicate, List.cons_append, List.nil_append, List.append_nil, List.getElem?_cons_zero, List.getElem?_cons_succ, List.set_cons_zero, List.set_cons_succ, DL.eq_int, DL.ne_int, eq_str, ne_str, Bool.not_true, Bool.not_false, decide_true, decide_false, true_and, and_true, if_true, if_false, Bool.false_eq_true, ex_some]
    refine nip_at k2.1 (by split <;> omega) (by split <;> omega) fun v st3 v0 v1 k3 => ?_
    refine ⟨sl_small (by decide), h (.put (.int v)) st3 (okV_small (by omega) (by split at v1 <;> omega)) ((k1.trans k2).trans k3)⟩
  have put1 : ∀ st1, Kp b st st1 → gIx (mixD m) (.int 1) st1 fun d st1 => gLen [d] st1 fun x st1 => sp_law_nip K [.ref b, .int 9] st1 (fun d st' => gEq d (.int 0) st' fun d st' => gInt [d] st' fun y st2 => gAdd x y st2 fun d st1 => sp_law_nip K [.ref b, d] st1 (fun d st2 => 0 + 1 + 1 ≤ sizeLine ∧ Kn (.tup [.str "put", d]) st2) fun x s => Kx x s) fun x s => Kx x s := fun st1 k1 => by
    unfold mixD
    rw [ix1]
    simp only [startD, endsD, wRet, wRetN, wAndV, wOrV, wNotV, wCB, wCons, wNil, wVar, wC, wChain, wOp, wUn, wIf, wIfE, wTv, wTru, wNot, wAnd, wOr, wSeq, wNext, wAsg, wDrop, dgN, dgT, dgCons, dgNil, dgSub, dgFldC, wPar, wTup, wLst, wLstC, wFldC, wSetFC, wMeth, wMake, wCall, wSl, wNoPart, wPart, wStar, wCallN, wMakeN, wMethN, wFmt, wFS, wJs, wDNew, wDGet, wDPut, wBMl, wCallV, wCallE, gI20, gI2, gNeg, g1I, g2I, gNotN, gIsN, gIsB, D.isNon, sAdd1, sAdd2, sAdd3, sAdd4, sMul1, sMulT, sLen1, sLen2, sLen3, sInt1, sInt2, sTup1, sTup2, sLst1, sLst2, sSl1, sSl2, sSl3, sTru1, sTru2, sTru3, sTru4, sDvm, List.map, List.length_cons, List.length_nil, List.replicate, List.cons_append, List.nil_append, List.append_nil, List.getElem?_cons_zero, List.getElem?_cons_succ, List.set_cons_zero, List.set_cons_succ, DL.eq_int, DL.ne_int, eq_str, ne_str, Bool.not_true, Bool.not_false, decide_true, decide_false, true_and, and_true, if_true, if_false, Bool.false_eq_true, ex_some]
    rw [List.length_map]
    exact putE st1 k1
  simp only [startD, endsD, wRet, wRetN, wAndV, wOrV, wNotV, wCB, wCons, wNil, wVar, wC, wChain, wOp, wUn, wIf, wIfE, wTv, wTru, wNot, wAnd, wOr, wSeq, wNext, wAsg, wDrop, dgN, dgT, dgCons, dgNil, dgSub, dgFldC, wPar, wTup, wLst, wLstC, wFldC, wSetFC, wMeth, wMake, wCall, wSl, wNoPart, wPart, wStar, wCallN, wMakeN, wMethN, wFmt, wFS, wJs, wDNew, wDGet, wDPut, wBMl, wCallV, wCallE, gI20, gI2, gNeg, g1I, g2I, gNotN, gIsN, gIsB, D.isNon, sAdd1, sAdd2, sAdd3, sAdd4, sMul1, sMulT, sLen1, sLen2, sLen3, sInt1, sInt2, sTup1, sTup2, sLst1, sLst2, sSl1, sSl2, sSl3, sTru1, sTru2, sTru3, sTru4, sDvm, List.map, List.length_cons, List.length_nil, List.replicate, List.cons_append, List.nil_append, List.append_nil, List.getElem?_cons_zero, List.getElem?_cons_succ, List.set_cons_zero, List.set_cons_succ, DL.eq_int, DL.ne_int, eq_str, ne_str, Bool.not_true, Bool.not_false, decide_true, decide_false, true_and, and_true, if_true, if_false, Bool.false_eq_true, ex_some]
  by_cases c1 : w < 4
  · rw [decide_eq_true c1]
    simp only [startD, endsD, wRet, wRetN, wAndV, wOrV, wNotV, wCB, wCons, wNil, wVar, wC, wChain, wOp, wUn, wIf, wIfE, wTv, wTru, wNot, wAnd, wOr, wSeq, wNext, wAsg, wDrop, dgN, dgT, dgCons, dgNil, dgSub, dgFldC, wPar, wTup, wLst, wLstC, wFldC, wSetFC, wMeth, wMake, wCall, wSl, wNoPart, wPart, wStar, wCallN, wMakeN, wMethN, wFmt, wFS, wJs, wDNew, wDGet, wDPut, wBMl, wCallV, wCallE, gI20, gI2, gNeg, g1I, g2I, gNotN, gIsN, gIsB, D.isNon, sAdd1, sAdd2, sAdd3, sAdd4, sMul1, sMulT, sLen1, sLen2, sLen3, sInt1, sInt2, sTup1, sTup2, sLst1, sLst2, sSl1, sSl2, sSl3, sTru1, sTru2, sTru3, sTru4, sDvm, List.map, List.length_cons, List.length_nil, List.replicate, List.cons_append, List.nil_append, List.append_nil, List.getElem?_cons_zero, List.getElem?_cons_succ, List.set_cons_zero, List.set_cons_succ, DL.eq_int, DL.ne_int, eq_str, ne_str, Bool.not_true, Bool.not_false, decide_true, decide_false, true_and, and_true, if_true, if_false, Bool.false_eq_true, ex_some]
    exact put1 st1 k1
  · rw [decide_eq_false c1]
    simp only [startD, endsD, wRet, wRetN, wAndV, wOrV, wNotV, wCB, wCons, wNil, wVar, wC, wChain, wOp, wUn, wIf, wIfE, wTv, wTru, wNot, wAnd, wOr, wSeq, wNext, wAsg, wDrop, dgN, dgT, dgCons, dgNil, dgSub, dgFldC, wPar, wTup, wLst, wLstC, wFldC, wSetFC, wMeth, wMake, wCall, wSl, wNoPart, wPart, wStar, wCallN, wMakeN, wMethN, wFmt, wFS, wJs, wDNew, wDGet, wDPut, wBMl, wCallV, wCallE, gI20, gI2, gNeg, g1I, g2I, gNotN, gIsN, gIsB, D.isNon, sAdd1, sAdd2, sAdd3, sAdd4, sMul1, sMulT, sLen1, sLen2, sLen3, sInt1, sInt2, sTup1, sTup2, sLst1, sLst2, sSl1, sSl2, sSl3, sTru1, sTru2, sTru3, sTru4, sDvm, List.map, List.length_cons, List.length_nil, List.replicate, List.cons_append, List.nil_append, List.append_nil, List.getElem?_cons_zero, List.getElem?_cons_succ, List.set_cons_zero, List.set_cons_succ, DL.eq_int, DL.ne_int, eq_str, ne_str, Bool.not_true, Bool.not_false, decide_true, decide_false, true_and, and_true, if_true, if_false, Bool.false_eq_true, ex_some]
    by_cases c2 : ((ph.ks.length : Nat) : Int) < 2
    · rw [decide_eq_true c2]
      simp only [startD, endsD, wRet, wRetN, wAndV, wOrV, wNotV, wCB, wCons, wNil, wVar, wC, wChain, wOp, wUn, wIf, wIfE, wTv, wTru, wNot, wAnd, wOr, wSeq, wNext, wAsg, wDrop, dgN, dgT, dgCons, dgNil, dgSub, dgFldC, wPar, wTup, wLst, wLstC, wFldC, wSetFC, wMeth, wMake, wCall, wSl, wNoPart, wPart, wStar, wCallN, wMakeN, wMethN, wFmt, wFS, wJs, wDNew, wDGet, wDPut, wBMl, wCallV, wCallE, gI20, gI2, gNeg, g1I, g2I, gNotN, gIsN, gIsB, D.isNon, sAdd1, sAdd2, sAdd3, sAdd4, sMul1, sMulT, sLen1, sLen2, sLen3, sInt1, sInt2, sTup1, sTup2, sLst1, sLst2, sSl1, sSl2, sSl3, sTru1, sTru2, sTru3, sTru4, sDvm, List.map, List.length_cons, List.length_nil, List.replicate, List.cons_append, List.nil_append, List.append_nil, List.getElem?_cons_zero, List.getElem?_cons_succ, List.set_cons_zero, List.set_cons_succ, DL.eq_int, DL.ne_int, eq_str, ne_str, Bool.not_true, Bool.not_false, decide_true, decide_false, true_and, and_true, if_true, if_false, Bool.false_eq_true, ex_some]
      by_cases c3 : w < 8
      · rw [decide_eq_true c3]
        simp only [startD, endsD, wRet, wRetN, wAndV, wOrV, wNotV, wCB, wCons, wNil, wVar, wC, wChain, wOp, wUn, wIf, wIfE, wTv, wTru, wNot, wAnd, wOr, wSeq, wNext, wAsg, wDrop, dgN, dgT, dgCons, dgNil, dgSub, dgFldC, wPar, wTup, wLst, wLstC, wFldC, wSetFC, wMeth, wMake, wCall, wSl, wNoPart, wPart, wStar, wCallN, wMakeN, wMethN, wFmt, wFS, wJs, wDNew, wDGet, wDPut, wBMl, wCallV, wCallE, gI20, gI2, gNeg, g1I, g2I, gNotN, gIsN, gIsB, D.isNon, sAdd1, sAdd2, sAdd3, sAdd4, sMul1, sMulT, sLen1, sLen2, sLen3, sInt1, sInt2, sTup1, sTup2, sLst1, sLst2, sSl1, sSl2, sSl3, sTru1, sTru2, sTru3, sTru4, sDvm, List.map, List.length_cons, List.length_nil, List.replicate, List.cons_append, List.nil_append, List.append_nil, List.getElem?_cons_zero, List.getElem?_cons_succ, List.set_cons_zero, List.set_cons_succ, DL.eq_int, DL.ne_int, eq_str, ne_str, Bool.not_true, Bool.not_false, decide_true, decide_false, true_and, and_true, if_true, if_false, Bool.false_eq_true, ex_some]
        exact put1 st1 k1
      · rw [decide_eq_false c3]
        simp only [startD, endsD, wRet, wRetN, wAndV, wOrV, wNotV, wCB, wCons, wNil, wVar, wC, wChain, wOp, wUn, wIf, wIfE, wTv, wTru, wNot, wAnd, wOr, wSeq, wNext, wAsg, wDrop, dgN, dgT, dgCons, dgNil, dgSub, dgFldC, wPar, wTup, wLst, wLstC, wFldC, wSetFC, wMeth, wMake, wCall, wSl, wNoPart, wPart, wStar, wCallN, wMakeN, wMethN, wFmt, wFS, wJs, wDNew, wDGet, wDPut, wBMl, wCallV, wCallE, gI20, gI2, gNeg, g1I, g2I, gNotN, gIsN, gIsB, D.isNon, sAdd1, sAdd2, sAdd3, sAdd4, sMul1, sMulT, sLen1, sLen2, sLen3, sInt1, sInt2, sTup1, sTup2, sLst1, sLst2, sSl1, sSl2, sSl3, sTru1, sTru2, sTru3, sTru4, sDvm, List.map, List.length_cons, List.length_nil, List.replicate, List.cons_append, List.nil_append, List.append_nil, List.getElem?_cons_zero, List.getElem?_cons_succ, List.set_cons_zero, List.set_cons_succ, DL.eq_int, DL.ne_int, eq_str, ne_str, Bool.not_true, Bool.not_false, decide_true, decide_false, true_and, and_true, if_true, if_false, Bool.false_eq_true, ex_some]
        exact ⟨sl_small (by decide), h .undo st1 trivial k1⟩
    · rw [decide_eq_false c2]
      simp only [startD, endsD, wRet, wRetN, wAndV, wOrV, wNotV, wCB, wCons, wNil, wVar, wC, wChain, wOp, wUn, wIf, wIfE, wTv, wTru, wNot, wAnd, wOr, wSeq, wNext, wAsg, wDrop, dgN, dgT, dgCons, dgNil, dgSub, dgFldC, wPar, wTup, wLst, wLstC, wFldC, wSetFC, wMeth, wMake, wCall, wSl, wNoPart, wPart, wStar, wCallN, wMakeN, wMethN, wFmt, wFS, wJs, wDNew, wDGet, wDPut, wBMl, wCallV, wCallE, gI20, gI2, gNeg, g1I, g2I, gNotN, gIsN, gIsB, D.isNon, sAdd1, sAdd2, sAdd3, sAdd4, sMul1, sMulT, sLen1, sLen2, sLen3, sInt1, sInt2, sTup1, sTup2, sLst1, sLst2, sSl1, sSl2, sSl3, sTru1, sTru2, sTru3, sTru4, sDvm, List.map, List.length_cons, List.length_nil, List.replicate, List.cons_append, List.nil_append, List.append_nil, List.getElem?_cons_zero, List.getElem?_cons_succ, List.set_cons_zero, List.set_cons_succ, DL.eq_int, DL.ne_int, eq_str, ne_str, Bool.not_true, Bool.not_false, decide_true, decide_false, true_and, and_true, if_true, if_false, Bool.false_eq_true, ex_some]
      by_cases c3 : w < 8
      · rw [decide_eq_true c3]
        simp only [startD, endsD, wRet, wRetN, wAndV, wOrV, wNotV, wCB, wCons, wNil, wVar, wC, wChain, wOp, wUn, wIf, wIfE, wTv, wTru, wNot, wAnd, wOr, wSeq, wNext, wAsg, wDrop, dgN, dgT, dgCons, dgNil, dgSub, dgFldC, wPar, wTup, wLst, wLstC, wFldC, wSetFC, wMeth, wMake, wCall, wSl, wNoPart, wPart, wStar, wCallN, wMakeN, wMethN, wFmt, wFS, wJs, wDNew, wDGet, wDPut, wBMl, wCallV, wCallE, gI20, gI2, gNeg, g1I, g2I, gNotN, gIsN, gIsB, D.isNon, sAdd1, sAdd2, sAdd3, sAdd4, sMul1, sMulT, sLen1, sLen2, sLen3, sInt1, sInt2, sTup1, sTup2, sLst1, sLst2, sSl1, sSl2, sSl3, sTru1, sTru2, sTru3, sTru4, sDvm, List.map, List.length_cons, List.length_nil, List.replicate, List.cons_append, List.nil_append, List.append_nil, List.getElem?_cons_zero, List.getElem?_cons_succ, List.set_cons_zero, List.set_cons_succ, DL.eq_int, DL.ne_int, eq_str, ne_str, Bool.not_true, Bool.not_false, decide_true, decide_false, true_and, and_true, if_true, if_false, Bool.false_eq_true, ex_some]
        refine nip_at k1.1 (by omega) (by omega) fun i st2 i0 i1 k2 => ?_
        simp only [startD, endsD, wRet, wRetN, wAndV, wOrV, wNotV, wCB, wCons, wNil, wVar, wC, wChain, wOp, wUn, wIf, wIfE, wTv, wTru, wNot, wAnd, wOr, wSeq, wNext, wAsg, wDrop, dgN, dgT, dgCons, dgNil, dgSub, dgFldC, wPar, wTup, wLst, wLstC, wFldC, wSetFC, wMeth, wMake, wCall, wSl, wNoPart, wPart, wStar, wCallN, wMakeN, wMethN, wFmt, wFS, wJs, wDNew, wDGet, wDPut, wBMl, wCallV, wCallE, gI20, gI2, gNeg, g1I, g2I, gNotN, gIsN, gIsB, D.isNon, sAdd1, sAdd2, sAdd3, sAdd4, sMul1, sMulT, sLen1, sLen2, sLen3, sInt1, sInt2, sTup1, sTup2, sLst1, sLst2, sSl1, sSl2, sSl3, sTru1, sTru2, sTru3, sTru4, sDvm, List.map, List.length_cons, List.length_nil, List.replicate, List.cons_append, List.nil_append, List.append_nil, List.getElem?_cons_zero, List.getElem?_cons_succ, List.set_cons_zero, List.set_cons_succ, DL.eq_int, DL.ne_int, eq_str, ne_str, Bool.not_true, Bool.not_false, decide_true, decide_false, true_and, and_true, if_true, if_false, Bool.false_eq_true, ex_some]
        refine nip_at k2.1 (by omega) (by omega) fun j st3 j0 j1 k3 => ?_
        simp only [startD, endsD, wRet, wRetN, wAndV, wOrV, wNotV, wCB, wCons, wNil, wVar, wC, wChain, wOp, wUn, wIf, wIfE, wTv, wTru, wNot, wAnd, wOr, wSeq, wNext, wAsg, wDrop, dgN, dgT, dgCons, dgNil, dgSub, dgFldC, wPar, wTup, wLst, wLstC, wFldC, wSetFC, wMeth, wMake, wCall, wSl, wNoPart, wPart, wStar, wCallN, wMakeN, wMethN, wFmt, wFS, wJs, wDNew, wDGet, wDPut, wBMl, wCallV, wCallE, gI20, gI2, gNeg, g1I, g2I, gNotN, gIsN, gIsB, D.isNon, sAdd1, sAdd2, sAdd3, sAdd4, sMul1, sMulT, sLen1, sLen2, sLen3, sInt1, sInt2, sTup1, sTup2, sLst1, sLst2, sSl1, sSl2, sSl3, sTru1, sTru2, sTru3, sTru4, sDvm, List.map, List.length_cons, List.length_nil, List.replicate, List.cons_append, List.nil_append, List.append_nil, List.getElem?_cons_zero, List.getElem?_cons_succ, List.set_cons_zero, List.set_cons_succ, DL.eq_int, DL.ne_int, eq_str, ne_str, Bool.not_true, Bool.not_false, decide_true, decide_false, true_and, and_true, if_true, if_false, Bool.false_eq_true, ex_some]
        refine nip_at k3.1 (by decide) (by decide) fun u st4 u0 u1 k4 => ?_
        simp only [startD, endsD, wRet, wRetN, wAndV, wOrV, wNotV, wCB, wCons, wNil, wVar, wC, wChain, wOp, wUn, wIf, wIfE, wTv, wTru, wNot, wAnd, wOr, wSeq, wNext, wAsg, wDrop, dgN, dgT, dgCons, dgNil, dgSub, dgFldC, wPar, wTup, wLst, wLstC, wFldC, wSetFC, wMeth, wMake, wCall, wSl, wNoPart, wPart, wStar, wCallN, wMakeN, wMethN, wFmt, wFS, wJs, wDNew, wDGet, wDPut, wBMl, wCallV, wCallE, gI20, gI2, gNeg, g1I, g2I, gNotN, gIsN, gIsB, D.isNon, sAdd1, sAdd2, sAdd3, sAdd4, sMul1, sMulT, sLen1, sLen2, sLen3, sInt1, sInt2, sTup1, sTup2, sLst1, sLst2, sSl1, sSl2, sSl3, sTru1, sTru2, sTru3, sTru4, sDvm, List.map, List.length_cons, List.length_nil, List.replicate, List.cons_append, List.nil_append, List.append_nil, List.getElem?_cons_zero, List.getElem?_cons_succ, List.set_cons_zero, List.set_cons_succ, DL.eq_int, DL.ne_int, eq_str, ne_str, Bool.not_true, Bool.not_false, decide_true, decide_false, true_and, and_true, if_true, if_false, Bool.false_eq_true, ex_some]
        have kk := ((k1.trans k2).trans k3).trans k4
        by_cases c4 : 0 < u
        · rw [decide_eq_true c4]
          exact ⟨sl_small (by decide), h (.meet (.int i) (.int (i + 1 + j))) st4 ⟨okV_small (by omega) (by omega), okV_small (by omega) (by omega)⟩ kk⟩
        · rw [decide_eq_false c4]
          exact ⟨sl_small (by decide), h (.meet (.int (i + 1 + j)) (.int i)) st4 ⟨okV_small (by omega) (by omega), okV_small (by omega) (by omega)⟩ kk⟩
      · rw [decide_eq_false c3]
        simp only [startD, endsD, wRet, wRetN, wAndV, wOrV, wNotV, wCB, wCons, wNil, wVar, wC, wChain, wOp, wUn, wIf, wIfE, wTv, wTru, wNot, wAnd, wOr, wSeq, wNext, wAsg, wDrop, dgN, dgT, dgCons, dgNil, dgSub, dgFldC, wPar, wTup, wLst, wLstC, wFldC, wSetFC, wMeth, wMake, wCall, wSl, wNoPart, wPart, wStar, wCallN, wMakeN, wMethN, wFmt, wFS, wJs, wDNew, wDGet, wDPut, wBMl, wCallV, wCallE, gI20, gI2, gNeg, g1I, g2I, gNotN, gIsN, gIsB, D.isNon, sAdd1, sAdd2, sAdd3, sAdd4, sMul1, sMulT, sLen1, sLen2, sLen3, sInt1, sInt2, sTup1, sTup2, sLst1, sLst2, sSl1, sSl2, sSl3, sTru1, sTru2, sTru3, sTru4, sDvm, List.map, List.length_cons, List.length_nil, List.replicate, List.cons_append, List.nil_append, List.append_nil, List.getElem?_cons_zero, List.getElem?_cons_succ, List.set_cons_zero, List.set_cons_succ, DL.eq_int, DL.ne_int, eq_str, ne_str, Bool.not_true, Bool.not_false, decide_true, decide_false, true_and, and_true, if_true, if_false, Bool.false_eq_true, ex_some]
        exact ⟨sl_small (by decide), h .undo st1 trivial k1⟩
end GV

namespace GV
open PySem PySem.Spec PyProof.Rows L2 DL
variable [Tb]
abbrev weDo (K : PySem.W.Frag) : WE := wCallN 2 (sp_law_do K) (wCons (wVar 0) (wCons (wVar 1) wNil))
/-- told by the law, what the pot does: alike -/
theorem told_at {K : PySem.W.Frag} {st : Sto} {b p a : Addr} {m : Mx} {ph : Ph} {past : List Ph} {d : Deed} {Kn : D → Sto → Prop} {Kx : KX} {env : DEnv} (H : Here K st b p a m ph past) (od : okDeed d) (e6 : env[6]? = some (some (.ref p))) (e5 : env[5]? = some (some (deedD d)))
    (h : match stepR m past ph d with
      | .ok (r, q, past') => Kn (.tup [.str "gave", r]) (st.put p (potC K a q past' false))
      | .error e => Kn (erD e) st) : wCallLam Clo.none 0 ["pot_here", "deed"] [6, 5] (weDo K) (sp_law_caught K) env st Kn Kx := by
  have s6 : slotD env 6 = some (.ref p) := by unfold slotD; rw [e6]
  have s5 : slotD env 5 = some (deedD d) := by unfold slotD; rw [e5]
  have ec : capsD env [6, 5] = [some (.ref p), some (deedD d)] := by unfold capsD; rw [List.map_cons, List.map_cons, List.map_nil, s6, s5]
  unfold wCallLam
  rw [ec]
  refine ⟨fun v hv => ?_, fun g _ => ⟨g, _, rfl, by unfold Clo.set; rw [if_pos rfl], ?_⟩⟩
  · rcases List.mem_cons.mp hv with e | hv
    · cases e; simp only [D.px]
    · rcases List.mem_cons.mp hv with e | hv
      · cases e; exact deed_px od
      · cases hv
  · have ee : cloEnv ["pot_here", "deed"] [] [some (.ref p), some (deedD d)] = [some (.ref p), some (deedD d)] := rfl
    unfold cloB
    rw [ee]
    simp only [startD, endsD, wRet, wRetN, wAndV, wOrV, wNotV, wCB, wCons, wNil, wVar, wC, wChain, wOp, wUn, wIf, wIfE, wTv, wTru, wNot, wAnd, wOr, wSeq, wNext, wAsg, wDrop, dgN, dgT, dgCons, dgNil, dgSub, dgFldC, wPar, wTup, wLst, wLstC, wFldC, wSetFC, wMeth, wMake, wCall, wSl, wNoPart, wPart, wStar, wCallN, wMakeN, wMethN, wFmt, wFS, wJs, wDNew, wDGet, wDPut, wBMl, wCallV, wCallE, gI20, gI2, gNeg, g1I, g2I, gNotN, gIsN, gIsB, D.isNon, sAdd1, sAdd2, sAdd3, sAdd4, sMul1, sMulT, sLen1, sLen2, sLen3, sInt1, sInt2, sTup1, sTup2, sLst1, sLst2, sSl1, sSl2, sSl3, sTru1, sTru2, sTru3, sTru4, sDvm, List.map, List.length_cons, List.length_nil, List.replicate, List.cons_append, List.nil_append, List.append_nil, List.getElem?_cons_zero, List.getElem?_cons_succ, List.set_cons_zero, List.set_cons_succ, DL.eq_int, DL.ne_int, eq_str, ne_str, Bool.not_true, Bool.not_false, decide_true, decide_false, true_and, and_true, if_true, if_false, Bool.false_eq_true, ex_some]
    refine ⟨p, a, m, ph, past, d, rfl, H.P, od, ?_⟩
    cases e : stepR m past ph d with
    | ok r =>
      obtain ⟨r, q, past'⟩ := r
      rw [e] at h
      exact h
    | error er =>
      rw [e] at h
      exact ⟨er, rfl, h⟩
abbrev bTurn (K : PySem.W.Frag) : WS := wSeq (wAsg (wCallN 3 (sp_law_deed K) (wCons (wVar 0) (wCons (wVar 1) (wCons (wVar 2) wNil)))) (dgN 5))
    (wSeq (wAsg (wCallN 3 (sp_law_after K) (wCons (wVar 1) (wCons (wVar 2) (wCons (wVar 5) wNil)))) (dgT 2 (dgCons (dgN 4) (dgCons (dgN 2) dgNil))))
    (wIf (wOr (wNot (wTv (wCallN 2 (sp_law_alike K) (wCons (wCallLam Clo.none 0 ["pot_here", "deed"] [6, 5] (weDo K) (sp_law_caught K)) (wCons (wVar 4) wNil))))) (wNot (wTv (wCallN 2 (sp_law_shows K) (wCons (wVar 6) (wCons (wVar 2) wNil)))))) (wRet (wC (.bl false))) wNext))
theorem loop_turn {K : PySem.W.Frag} {b p a : Addr} {m : Mx} (ok : MxOk m.c m.st m.tb) {DD : DEnds} (h : ∀ e2 e3 e4 e5 st, DD.nx [some (.ref b), some (mixD m), e2, e3, e4, e5, some (.ref p)] st) : ∀ (xs : List D) (ph : Ph) (past : List Ph) (e3 e4 e5 : Option D) (st : Sto), Here K st b p a m ph past →
    forL (dgN 3) (bTurn K) DD xs [some (.ref b), some (mixD m), some (sttD past ph), e3, e4, e5, some (.ref p)] st
  | [], ph, past, e3, e4, e5, st, H => h _ _ _ _ _
  | x :: xs, ph, past, e3, e4, e5, st, H => by
    unfold forL
    simp only [startD, endsD, wRet, wRetN, wAndV, wOrV, wNotV, wCB, wCons, wNil, wVar, wC, wChain, wOp, wUn, wIf, wIfE, wTv, wTru, wNot, wAnd, wOr, wSeq, wNext, wAsg, wDrop, dgN, dgT, dgCons, dgNil, dgSub, dgFldC, wPar, wTup, wLst, wLstC, wFldC, wSetFC, wMeth, wMake, wCall, wSl, wNoPart, wPart, wStar, wCallN, wMakeN, wMethN, wFmt, wFS, wJs, wDNew, wDGet, wDPut, wBMl, wCallV, wCallE, gI20, gI2, gNeg, g1I, g2I, gNotN, gIsN, gIsB, D.isNon, sAdd1, sAdd2, sAdd3, sAdd4, sMul1, sMulT, sLen1, sLen2, sLen3, sInt1, sInt2, sTup1, sTup2, sLst1, sLst2, sSl1, sSl2, sSl3, sTru1, sTru2, sTru3, sTru4, sDvm, List.map, List.length_cons, List.length_nil, List.replicate, List.cons_append, List.nil_append, List.append_nil, List.getElem?_cons_zero, List.getElem?_cons_succ, List.set_cons_zero, List.set_cons_succ, DL.eq_int, DL.ne_int, eq_str, ne_str, Bool.not_true, Bool.not_false, decide_true, decide_false, true_and, and_true, if_true, if_false, Bool.false_eq_true, ex_some]
    refine ⟨b, m, past, ph, rfl, H.bn, ok, H.P.ok, fun d st1 od k1 => ?_⟩
    have H1 := H.kp k1
    refine ⟨m, past, ph, d, rfl, ok, H1.P.ok, od, fun st2 g2 => ?_⟩
    have H2 := H1.grow g2
    cases e : stepR m past ph d with
    | ok r =>
      obtain ⟨r, q, past'⟩ := r
      obtain ⟨o1, o2⟩ := stepR_ok ok H2.P.ok e
      have H3 := H2.put o1
      obtain ⟨pp, ep, fp⟩ := gave_py o2
      simp only [startD, endsD, wRet, wRetN, wAndV, wOrV, wNotV, wCB, wCons, wNil, wVar, wC, wChain, wOp, wUn, wIf, wIfE, wTv, wTru, wNot, wAnd, wOr, wSeq, wNext, wAsg, wDrop, dgN, dgT, dgCons, dgNil, dgSub, dgFldC, wPar, wTup, wLst, wLstC, wFldC, wSetFC, wMeth, wMake, wCall, wSl, wNoPart, wPart, wStar, wCallN, wMakeN, wMethN, wFmt, wFS, wJs, wDNew, wDGet, wDPut, wBMl, wCallV, wCallE, gI20, gI2, gNeg, g1I, g2I, gNotN, gIsN, gIsB, D.isNon, sAdd1, sAdd2, sAdd3, sAdd4, sMul1, sMulT, sLen1, sLen2, sLen3, sInt1, sInt2, sTup1, sTup2, sLst1, sLst2, sSl1, sSl2, sSl3, sTru1, sTru2, sTru3, sTru4, sDvm, List.map, List.length_cons, List.length_nil, List.replicate, List.cons_append, List.nil_append, List.append_nil, List.getElem?_cons_zero, List.getElem?_cons_succ, List.set_cons_zero, List.set_cons_succ, DL.eq_int, DL.ne_int, eq_str, ne_str, Bool.not_true, Bool.not_false, decide_true, decide_false, true_and, and_true, if_true, if_false, Bool.false_eq_true, ex_some]
      refine told_at H2 od (by rfl) (by rfl) ?_
      rw [e]
      refine ⟨_, pp, rfl, ep, fp, ?_⟩
      simp only [startD, endsD, wRet, wRetN, wAndV, wOrV, wNotV, wCB, wCons, wNil, wVar, wC, wChain, wOp, wUn, wIf, wIfE, wTv, wTru, wNot, wAnd, wOr, wSeq, wNext, wAsg, wDrop, dgN, dgT, dgCons, dgNil, dgSub, dgFldC, wPar, wTup, wLst, wLstC, wFldC, wSetFC, wMeth, wMake, wCall, wSl, wNoPart, wPart, wStar, wCallN, wMakeN, wMethN, wFmt, wFS, wJs, wDNew, wDGet, wDPut, wBMl, wCallV, wCallE, gI20, gI2, gNeg, g1I, g2I, gNotN, gIsN, gIsB, D.isNon, sAdd1, sAdd2, sAdd3, sAdd4, sMul1, sMulT, sLen1, sLen2, sLen3, sInt1, sInt2, sTup1, sTup2, sLst1, sLst2, sSl1, sSl2, sSl3, sTru1, sTru2, sTru3, sTru4, sDvm, List.map, List.length_cons, List.length_nil, List.replicate, List.cons_append, List.nil_append, List.append_nil, List.getElem?_cons_zero, List.getElem?_cons_succ, List.set_cons_zero, List.set_cons_succ, DL.eq_int, DL.ne_int, eq_str, ne_str, Bool.not_true, Bool.not_false, decide_true, decide_false, true_and, and_true, if_true, if_false, Bool.false_eq_true, ex_some]
      refine ⟨p, a, m, q, past', past', rfl, H3.P, ?_⟩
      simp only [startD, endsD, wRet, wRetN, wAndV, wOrV, wNotV, wCB, wCons, wNil, wVar, wC, wChain, wOp, wUn, wIf, wIfE, wTv, wTru, wNot, wAnd, wOr, wSeq, wNext, wAsg, wDrop, dgN, dgT, dgCons, dgNil, dgSub, dgFldC, wPar, wTup, wLst, wLstC, wFldC, wSetFC, wMeth, wMake, wCall, wSl, wNoPart, wPart, wStar, wCallN, wMakeN, wMethN, wFmt, wFS, wJs, wDNew, wDGet, wDPut, wBMl, wCallV, wCallE, gI20, gI2, gNeg, g1I, g2I, gNotN, gIsN, gIsB, D.isNon, sAdd1, sAdd2, sAdd3, sAdd4, sMul1, sMulT, sLen1, sLen2, sLen3, sInt1, sInt2, sTup1, sTup2, sLst1, sLst2, sSl1, sSl2, sSl3, sTru1, sTru2, sTru3, sTru4, sDvm, List.map, List.length_cons, List.length_nil, List.replicate, List.cons_append, List.nil_append, List.append_nil, List.getElem?_cons_zero, List.getElem?_cons_succ, List.set_cons_zero, List.set_cons_succ, DL.eq_int, DL.ne_int, eq_str, ne_str, Bool.not_true, Bool.not_false, decide_true, decide_false, true_and, and_true, if_true, if_false, Bool.false_eq_true, ex_some]
      exact loop_turn ok h xs q past' _ _ _ _ H3
    | error er =>
      obtain ⟨pp, ep, fp⟩ := er_py (stepR_er od e)
      simp only [startD, endsD, wRet, wRetN, wAndV, wOrV, wNotV, wCB, wCons, wNil, wVar, wC, wChain, wOp, wUn, wIf, wIfE, wTv, wTru, wNot, wAnd, wOr, wSeq, wNext, wAsg, wDrop, dgN, dgT, dgCons, dgNil, dgSub, dgFldC, wPar, wTup, wLst, wLstC, wFldC, wSetFC, wMeth, wMake, wCall, wSl, wNoPart, wPart, wStar, wCallN, wMakeN, wMethN, wFmt, wFS, wJs, wDNew, wDGet, wDPut, wBMl, wCallV, wCallE, gI20, gI2, gNeg, g1I, g2I, gNotN, gIsN, gIsB, D.isNon, sAdd1, sAdd2, sAdd3, sAdd4, sMul1, sMulT, sLen1, sLen2, sLen3, sInt1, sInt2, sTup1, sTup2, sLst1, sLst2, sSl1, sSl2, sSl3, sTru1, sTru2, sTru3, sTru4, sDvm, List.map, List.length_cons, List.length_nil, List.replicate, List.cons_append, List.nil_append, List.append_nil, List.getElem?_cons_zero, List.getElem?_cons_succ, List.set_cons_zero, List.set_cons_succ, DL.eq_int, DL.ne_int, eq_str, ne_str, Bool.not_true, Bool.not_false, decide_true, decide_false, true_and, and_true, if_true, if_false, Bool.false_eq_true, ex_some]
      refine told_at H2 od (by rfl) (by rfl) ?_
      rw [e]
      refine ⟨_, pp, rfl, ep, fp, ?_⟩
      simp only [startD, endsD, wRet, wRetN, wAndV, wOrV, wNotV, wCB, wCons, wNil, wVar, wC, wChain, wOp, wUn, wIf, wIfE, wTv, wTru, wNot, wAnd, wOr, wSeq, wNext, wAsg, wDrop, dgN, dgT, dgCons, dgNil, dgSub, dgFldC, wPar, wTup, wLst, wLstC, wFldC, wSetFC, wMeth, wMake, wCall, wSl, wNoPart, wPart, wStar, wCallN, wMakeN, wMethN, wFmt, wFS, wJs, wDNew, wDGet, wDPut, wBMl, wCallV, wCallE, gI20, gI2, gNeg, g1I, g2I, gNotN, gIsN, gIsB, D.isNon, sAdd1, sAdd2, sAdd3, sAdd4, sMul1, sMulT, sLen1, sLen2, sLen3, sInt1, sInt2, sTup1, sTup2, sLst1, sLst2, sSl1, sSl2, sSl3, sTru1, sTru2, sTru3, sTru4, sDvm, List.map, List.length_cons, List.length_nil, List.replicate, List.cons_append, List.nil_append, List.append_nil, List.getElem?_cons_zero, List.getElem?_cons_succ, List.set_cons_zero, List.set_cons_succ, DL.eq_int, DL.ne_int, eq_str, ne_str, Bool.not_true, Bool.not_false, decide_true, decide_false, true_and, and_true, if_true, if_false, Bool.false_eq_true, ex_some]
      refine ⟨p, a, m, ph, past, past, rfl, H2.P, ?_⟩
      simp only [startD, endsD, wRet, wRetN, wAndV, wOrV, wNotV, wCB, wCons, wNil, wVar, wC, wChain, wOp, wUn, wIf, wIfE, wTv, wTru, wNot, wAnd, wOr, wSeq, wNext, wAsg, wDrop, dgN, dgT, dgCons, dgNil, dgSub, dgFldC, wPar, wTup, wLst, wLstC, wFldC, wSetFC, wMeth, wMake, wCall, wSl, wNoPart, wPart, wStar, wCallN, wMakeN, wMethN, wFmt, wFS, wJs, wDNew, wDGet, wDPut, wBMl, wCallV, wCallE, gI20, gI2, gNeg, g1I, g2I, gNotN, gIsN, gIsB, D.isNon, sAdd1, sAdd2, sAdd3, sAdd4, sMul1, sMulT, sLen1, sLen2, sLen3, sInt1, sInt2, sTup1, sTup2, sLst1, sLst2, sSl1, sSl2, sSl3, sTru1, sTru2, sTru3, sTru4, sDvm, List.map, List.length_cons, List.length_nil, List.replicate, List.cons_append, List.nil_append, List.append_nil, List.getElem?_cons_zero, List.getElem?_cons_succ, List.set_cons_zero, List.set_cons_succ, DL.eq_int, DL.ne_int, eq_str, ne_str, Bool.not_true, Bool.not_false, decide_true, decide_false, true_and, and_true, if_true, if_false, Bool.false_eq_true, ex_some]
      exact loop_turn ok h xs ph past _ _ _ _ H2
theorem pot0_ok {m : Mx} (ok : MxOk m.c m.st m.tb) : PotOk m [] ⟨[], 0, List.replicate m.st.length 0⟩ := by
  refine ⟨by simp, fun i q e => ?_⟩
  cases i with
  | zero =>
    have e : (⟨[], 0, List.replicate m.st.length 0⟩ : Ph) = q := by simpa using e
    rw [← e]
    exact ⟨Nat.le_refl _, fun k hk => absurd hk (by simp), Int.le_refl _, by simp, by simp, fun x hx => by rw [List.eq_of_mem_replicate hx]; simp⟩
  | succ i => simp at e
/-- a pot of a drawn mixture, and its states -/
theorem made_at {K : PySem.W.Frag} {b : Addr} {m : Mx} {st : Sto} {Kn : Addr → Sto → Prop} {Kx : KX} (bn : binAt st b) (ok : MxOk m.c m.st m.tb)
    (h : ∀ (p a : Addr) (m' : Mx) (st' : Sto), mixD m' = mixD m → MxOk m'.c m'.st m'.tb → m'.st = m.st → Here K st' b p a m' ⟨[], 0, List.replicate m.st.length 0⟩ [] → Grow st st' → Kn p st') :
    sp_law_made K [mixD m] st (fun d st' => ∀ p, ¬ st'.on p → sp_PotX_initX K [.ref p, d] ((p, .ins (cP K) []) :: st') (fun v st2 => v = .non ∧ Kn p st2) Kx) Kx := by
  refine ⟨m, rfl, ok, fun a ks na p np => ⟨p, a, { m with ks := ks }, rfl, new_lookup, ⟨?_, ok⟩, rfl, ?_⟩⟩
  · rw [old_lookup (ne_on new_lookup np)]; exact new_lookup
  · rw [put_new np]
    obtain ⟨x, y, z, lb⟩ := bn
    have ba : b ≠ a := ne_on lb na
    have lb2 : List.lookup b ((a, mixC K { m with ks := ks }) :: st) = some (binD x y z) := by rw [old_lookup ba]; exact lb
    have bp : b ≠ p := ne_on lb2 np
    have ap : a ≠ p := ne_on new_lookup np
    refine h p a { m with ks := ks } _ rfl ok rfl ⟨⟨x, y, z, by rw [old_lookup bp]; exact lb2⟩, ⟨new_lookup, ⟨by rw [old_lookup ap]; exact new_lookup, ok⟩, pot0_ok ok⟩, Ne.symm bp, Ne.symm ba, ap⟩ ((grow_new na).trans (grow_new np))
theorem pure_law_right {K : PySem.W.Frag} (T : TP K) : Pu_law_right K := by
  rintro ds st Kn Kx - ⟨b, rfl, bn, h⟩
  simp only [startD, endsD, wRet, wRetN, wAndV, wOrV, wNotV, wCB, wCons, wNil, wVar, wC, wChain, wOp, wUn, wIf, wIfE, wTv, wTru, wNot, wAnd, wOr, wSeq, wNext, wAsg, wDrop, dgN, dgT, dgCons, dgNil, dgSub, dgFldC, wPar, wTup, wLst, wLstC, wFldC, wSetFC, wMeth, wMake, wCall, wSl, wNoPart, wPart, wStar, wCallN, wMakeN, wMethN, wFmt, wFS, wJs, wDNew, wDGet, wDPut, wBMl, wCallV, wCallE, gI20, gI2, gNeg, g1I, g2I, gNotN, gIsN, gIsB, D.isNon, sAdd1, sAdd2, sAdd3, sAdd4, sMul1, sMulT, sLen1, sLen2, sLen3, sInt1, sInt2, sTup1, sTup2, sLst1, sLst2, sSl1, sSl2, sSl3, sTru1, sTru2, sTru3, sTru4, sDvm, List.map, List.length_cons, List.length_nil, List.replicate, List.cons_append, List.nil_append, List.append_nil, List.getElem?_cons_zero, List.getElem?_cons_succ, List.set_cons_zero, List.set_cons_succ, DL.eq_int, DL.ne_int, eq_str, ne_str, Bool.not_true, Bool.not_false, decide_true, decide_false, true_and, and_true, if_true, if_false, Bool.false_eq_true, ex_some]
  refine ⟨b, 8, rfl, bn, ⟨by decide, by decide⟩, fun m st1 ok c8 ks0 k1 => ?_⟩
  simp only [startD, endsD, wRet, wRetN, wAndV, wOrV, wNotV, wCB, wCons, wNil, wVar, wC, wChain, wOp, wUn, wIf, wIfE, wTv, wTru, wNot, wAnd, wOr, wSeq, wNext, wAsg, wDrop, dgN, dgT, dgCons, dgNil, dgSub, dgFldC, wPar, wTup, wLst, wLstC, wFldC, wSetFC, wMeth, wMake, wCall, wSl, wNoPart, wPart, wStar, wCallN, wMakeN, wMethN, wFmt, wFS, wJs, wDNew, wDGet, wDPut, wBMl, wCallV, wCallE, gI20, gI2, gNeg, g1I, g2I, gNotN, gIsN, gIsB, D.isNon, sAdd1, sAdd2, sAdd3, sAdd4, sMul1, sMulT, sLen1, sLen2, sLen3, sInt1, sInt2, sTup1, sTup2, sLst1, sLst2, sSl1, sSl2, sSl3, sTru1, sTru2, sTru3, sTru4, sDvm, List.map, List.length_cons, List.length_nil, List.replicate, List.cons_append, List.nil_append, List.append_nil, List.getElem?_cons_zero, List.getElem?_cons_succ, List.set_cons_zero, List.set_cons_succ, DL.eq_int, DL.ne_int, eq_str, ne_str, Bool.not_true, Bool.not_false, decide_true, decide_false, true_and, and_true, if_true, if_false, Bool.false_eq_true, ex_some]
  refine made_at k1.1 ok fun p a m' st2 em ok' es H g => ?_
  refine ⟨m, rfl, ok, ?_⟩
  refine ⟨sl_small (by decide), ?_⟩
  simp only [wForR1]
  simp only [startD, endsD, wRet, wRetN, wAndV, wOrV, wNotV, wCB, wCons, wNil, wVar, wC, wChain, wOp, wUn, wIf, wIfE, wTv, wTru, wNot, wAnd, wOr, wSeq, wNext, wAsg, wDrop, dgN, dgT, dgCons, dgNil, dgSub, dgFldC, wPar, wTup, wLst, wLstC, wFldC, wSetFC, wMeth, wMake, wCall, wSl, wNoPart, wPart, wStar, wCallN, wMakeN, wMethN, wFmt, wFS, wJs, wDNew, wDGet, wDPut, wBMl, wCallV, wCallE, gI20, gI2, gNeg, g1I, g2I, gNotN, gIsN, gIsB, D.isNon, sAdd1, sAdd2, sAdd3, sAdd4, sMul1, sMulT, sLen1, sLen2, sLen3, sInt1, sInt2, sTup1, sTup2, sLst1, sLst2, sSl1, sSl2, sSl3, sTru1, sTru2, sTru3, sTru4, sDvm, List.map, List.length_cons, List.length_nil, List.replicate, List.cons_append, List.nil_append, List.append_nil, List.getElem?_cons_zero, List.getElem?_cons_succ, List.set_cons_zero, List.set_cons_succ, DL.eq_int, DL.ne_int, eq_str, ne_str, Bool.not_true, Bool.not_false, decide_true, decide_false, true_and, and_true, if_true, if_false, Bool.false_eq_true, ex_some]
  refine ⟨⟨by decide, by decide⟩, ?_⟩
  rw [← em]
  exact loop_turn ok' (fun e2 e3 e4 e5 st => h st) _ _ _ _ _ _ _ H
end GV

namespace GV
open PySem PySem.Spec PyProof.Rows L2 DL
variable [Tb]
theorem lc_law {K : PySem.W.Frag} {ns : List Int} (hl : ns.length ≤ 63) {Kn : List D → Sto → Prop} {env : DEnv} (he : 1 < env.length) (e0 : env[0]? = some (some (.scr ns))) : ∀ (l : List Int) (k : Nat) (st : Sto), (∀ t ∈ l, 0 ≤ t ∧ t < 100) → k + l.length ≤ 60 → (∀ st, Kn ((List.replicate (k + l.length) true).map D.bl) st) →
    lcL (tg1 1) wYes (wCallN 1 (sp_law_right K) (wCons (wCallN 2 (sp_law_bin K) (wCons (wVar 0) (wCons (wVar 1) wNil))) wNil)) env Kn (l.map D.int) ((List.replicate k true).map D.bl) st
  | [], k, st, _, _, h => h st
  | t :: l, k, st, ht, hk, h => by
    rw [List.map_cons]
    unfold lcL
    simp only [tg1, wYes, wVar, wCallN, wCall, wCons, wNil]
    rw [List.getElem?_set_ne (by decide), e0]
    dsimp only
    rw [List.getElem?_set_self (by omega)]
    dsimp only
    have q := ht t List.mem_cons_self
    refine ⟨rfl, ns, t, rfl, q, hl, fun b x y z nb => ?_⟩
    refine ⟨rfl, b, rfl, ⟨x, y, z, new_lookup⟩, fun st' => ?_⟩
    rw [List.length_cons] at hk
    refine ⟨by rw [List.length_map, List.length_replicate, sizeLine_eq]; omega, ?_⟩
    have e : (List.replicate k true).map D.bl ++ [D.bl true] = (List.replicate (k + 1) true).map D.bl := by
      rw [List.replicate_succ', List.map_append]; rfl
    rw [e]
    refine lc_law hl he e0 l (k + 1) st' (fun u hu => ht u (List.mem_cons_of_mem _ hu)) (by omega) fun st => ?_
    have q := h st
    rw [List.length_cons, show k + (l.length + 1) = k + 1 + l.length by omega] at q
    exact q
theorem blsOf_map' : ∀ bs : List Bool, blsOf (bs.map D.bl) = some bs
  | [] => rfl
  | b :: bs => by
    have ih := blsOf_map' bs
    rw [List.map_cons]
    first
      | (unfold blsOf; rw [ih])
      | (simp only [blsOf, ih])
theorem pure_law {K : PySem.W.Frag} (T : TP K) : Pu_law K := by
  rintro ds st Kn Kx - ⟨ns, rfl, hl, h⟩
  simp only [startD, endsD, wRet, wRetN, wAndV, wOrV, wNotV, wCB, wCons, wNil, wVar, wC, wChain, wOp, wUn, wIf, wIfE, wTv, wTru, wNot, wAnd, wOr, wSeq, wNext, wAsg, wDrop, dgN, dgT, dgCons, dgNil, dgSub, dgFldC, wPar, wTup, wLst, wLstC, wFldC, wSetFC, wMeth, wMake, wCall, wSl, wNoPart, wPart, wStar, wCallN, wMakeN, wMethN, wFmt, wFS, wJs, wDNew, wDGet, wDPut, wBMl, wCallV, wCallE, gI20, gI2, gNeg, g1I, g2I, gNotN, gIsN, gIsB, D.isNon, sAdd1, sAdd2, sAdd3, sAdd4, sMul1, sMulT, sLen1, sLen2, sLen3, sInt1, sInt2, sTup1, sTup2, sLst1, sLst2, sSl1, sSl2, sSl3, sTru1, sTru2, sTru3, sTru4, sDvm, List.map, List.length_cons, List.length_nil, List.replicate, List.cons_append, List.nil_append, List.append_nil, List.getElem?_cons_zero, List.getElem?_cons_succ, List.set_cons_zero, List.set_cons_succ, DL.eq_int, DL.ne_int, eq_str, ne_str, Bool.not_true, Bool.not_false, decide_true, decide_false, true_and, and_true, if_true, if_false, Bool.false_eq_true, ex_some]
  simp only [wLcR1]
  simp only [startD, endsD, wRet, wRetN, wAndV, wOrV, wNotV, wCB, wCons, wNil, wVar, wC, wChain, wOp, wUn, wIf, wIfE, wTv, wTru, wNot, wAnd, wOr, wSeq, wNext, wAsg, wDrop, dgN, dgT, dgCons, dgNil, dgSub, dgFldC, wPar, wTup, wLst, wLstC, wFldC, wSetFC, wMeth, wMake, wCall, wSl, wNoPart, wPart, wStar, wCallN, wMakeN, wMethN, wFmt, wFS, wJs, wDNew, wDGet, wDPut, wBMl, wCallV, wCallE, gI20, gI2, gNeg, g1I, g2I, gNotN, gIsN, gIsB, D.isNon, sAdd1, sAdd2, sAdd3, sAdd4, sMul1, sMulT, sLen1, sLen2, sLen3, sInt1, sInt2, sTup1, sTup2, sLst1, sLst2, sSl1, sSl2, sSl3, sTru1, sTru2, sTru3, sTru4, sDvm, List.map, List.length_cons, List.length_nil, List.replicate, List.cons_append, List.nil_append, List.append_nil, List.getElem?_cons_zero, List.getElem?_cons_succ, List.set_cons_zero, List.set_cons_succ, DL.eq_int, DL.ne_int, eq_str, ne_str, Bool.not_true, Bool.not_false, decide_true, decide_false, true_and, and_true, if_true, if_false, Bool.false_eq_true, ex_some, List.length_map]
  simp only [lcGo]
  have hm : ∃ m : Nat, m ≤ 6 ∧ (if (if 6 < (ns.length : Int) then 6 else (ns.length : Int)) > 2 then if 6 < (ns.length : Int) then 6 else (ns.length : Int) else 2) = (m : Int) := by
    refine ⟨(if (if 6 < (ns.length : Int) then 6 else (ns.length : Int)) > 2 then if 6 < (ns.length : Int) then 6 else (ns.length : Int) else 2).toNat, ?_, ?_⟩ <;> (repeat' split) <;> omega
  obtain ⟨m, m5, em⟩ := hm
  rw [em]
  refine ⟨⟨by omega, by omega⟩, ?_⟩
  rw [Int.toNat_natCast]
  have er : rngD 0 m = ((List.range m).map fun (k : Nat) => (k : Int)).map D.int := by
    unfold rngD
    rw [List.map_map]
    refine List.map_congr_left fun k _ => ?_
    simp
  rw [er]
  refine lc_law hl (by exact (by decide : 1 < 2)) rfl _ 0 st (fun t ht => ?_) (by rw [List.length_map, List.length_range]; omega) fun st' => ?_
  · obtain ⟨k, hk, e⟩ := List.mem_map.mp ht
    have := List.mem_range.mp hk
    omega
  · show gAll (fun bs => bs.all id) [.lst _] st' Kn
    unfold gAll
    simp only [lsOf]
    rw [blsOf_map']
    dsimp only
    have e : (List.replicate (0 + ((List.range m).map fun (k : Nat) => (k : Int)).length) true).all id = true := by
      rw [List.all_eq_true]
      intro x hx
      rw [List.eq_of_mem_replicate hx]; rfl
    rw [e]
    exact h st'
end GV
set_option maxHeartbeats 0
namespace GV
open PySem PySem.Spec PyProof.Rows L2 DL
abbrev top (i : Nat) : Stmt := PySem.Challenge.pw_givenonce_k67_whole_pots_through_deeds.main.body.getD i (.Pass ⟨0, 0, 0, 0⟩)
abbrev s_is_between : Stmt := top 23
theorem sc_is_between : FnScope ["value", "low", "high"] ["value", "low", "high"] (defScope s_is_between) := ⟨rfl, rfl, rfl, by decide +kernel, rfl, by decide +kernel, by decide +kernel⟩
abbrev s_is_entry : Stmt := top 24
theorem sc_is_entry : FnScope ["value", "count"] ["value", "count"] (defScope s_is_entry) := ⟨rfl, rfl, rfl, by decide +kernel, rfl, by decide +kernel, by decide +kernel⟩
abbrev s_wrong_entry : Stmt := top 25
theorem sc_wrong_entry : FnScope ["entries", "count", "index", "entry"] ["entries", "count"] (defScope s_wrong_entry) := ⟨rfl, rfl, rfl, by decide +kernel, rfl, by decide +kernel, by decide +kernel⟩
abbrev s_check_starts : Stmt := top 27
theorem sc_check_starts : FnScope ["value", "count", "index"] ["value", "count"] (defScope s_check_starts) := ⟨rfl, rfl, rfl, by decide +kernel, rfl, by decide +kernel, by decide +kernel⟩
abbrev s_check_table : Stmt := top 28
theorem sc_check_table : FnScope ["value", "count", "size", "index"] ["value", "count", "size"] (defScope s_check_table) := ⟨rfl, rfl, rfl, by decide +kernel, rfl, by decide +kernel, by decide +kernel⟩
abbrev s_place_in_table : Stmt := top 29
theorem sc_place_in_table : FnScope ["count", "one", "other", "low", "high"] ["count", "one", "other"] (defScope s_place_in_table) := ⟨rfl, rfl, rfl, by decide +kernel, rfl, by decide +kernel, by decide +kernel⟩
abbrev s_arising : Stmt := top 30
theorem sc_arising : FnScope ["count", "starts", "table", "found", "before", "one", "fresh", "kind", "gift", "other"] ["count", "starts", "table"] (defScope s_arising) := ⟨rfl, rfl, rfl, by decide +kernel, rfl, by decide +kernel, by decide +kernel⟩
abbrev s_MixtureX_initX : Stmt := clsAt (top 31) 0
theorem sc_MixtureX_initX : FnScope ["self", "count", "starts", "table"] ["self", "count", "starts", "table"] (defScope s_MixtureX_initX) := ⟨rfl, rfl, rfl, by decide +kernel, rfl, by decide +kernel, by decide +kernel⟩
abbrev s_Mixture_met : Stmt := clsAt (top 31) 1
theorem sc_Mixture_met : FnScope ["self", "one", "other"] ["self", "one", "other"] (defScope s_Mixture_met) := ⟨rfl, rfl, rfl, by decide +kernel, rfl, by decide +kernel, by decide +kernel⟩
abbrev s_check_mixture : Stmt := top 32
theorem sc_check_mixture : FnScope ["value"] ["value"] (defScope s_check_mixture) := ⟨rfl, rfl, rfl, by decide +kernel, rfl, by decide +kernel, by decide +kernel⟩
abbrev s_is_pair_of_places : Stmt := top 33
theorem sc_is_pair_of_places : FnScope ["value", "size"] ["value", "size"] (defScope s_is_pair_of_places) := ⟨rfl, rfl, rfl, by decide +kernel, rfl, by decide +kernel, by decide +kernel⟩
abbrev s_joined : Stmt := top 34
theorem sc_joined : FnScope ["mixture", "kinds", "i", "j", "kind", "gift"] ["mixture", "kinds", "i", "j"] (defScope s_joined) := ⟨rfl, rfl, rfl, by decide +kernel, rfl, by decide +kernel, by decide +kernel⟩
abbrev s_PotX_initX : Stmt := clsAt (top 39) 0
theorem sc_PotX_initX : FnScope ["self", "mixture"] ["self", "mixture"] (defScope s_PotX_initX) := ⟨rfl, rfl, rfl, by decide +kernel, rfl, by decide +kernel, by decide +kernel⟩
abbrev s_Pot_become : Stmt := clsAt (top 39) 1
theorem sc_Pot_become : FnScope ["self", "kinds", "given", "amounts"] ["self", "kinds", "given", "amounts"] (defScope s_Pot_become) := ⟨rfl, rfl, rfl, by decide +kernel, rfl, by decide +kernel, by decide +kernel⟩
abbrev s_Pot_check_idle : Stmt := clsAt (top 39) 2
theorem sc_Pot_check_idle : FnScope ["self"] ["self"] (defScope s_Pot_check_idle) := ⟨rfl, rfl, rfl, by decide +kernel, rfl, by decide +kernel, by decide +kernel⟩
abbrev s_Pot_check_room : Stmt := clsAt (top 39) 3
theorem sc_Pot_check_room : FnScope ["self"] ["self"] (defScope s_Pot_check_room) := ⟨rfl, rfl, rfl, by decide +kernel, rfl, by decide +kernel, by decide +kernel⟩
abbrev s_Pot_put_in : Stmt := clsAt (top 39) 4
theorem sc_Pot_put_in : FnScope ["self", "number", "kind", "gift", "amounts", "place", "amount"] ["self", "number"] (defScope s_Pot_put_in) := ⟨rfl, rfl, rfl, by decide +kernel, rfl, by decide +kernel, by decide +kernel⟩
abbrev s_Pot_let_meet : Stmt := clsAt (top 39) 5
theorem sc_Pot_let_meet : FnScope ["self", "i", "j", "kinds", "gift"] ["self", "i", "j"] (defScope s_Pot_let_meet) := ⟨rfl, rfl, rfl, by decide +kernel, rfl, by decide +kernel, by decide +kernel⟩
abbrev s_Pot_put : Stmt := clsAt (top 39) 6
theorem sc_Pot_put : FnScope ["self", "number"] ["self", "number"] (defScope s_Pot_put) := ⟨rfl, rfl, rfl, by decide +kernel, rfl, by decide +kernel, by decide +kernel⟩
abbrev s_Pot_meet : Stmt := clsAt (top 39) 7
theorem sc_Pot_meet : FnScope ["self", "i", "j"] ["self", "i", "j"] (defScope s_Pot_meet) := ⟨rfl, rfl, rfl, by decide +kernel, rfl, by decide +kernel, by decide +kernel⟩
abbrev s_Pot_undo : Stmt := clsAt (top 39) 10
theorem sc_Pot_undo : FnScope ["self"] ["self"] (defScope s_Pot_undo) := ⟨rfl, rfl, rfl, by decide +kernel, rfl, by decide +kernel, by decide +kernel⟩
abbrev s_PotX_lenX : Stmt := clsAt (top 39) 12
theorem sc_PotX_lenX : FnScope ["self"] ["self"] (defScope s_PotX_lenX) := ⟨rfl, rfl, rfl, by decide +kernel, rfl, by decide +kernel, by decide +kernel⟩
abbrev s_PotX_reprX : Stmt := clsAt (top 39) 13
theorem sc_PotX_reprX : FnScope ["self"] ["self"] (defScope s_PotX_reprX) := ⟨rfl, rfl, rfl, by decide +kernel, rfl, by decide +kernel, by decide +kernel⟩
abbrev s_law_bin : Stmt := top 41
theorem sc_law_bin : FnScope ["script", "turn", "state", "each", "own"] ["script", "turn"] (defScope s_law_bin) := ⟨rfl, rfl, rfl, by decide +kernel, rfl, by decide +kernel, by decide +kernel⟩
abbrev s_law_nip : Stmt := top 42
theorem sc_law_nip : FnScope ["bin_here", "size", "digit"] ["bin_here", "size"] (defScope s_law_nip) := ⟨rfl, rfl, rfl, by decide +kernel, rfl, by decide +kernel, by decide +kernel⟩
abbrev s_law_pick : Stmt := top 43
theorem sc_law_pick : FnScope ["bin_here", "some"] ["bin_here", "some"] (defScope s_law_pick) := ⟨rfl, rfl, rfl, by decide +kernel, rfl, by decide +kernel, by decide +kernel⟩
abbrev s_law_mix : Stmt := top 44
theorem sc_law_mix : FnScope ["bin_here", "most", "count_here", "top", "starts_here", "table_here", "turn", "gift"] ["bin_here", "most"] (defScope s_law_mix) := ⟨rfl, rfl, rfl, by decide +kernel, rfl, by decide +kernel, by decide +kernel⟩
abbrev s_law_made : Stmt := top 45
theorem sc_law_made : FnScope ["mix"] ["mix"] (defScope s_law_made) := ⟨rfl, rfl, rfl, by decide +kernel, rfl, by decide +kernel, by decide +kernel⟩
abbrev s_law_entries : Stmt := top 46
theorem sc_law_entries : FnScope ["mix", "found", "at", "a", "b"] ["mix"] (defScope s_law_entries) := ⟨rfl, rfl, rfl, by decide +kernel, rfl, by decide +kernel, by decide +kernel⟩
abbrev s_law_is_in : Stmt := top 47
theorem sc_law_is_in : FnScope ["thing", "least", "top"] ["thing", "least", "top"] (defScope s_law_is_in) := ⟨rfl, rfl, rfl, by decide +kernel, rfl, by decide +kernel, by decide +kernel⟩
abbrev s_law_after : Stmt := top 48
theorem sc_law_after : FnScope ["mix", "states", "deed", "kinds_here", "given_here", "amounts_here", "kind", "gift", "at", "fresh", "a", "b", "left"] ["mix", "states", "deed"] (defScope s_law_after) := ⟨rfl, rfl, rfl, by decide +kernel, rfl, by decide +kernel, by decide +kernel⟩
abbrev s_law_begun : Stmt := top 49
theorem sc_law_begun : FnScope ["mix"] ["mix"] (defScope s_law_begun) := ⟨rfl, rfl, rfl, by decide +kernel, rfl, by decide +kernel, by decide +kernel⟩
abbrev s_law_shows : Stmt := top 50
theorem sc_law_shows : FnScope ["pot_here", "states", "kinds_here", "given_here", "amounts_here", "told", "spelled", "due"] ["pot_here", "states"] (defScope s_law_shows) := ⟨rfl, rfl, rfl, by decide +kernel, rfl, by decide +kernel, by decide +kernel⟩
abbrev s_law_do : Stmt := top 51
theorem sc_law_do : FnScope ["pot_here", "deed"] ["pot_here", "deed"] (defScope s_law_do) := ⟨rfl, rfl, rfl, by decide +kernel, rfl, by decide +kernel, by decide +kernel⟩
abbrev s_law_alike : Stmt := top 52
theorem sc_law_alike : FnScope ["told", "due"] ["told", "due"] (defScope s_law_alike) := ⟨rfl, rfl, rfl, by decide +kernel, rfl, by decide +kernel, by decide +kernel⟩
abbrev s_law_sort : Stmt := top 53
theorem sc_law_sort : FnScope ["e", "own", "bases", "kin", "at", "words"] ["e"] (defScope s_law_sort) := ⟨rfl, rfl, rfl, by decide +kernel, rfl, by decide +kernel, by decide +kernel⟩
abbrev s_law_caught : Stmt := top 54
theorem sc_law_caught : FnScope ["act_here", "back", "e"] ["act_here"] (defScope s_law_caught) := ⟨rfl, rfl, rfl, by decide +kernel, rfl, by decide +kernel, by decide +kernel⟩
abbrev s_law_deed : Stmt := top 55
theorem sc_law_deed : FnScope ["bin_here", "mix", "states", "size", "way", "a", "b"] ["bin_here", "mix", "states"] (defScope s_law_deed) := ⟨rfl, rfl, rfl, by decide +kernel, rfl, by decide +kernel, by decide +kernel⟩
abbrev s_law_right : Stmt := top 56
theorem sc_law_right : FnScope ["bin_here", "mix", "states", "turn", "due", "deed", "pot_here"] ["bin_here"] (defScope s_law_right) := ⟨rfl, rfl, rfl, by decide +kernel, rfl, by decide +kernel, by decide +kernel⟩
abbrev s_law : Stmt := top 57
theorem sc_law : FnScope ["script", "turn"] ["script"] (defScope s_law) := ⟨rfl, rfl, rfl, by decide +kernel, rfl, by decide +kernel, by decide +kernel⟩
-- facts
abbrev s_TooManyX_initX : Stmt := clsAt (top 17) 0
abbrev s_InvalidKindX_initX : Stmt := clsAt (top 9) 0
abbrev s_InvalidOrderX_initX : Stmt := clsAt (top 13) 0
def fn : List He.DefD := [⟨("is_between", none), "is_between", "is_between", defArgs s_is_between, defBody s_is_between, defScope s_is_between, [], []⟩,
  ⟨("is_entry", none), "is_entry", "is_entry", defArgs s_is_entry, defBody s_is_entry, defScope s_is_entry, [], []⟩,
  ⟨("wrong_entry", none), "wrong_entry", "wrong_entry", defArgs s_wrong_entry, defBody s_wrong_entry, defScope s_wrong_entry, [], []⟩,
  ⟨("check_starts", none), "check_starts", "check_starts", defArgs s_check_starts, defBody s_check_starts, defScope s_check_starts, [], []⟩,
  ⟨("check_table", none), "check_table", "check_table", defArgs s_check_table, defBody s_check_table, defScope s_check_table, [], []⟩,
  ⟨("place_in_table", none), "place_in_table", "place_in_table", defArgs s_place_in_table, defBody s_place_in_table, defScope s_place_in_table, [], []⟩,
  ⟨("arising", none), "arising", "arising", defArgs s_arising, defBody s_arising, defScope s_arising, [], []⟩,
  ⟨("Mixture", some "__init__"), "__init__", "Mixture.__init__", defArgs s_MixtureX_initX, defBody s_MixtureX_initX, defScope s_MixtureX_initX, [], []⟩,
  ⟨("Mixture", some "met"), "met", "Mixture.met", defArgs s_Mixture_met, defBody s_Mixture_met, defScope s_Mixture_met, [], []⟩,
  ⟨("check_mixture", none), "check_mixture", "check_mixture", defArgs s_check_mixture, defBody s_check_mixture, defScope s_check_mixture, [], []⟩,
  ⟨("is_pair_of_places", none), "is_pair_of_places", "is_pair_of_places", defArgs s_is_pair_of_places, defBody s_is_pair_of_places, defScope s_is_pair_of_places, [], []⟩,
  ⟨("joined", none), "joined", "joined", defArgs s_joined, defBody s_joined, defScope s_joined, [], []⟩,
  ⟨("Pot", some "__init__"), "__init__", "Pot.__init__", defArgs s_PotX_initX, defBody s_PotX_initX, defScope s_PotX_initX, [], []⟩,
  ⟨("Pot", some "become"), "become", "Pot.become", defArgs s_Pot_become, defBody s_Pot_become, defScope s_Pot_become, [], []⟩,
  ⟨("Pot", some "check_idle"), "check_idle", "Pot.check_idle", defArgs s_Pot_check_idle, defBody s_Pot_check_idle, defScope s_Pot_check_idle, [], []⟩,
  ⟨("Pot", some "check_room"), "check_room", "Pot.check_room", defArgs s_Pot_check_room, defBody s_Pot_check_room, defScope s_Pot_check_room, [], []⟩,
  ⟨("Pot", some "put_in"), "put_in", "Pot.put_in", defArgs s_Pot_put_in, defBody s_Pot_put_in, defScope s_Pot_put_in, [], []⟩,
  ⟨("Pot", some "let_meet"), "let_meet", "Pot.let_meet", defArgs s_Pot_let_meet, defBody s_Pot_let_meet, defScope s_Pot_let_meet, [], []⟩,
  ⟨("Pot", some "put"), "put", "Pot.put", defArgs s_Pot_put, defBody s_Pot_put, defScope s_Pot_put, [], []⟩,
  ⟨("Pot", some "meet"), "meet", "Pot.meet", defArgs s_Pot_meet, defBody s_Pot_meet, defScope s_Pot_meet, [], []⟩,
  ⟨("Pot", some "undo"), "undo", "Pot.undo", defArgs s_Pot_undo, defBody s_Pot_undo, defScope s_Pot_undo, [], []⟩,
  ⟨("Pot", some "__len__"), "__len__", "Pot.__len__", defArgs s_PotX_lenX, defBody s_PotX_lenX, defScope s_PotX_lenX, [], []⟩,
  ⟨("Pot", some "__repr__"), "__repr__", "Pot.__repr__", defArgs s_PotX_reprX, defBody s_PotX_reprX, defScope s_PotX_reprX, [], []⟩,
  ⟨("_law_bin", none), "_law_bin", "_law_bin", defArgs s_law_bin, defBody s_law_bin, defScope s_law_bin, [], []⟩,
  ⟨("_law_nip", none), "_law_nip", "_law_nip", defArgs s_law_nip, defBody s_law_nip, defScope s_law_nip, [], []⟩,
  ⟨("_law_pick", none), "_law_pick", "_law_pick", defArgs s_law_pick, defBody s_law_pick, defScope s_law_pick, [], []⟩,
  ⟨("_law_mix", none), "_law_mix", "_law_mix", defArgs s_law_mix, defBody s_law_mix, defScope s_law_mix, [], []⟩,
  ⟨("_law_made", none), "_law_made", "_law_made", defArgs s_law_made, defBody s_law_made, defScope s_law_made, [], []⟩,
  ⟨("_law_entries", none), "_law_entries", "_law_entries", defArgs s_law_entries, defBody s_law_entries, defScope s_law_entries, [], []⟩,
  ⟨("_law_is_in", none), "_law_is_in", "_law_is_in", defArgs s_law_is_in, defBody s_law_is_in, defScope s_law_is_in, [], []⟩,
  ⟨("_law_after", none), "_law_after", "_law_after", defArgs s_law_after, defBody s_law_after, defScope s_law_after, [], []⟩,
  ⟨("_law_begun", none), "_law_begun", "_law_begun", defArgs s_law_begun, defBody s_law_begun, defScope s_law_begun, [], []⟩,
  ⟨("_law_shows", none), "_law_shows", "_law_shows", defArgs s_law_shows, defBody s_law_shows, defScope s_law_shows, [], []⟩,
  ⟨("_law_do", none), "_law_do", "_law_do", defArgs s_law_do, defBody s_law_do, defScope s_law_do, [], []⟩,
  ⟨("_law_alike", none), "_law_alike", "_law_alike", defArgs s_law_alike, defBody s_law_alike, defScope s_law_alike, [], []⟩,
  ⟨("_law_sort", none), "_law_sort", "_law_sort", defArgs s_law_sort, defBody s_law_sort, defScope s_law_sort, [], []⟩,
  ⟨("_law_caught", none), "_law_caught", "_law_caught", defArgs s_law_caught, defBody s_law_caught, defScope s_law_caught, [], []⟩,
  ⟨("_law_deed", none), "_law_deed", "_law_deed", defArgs s_law_deed, defBody s_law_deed, defScope s_law_deed, [], []⟩,
  ⟨("_law_right", none), "_law_right", "_law_right", defArgs s_law_right, defBody s_law_right, defScope s_law_right, [], []⟩,
  ⟨("law", none), "law", "law", defArgs s_law, defBody s_law, defScope s_law, [], []⟩,
  ⟨("TooMany", some "__init__"), "__init__", "TooMany.__init__", defArgs s_TooManyX_initX, defBody s_TooManyX_initX, defScope s_TooManyX_initX, [], []⟩,
  ⟨("InvalidKind", some "__init__"), "__init__", "InvalidKind.__init__", defArgs s_InvalidKindX_initX, defBody s_InvalidKindX_initX, defScope s_InvalidKindX_initX, [], []⟩,
  ⟨("InvalidOrder", some "__init__"), "__init__", "InvalidOrder.__init__", defArgs s_InvalidOrderX_initX, defBody s_InvalidOrderX_initX, defScope s_InvalidOrderX_initX, [], []⟩]
def fa : List He.Fa := [.free "isinstance", .free "int", .free "bool", .free "tuple", .free "len", .int "MOST_GIFT" 1000000, .free "enumerate", .int "MOST_INPUTS" 3, .free "max", .free "min", .free "sorted", .free "set", .free "list", .int "MOST_KINDS" 8, .cls "Mixture", .noat "Mixture" "count", .noat "Mixture" "starts", .noat "Mixture" "table", .noat "Mixture" "told", .noat "Mixture" "kinds", .glo "Mixture", .meth "Mixture" "met", .cls "Pot", .noat "Pot" "mixture", .noat "Pot" "kinds", .noat "Pot" "given", .noat "Pot" "amounts", .noat "Pot" "past", .noat "Pot" "busy", .int "MOST_DEEDS" 60, .meth "Pot" "check_room", .meth "Pot" "become", .meth "Pot" "check_idle", .meth "Pot" "put_in", .meth "Pot" "let_meet", .free "abs", .free "divmod", .free "range", .mkr "Mixture", .free "repr", .meth "Pot" "__repr__", .meth "Pot" "__len__", .noat "Pot" "__bool__", .free "str", .meth "Pot" "undo", .meth "Pot" "put", .meth "Pot" "meet", .glo "InvalidKind", .glo "NotAPot", .glo "NotAPattern", .glo "NotAMixture", .glo "InvalidDeeds", .glo "InvalidOrder", .glo "InvalidLine", .glo "TooMany", .glo "Busy", .glo "NothingToUndo", .glo "SizeError", .glo "StateError", .glo "InputError", .free "ArithmeticError", .free "LookupError", .free "ValueError", .mkr "Pot", .glo "Pot", .free "all", .glo "is_between", .glo "is_entry", .glo "wrong_entry", .glo "check_starts", .glo "check_table", .glo "place_in_table", .glo "arising", .glo "check_mixture", .glo "is_pair_of_places", .glo "joined", .glo "_law_bin", .glo "_law_nip", .glo "_law_pick", .glo "_law_mix", .glo "_law_made", .glo "_law_entries", .glo "_law_is_in", .glo "_law_after", .glo "_law_begun", .glo "_law_shows", .glo "_law_do", .glo "_law_alike", .glo "_law_sort", .glo "_law_caught", .glo "_law_deed", .glo "_law_right", .glo "law"]

abbrev tfs : List (He.Defn × (Nat → Nat → Str)) := [(("_law_right", none), fun _ _ => "_law_right.<locals>.<lambda>")]
/-! ### what the head asks of K beside the facts -/
def insB (K : PySem.W.Frag) (x : Str) : Bool := decide (PySem.W.findIn K (.ref (He.ga K x)) "__class__" = some (some (.builtin "object.__class__"))) && (decide (PySem.W.specialIn K (.builtin "object.__class__") "__get__" = some (some (.builtin "getset_descriptor.__get__"))) && (decide (PySem.W.takesIn K (.builtin "object.__class__") = some true) && decide (PySem.W.mroIn K (He.ga K x) (.type "object") = some true)))
theorem insB_ok {K : PySem.W.Frag} {x : Str} (c : Cls K (He.ga K x)) (h : insB K x = true) : InsTy K (He.ga K x) := by
  unfold insB at h
  simp only [Bool.and_eq_true, decide_eq_true_eq] at h
  exact ⟨c, h.1, h.2.1, h.2.2.1, h.2.2.2⟩
def noLst (K : PySem.W.Frag) : Bool := K.all fun p => !(p.2.cls == .type "list")
theorem noLst_ok {K : PySem.W.Frag} (h : noLst K = true) (a : Addr) (o : Obj) (l : K.lookup a = some o) (c : o.cls = .type "list") : False := by
  have q := List.all_eq_true.mp h _ (He.lookup_mem l)
  simp only [c] at q
  exact absurd q (by decide)
def nmAt (l : List Str) (i : Nat) : Str := l.getD i ""
theorem nmAt_eq {l : List Str} {i : Nat} {x : Str} (h : l[i]? = some x) : nmAt l i = x := by unfold nmAt; rw [List.getD_eq_getElem?_getD, h]; rfl
def kitB10 (K : PySem.W.Frag) : Bool := (List.range 10).all fun i => (List.range 10).all fun j => decide (PySem.W.kitOne K (.ref (He.ga K (nmAt erNames i))) (.ref (He.ga K (nmAt erNames j))) = some (decide (i = j)))
def kitB3 (K : PySem.W.Frag) : Bool := (List.range 10).all fun i => (List.range 3).all fun j => decide (PySem.W.kitOne K (.ref (He.ga K (nmAt erNames i))) (.ref (He.ga K (nmAt bases j))) = some (decide (rootOf i = j)))
def kitK3 (K : PySem.W.Frag) : Bool := (List.range 10).all fun i => (List.range 3).all fun j => decide (PySem.W.kitOne K (.ref (He.ga K (nmAt erNames i))) (.type (kins.getD j "")) = some (decide (rootOf i = j)))
def exmB (K : PySem.W.Frag) : Bool := erNames.all fun x => decide (PySem.W.exmAny K (.ref (He.ga K x)) [.ref (He.ga K "InputError"), .ref (He.ga K "StateError"), .ref (He.ga K "SizeError")] = some true)
def nofB (K : PySem.W.Frag) : Bool := erNames.all fun x => (["value", "index", "limit"] : List Str).all fun f => decide (PySem.W.findIn K (.ref (He.ga K x)) f = some none)
def tpB (K : PySem.W.Frag) : Bool := insB K "Mixture" && (insB K "Pot" && ((erNames.all fun x => excCB K (He.ga K x)) && (kitB10 K && (kitB3 K && (kitK3 K && (exmB K && nofB K))))))
theorem lt_of_at {α : Type} {l : List α} {n i : Nat} {x : α} (hl : l.length = n) (h : l[i]? = some x) : i ∈ List.range n := List.mem_range.mpr (by rw [← hl]; exact (List.getElem?_eq_some_iff.mp h).1)
theorem tpB_ok {K : PySem.W.Frag} (c1 : Cls K (He.ga K "Mixture")) (c2 : Cls K (He.ga K "Pot")) (h : tpB K = true) : TP K := by
  unfold tpB at h
  simp only [Bool.and_eq_true] at h
  obtain ⟨h1, h2, h3, h4, h5, h6, h7, h8⟩ := h
  refine ⟨insB_ok c1 h1, insB_ok c2 h2, fun x hx => excCB_ok (List.all_eq_true.mp h3 x hx), fun i j x y hi hj => ?_, fun i j x y hi hj => ?_, fun i j x y hi hj => ?_, fun x hx => of_decide_eq_true (List.all_eq_true.mp h7 x hx), fun x hx f hf => of_decide_eq_true (List.all_eq_true.mp (List.all_eq_true.mp h8 x hx) f hf)⟩
  · have q := of_decide_eq_true (List.all_eq_true.mp (List.all_eq_true.mp h4 i (lt_of_at rfl hi)) j (lt_of_at rfl hj))
    rw [nmAt_eq hi, nmAt_eq hj] at q
    exact q
  · have q := of_decide_eq_true (List.all_eq_true.mp (List.all_eq_true.mp h5 i (lt_of_at rfl hi)) j (lt_of_at rfl hj))
    rw [nmAt_eq hi, nmAt_eq hj] at q
    exact q
  · have q := of_decide_eq_true (List.all_eq_true.mp (List.all_eq_true.mp h6 i (lt_of_at rfl hi)) j (lt_of_at rfl hj))
    rw [nmAt_eq hi, show kins.getD j "" = y by rw [List.getD_eq_getElem?_getD, hj]; rfl] at q
    exact q
def ex (K : PySem.W.Frag) : Bool := (noLst K && (tpB K && (decide (((tfs.map fun p => (He.cT K p.1).2)).Nodup) && (rsB K (He.ga K "Busy") && (PySem.W.excIn K (He.ga K "Busy") PySem.OwnX.leTail "LookupError.__new__" && (rsB K (He.ga K "TooMany") && (errB K "limit" PySem.OwnX.aeTail "ArithmeticError.__new__" (He.ga K "TooMany") (He.fAd K ("TooMany", some "__init__")) && (rsB K (He.ga K "InvalidKind") && (errB K "value" PySem.HandSPX.veTail "ValueError.__new__" (He.ga K "InvalidKind") (He.fAd K ("InvalidKind", some "__init__")) && (rsB K (He.ga K "InvalidOrder") && (errB K "index" PySem.HandSPX.veTail "ValueError.__new__" (He.ga K "InvalidOrder") (He.fAd K ("InvalidOrder", some "__init__")) && (rsB K (He.ga K "NothingToUndo") && PySem.W.excIn K (He.ga K "NothingToUndo") PySem.OwnX.leTail "LookupError.__new__"))))))))))))
def loose0 : List PySem.Str := [("_wall" : PySem.Str), ("InputError" : PySem.Str), ("StateError" : PySem.Str), ("SizeError" : PySem.Str), ("NotAMixture" : PySem.Str), ("NotAPattern" : PySem.Str), ("NotAPot" : PySem.Str), ("InvalidCount" : PySem.Str), ("InvalidKind" : PySem.Str), ("InvalidLine" : PySem.Str), ("InvalidStarts" : PySem.Str), ("InvalidTable" : PySem.Str)]
def loose1 : List PySem.Str := [("InvalidOrder" : PySem.Str), ("InvalidDeeds" : PySem.Str), ("NothingToUndo" : PySem.Str), ("Busy" : PySem.Str), ("TooMany" : PySem.Str), ("MOST_KINDS" : PySem.Str), ("MOST_INPUTS" : PySem.Str), ("MOST_GIFT" : PySem.Str), ("MOST_DEEDS" : PySem.Str), ("is_between" : PySem.Str), ("is_entry" : PySem.Str), ("wrong_entry" : PySem.Str)]
def loose2 : List PySem.Str := [("check_starts" : PySem.Str), ("check_table" : PySem.Str), ("place_in_table" : PySem.Str), ("arising" : PySem.Str), ("Mixture" : PySem.Str), ("check_mixture" : PySem.Str), ("is_pair_of_places" : PySem.Str), ("joined" : PySem.Str), ("Mark" : PySem.Str), ("Together" : PySem.Str), ("is_deed" : PySem.Str), ("Pot" : PySem.Str)]
def loose3 : List PySem.Str := [("_law_bin" : PySem.Str), ("_law_nip" : PySem.Str), ("_law_pick" : PySem.Str), ("_law_mix" : PySem.Str), ("_law_made" : PySem.Str), ("_law_entries" : PySem.Str), ("_law_is_in" : PySem.Str), ("_law_after" : PySem.Str), ("_law_begun" : PySem.Str), ("_law_shows" : PySem.Str), ("_law_do" : PySem.Str), ("_law_alike" : PySem.Str)]
def loose4 : List PySem.Str := [("_law_sort" : PySem.Str), ("_law_caught" : PySem.Str), ("_law_deed" : PySem.Str), ("_law_right" : PySem.Str)]
def loose : List PySem.Str := loose0 ++ loose1 ++ loose2 ++ loose3 ++ loose4
abbrev tfD : List He.Defn := [("_law_right", none)]
abbrev R : PySem.W.OpenRow := PySem.W.OpenLaw.row PySem.Challenge.rw_givenonce_k67_whole_pots_through_deeds
abbrev hk : PySem.W.Hook := He.hookX 4 fa fn [] tfD ex
def ob (s : PySem.W.SharedT) : He.AlX := He.obsX 4 fa fn [] tfD ex (HandSHeadRun.getT s)
theorem ob_eq (s : PySem.W.SharedT) : ob s = hk.obs s.abs := He.obsX_eq (HandSHeadRun.getT_eq s)
theorem run (w : World) : HandSHeadRun.RunEq R (PySem.W.view R.prog [57]) hk ob 9000 loose w := by
  intro os
  kernel_rfl
structure TX [Tb] (K : PySem.W.Frag) (mg : Str → Option Value) (base : Heap) : Prop where
  tp : TP K
  tbf : TbF K mg base tfs
  says : He.SaysD fa fn K
  lo_Busy : Err0 K mg "LookupError" "LookupError.__new__" "LookupError.__init__" PySem.OwnX.leTail "Busy" (He.ga K "Busy")
  lo_TooMany : PySem.OwnXlimit.LowTxt K mg "ArithmeticError" "ArithmeticError.__new__" "ArithmeticError.__init__" PySem.OwnX.aeTail "TooMany" "TooMany.__init__" (He.ga K "TooMany") (He.fAd K ("TooMany", some "__init__"))
  lo_InvalidKind : PySem.OwnXvalue.LowTxt K mg "ValueError" "ValueError.__new__" "ValueError.__init__" PySem.HandSPX.veTail "InvalidKind" "InvalidKind.__init__" (He.ga K "InvalidKind") (He.fAd K ("InvalidKind", some "__init__"))
  lo_InvalidOrder : PySem.OwnXindex.LowTxt K mg "ValueError" "ValueError.__new__" "ValueError.__init__" PySem.HandSPX.veTail "InvalidOrder" "InvalidOrder.__init__" (He.ga K "InvalidOrder") (He.fAd K ("InvalidOrder", some "__init__"))
  lo_NothingToUndo : Err0 K mg "LookupError" "LookupError.__new__" "LookupError.__init__" PySem.OwnX.leTail "NothingToUndo" (He.ga K "NothingToUndo")
  glo : ∀ (i : Nat) {x : Str}, fa[i]? = some (.glo x) → mg x = some (.ref (He.ga K x))
  free : ∀ (i : Nat) {x : Str}, fa[i]? = some (.free x) → mg x = none
  int : ∀ (i : Nat) {x : Str} {j : Int}, fa[i]? = some (.int x j) → ∃ t, mg x = some (.int j t)
  str : ∀ (i : Nat) {x z : Str}, fa[i]? = some (.str x z) → ∃ t, mg x = some (.str z t)
  mtc : ∀ (i : Nat) {x m : Str}, fa[i]? = some (.meth x m) → Meth K (He.ga K x) m (He.ma K (He.ga K x) m)
  cl : ∀ (i : Nat) {x : Str}, fa[i]? = some (.cls x) → Cls K (He.ga K x)
  mkc : ∀ (i : Nat) {x : Str}, fa[i]? = some (.mkr x) → Mk K (He.ga K x) (He.ma K (He.ga K x) "__init__")
  no : ∀ (i : Nat) {x f : Str}, fa[i]? = some (.noat x f) → NoAttr K (He.ga K x) f
variable [Tb]

omit [Tb] in
theorem ex_parts {K : PySem.W.Frag} (e : ex K = true) : noLst K = true ∧ tpB K = true ∧ ((tfs.map fun p => (He.cT K p.1).2)).Nodup ∧ rsB K (He.ga K "Busy") = true ∧ PySem.W.excIn K (He.ga K "Busy") PySem.OwnX.leTail "LookupError.__new__" = true ∧ rsB K (He.ga K "TooMany") = true ∧ errB K "limit" PySem.OwnX.aeTail "ArithmeticError.__new__" (He.ga K "TooMany") (He.fAd K ("TooMany", some "__init__")) = true ∧ rsB K (He.ga K "InvalidKind") = true ∧ errB K "value" PySem.HandSPX.veTail "ValueError.__new__" (He.ga K "InvalidKind") (He.fAd K ("InvalidKind", some "__init__")) = true ∧ rsB K (He.ga K "InvalidOrder") = true ∧ errB K "index" PySem.HandSPX.veTail "ValueError.__new__" (He.ga K "InvalidOrder") (He.fAd K ("InvalidOrder", some "__init__")) = true ∧ rsB K (He.ga K "NothingToUndo") = true ∧ PySem.W.excIn K (He.ga K "NothingToUndo") PySem.OwnX.leTail "LookupError.__new__" = true := by
  unfold ex at e
  simp only [Bool.and_eq_true, decide_eq_true_eq] at e
  exact e
omit [Tb] in
theorem tx_of {K : PySem.W.Frag} {h base : Heap} {mg : Str → Option Value} (X : K.In h) (G : h.Ns mainGlobals mg) (c : He.SaysD fa fn K) (e : ex K = true) (TB : ∀ p ∈ tfs, LamX.TabB base mg (He.cT K p.1).1 (He.cT K p.1).2) : @TX ⟨tabsOf K tfs⟩ K mg base := by
  obtain ⟨eN, eT, eD, e0r, e0f, e1r, e1f, e2r, e2f, e3r, e3f, e4r, e4f⟩ := ex_parts e
  letI : Tb := ⟨tabsOf K tfs⟩
  exact ⟨tpB_ok (He.cls_ok (c.fact 14 (f := .cls "Mixture") rfl)) (He.cls_ok (c.fact 22 (f := .cls "Pot") rfl)) eT, ⟨rfl, TB, eD⟩, c, ⟨F.excBase_LookupError, e0f, He.glo_ok X G (c.fact 55 (f := .glo "Busy") rfl), rsB_ok e0r⟩,
    (by
    obtain ⟨fdI, FI⟩ := c.def_ 40 rfl
    exact low_limit F.excBase_ArithmeticError PySem.OwnX.tail_ae (He.glo_ok X G (c.fact 54 (f := .glo "TooMany") rfl)) (errB_ok e1f) (rsB_ok e1r) FI),
    (by
    obtain ⟨fdI, FI⟩ := c.def_ 41 rfl
    exact low_value F.excBase_ValueError PySem.OwnX.tail_ve (He.glo_ok X G (c.fact 47 (f := .glo "InvalidKind") rfl)) (errB_ok e2f) (rsB_ok e2r) FI),
    (by
    obtain ⟨fdI, FI⟩ := c.def_ 42 rfl
    exact low_index F.excBase_ValueError PySem.OwnX.tail_ve (He.glo_ok X G (c.fact 52 (f := .glo "InvalidOrder") rfl)) (errB_ok e3f) (rsB_ok e3r) FI),
    ⟨F.excBase_LookupError, e4f, He.glo_ok X G (c.fact 56 (f := .glo "NothingToUndo") rfl), rsB_ok e4r⟩, fun i x h => He.glo_ok X G (c.fact i h), fun i x h => He.free_ok X G (c.fact i h), fun i x j h => He.int_ok X G (c.fact i h), fun i x z h => He.str_ok X G (c.fact i h), fun i x m h => He.meth_ok (c.fact i h), fun i x h => He.cls_ok (c.fact i h), fun i x h => He.mkr_ok (c.fact i h), fun i x f h => He.noat_ok (c.fact i h)⟩
theorem ok_is_between {P : Program} {w : World} {K : PySem.W.Frag} {mg : Str → Option Value} {base : Heap} (T : TX K mg base) : OkF P w K mg base 1 "is_between" (He.fAd K ("is_between", none)) ["value", "low", "high"] (sp_is_between K) := by
  obtain ⟨fd, F⟩ := T.says.def_ 0 (d := ⟨("is_between", none), "is_between", "is_between", defArgs s_is_between, defBody s_is_between, defScope s_is_between, [], []⟩) rfl
  have bd : Binds K fd ["value", "low", "high"] [] := FunD.bindsN F fun _ _ _ _ _ _ us hl => match us, hl with | [_, _, _], _ => rfl
  refine ⟨fd, fn_d (wb := wb_is_between K) F sc_is_between (fun cdv A outer s H E hr tk => ?_) (pure_is_between T.tp), ⟨fun _ => T.glo 66 rfl, F.kp, bd⟩⟩
  have h := (show PDSs (defX P w K mg base ["value", "low", "high"] "is_between" (defScope s_is_between) (He.fAd K ("is_between", none)) cdv A outer s H E) (fun cls d _ H => E cls d H) (defBody s_is_between) _ from (pds_one (pds_ret (pd_and (pd_callB call_isi calll_isi (by rfl) (T.free 0 rfl) (by rfl) (pda_cons (pd_var (pv 0)) (pda_cons (pd_ty (by rfl) (T.free 1 rfl) (by rfl)) pda_nil))) (pd_and (pd_not (pd_callB call_isi calll_isi (by rfl) (T.free 0 rfl) (by rfl) (pda_cons (pd_var (pv 0)) (pda_cons (pd_ty (by rfl) (T.free 2 rfl) (by rfl)) pda_nil)))) (pd_one (pd_chain op_le op_le (opc_rI0 fun _ _ _ => mk_bl) (opc_rI0 fun _ _ _ => mk_bl) (pd_var (pv 1)) (pd_var (pv 0)) (pd_var (pv 2)))))))))
  exact h
theorem ok_is_entry {P : Program} {w : World} {K : PySem.W.Frag} {mg : Str → Option Value} {base : Heap} (T : TX K mg base) : OkF P w K mg base 2 "is_entry" (He.fAd K ("is_entry", none)) ["value", "count"] (sp_is_entry K) := by
  obtain ⟨fd_is_between, F_is_between, O_is_between⟩ := ok_is_between (P := P) (w := w) T
  obtain ⟨fd, F⟩ := T.says.def_ 1 (d := ⟨("is_entry", none), "is_entry", "is_entry", defArgs s_is_entry, defBody s_is_entry, defScope s_is_entry, [], []⟩) rfl
  have bd : Binds K fd ["value", "count"] [] := FunD.bindsN F fun _ _ _ _ _ _ us hl => match us, hl with | [_, _], _ => rfl
  refine ⟨fd, fn_d (wb := wb_is_entry K) F sc_is_entry (fun cdv A outer s H E hr tk => ?_) (pure_is_entry T.tp), ⟨fun _ => T.glo 67 rfl, F.kp, bd⟩⟩
  have h := (show PDSs (defX P w K mg base ["value", "count"] "is_entry" (defScope s_is_entry) (He.fAd K ("is_entry", none)) cdv A outer s H E) (fun cls d _ H => E cls d H) (defBody s_is_entry) _ from (pds_cons (pds_if (pdt_w (pdw_or (pdt_not (pdt_val (pd_callB call_isi calll_isi (by rfl) (T.free 0 rfl) (by rfl) (pda_cons (pd_var (pv 0)) (pda_cons (pd_ty (by rfl) (T.free 3 rfl) (by rfl)) pda_nil))))) (pdw_or1 (pdt_cmp (op_neX (hu64 hr)) opl_ne (pd_callB call_len calll_len (by rfl) (T.free 4 rfl) (by rfl) (pda_cons (pd_var (pv 0)) pda_nil)) pd_int (nomark _))))) (pds_one (pds_ret pd_bl)) pds_nil)
      (pds_one (pds_ret (pd_and (pd_call F_is_between (hr.mono (by decide)) tk (by rfl) (O_is_between.mg (by decide)) O_is_between.kp O_is_between.bd (pda_cons (pd_ix ix_seq opl_ix (pd_var (pv 0)) pd_int) (pda_cons pd_int (pda_cons (pd_op op_sub (opl_rI0 fun _ _ _ => mk_int) (pd_var (pv 1)) pd_int) pda_nil)))) (pd_one (pd_call F_is_between (hr.mono (by decide)) tk (by rfl) (O_is_between.mg (by decide)) O_is_between.kp O_is_between.bd (pda_cons (pd_ix ix_seq opl_ix (pd_var (pv 0)) pd_int) (pda_cons pd_int (pda_cons (pd_gint (by rfl) (T.int 5 rfl)) pda_nil))))))))))
  exact h
theorem ok_wrong_entry {P : Program} {w : World} {K : PySem.W.Frag} {mg : Str → Option Value} {base : Heap} (T : TX K mg base) : OkF P w K mg base 3 "wrong_entry" (He.fAd K ("wrong_entry", none)) ["entries", "count"] (sp_wrong_entry K) := by
  obtain ⟨fd_is_entry, F_is_entry, O_is_entry⟩ := ok_is_entry (P := P) (w := w) T
  obtain ⟨fd, F⟩ := T.says.def_ 2 (d := ⟨("wrong_entry", none), "wrong_entry", "wrong_entry", defArgs s_wrong_entry, defBody s_wrong_entry, defScope s_wrong_entry, [], []⟩) rfl
  have bd : Binds K fd ["entries", "count"] [] := FunD.bindsN F fun _ _ _ _ _ _ us hl => match us, hl with | [_, _], _ => rfl
  refine ⟨fd, fn_d (wb := wb_wrong_entry K) F sc_wrong_entry (fun cdv A outer s H E hr tk => ?_) (pure_wrong_entry T.tp), ⟨fun _ => T.glo 68 rfl, F.kp, bd⟩⟩
  have h := (show PDSs (defX P w K mg base ["entries", "count", "index", "entry"] "wrong_entry" (defScope s_wrong_entry) (He.fAd K ("wrong_entry", none)) cdv A outer s H E) (fun cls d _ H => E cls d H) (defBody s_wrong_entry) _ from (pds_cons (pds_forE (passes_of (by rfl)) (by rfl) (by rfl) (T.free 6 rfl) (pda_cons (pd_var (pv 0)) pda_nil) (pdg_tup (by rfl) (pdgs_cons (pdg_name (i := 2) sc_wrong_entry.nd (by rfl) (by first | exact .inl rfl | exact .inr rfl)) (pdgs_cons (pdg_name (i := 3) sc_wrong_entry.nd (by rfl) (by first | exact .inl rfl | exact .inr rfl)) pdgs_nil))) (pds_one (pds_if (pdt_not (pdt_val (pd_call F_is_entry (hr.mono (by decide)) tk (by rfl) (O_is_entry.mg (by decide)) O_is_entry.kp O_is_entry.bd (pda_cons (pd_var (pv 3)) (pda_cons (pd_var (pv 1)) pda_nil))))) (pds_one (pds_ret (pd_var (pv 2)))) pds_nil)))
      (pds_one (pds_ret pd_non))))
  exact h
theorem ok_check_starts {P : Program} {w : World} {K : PySem.W.Frag} {mg : Str → Option Value} {base : Heap} (T : TX K mg base) : OkF P w K mg base 4 "check_starts" (He.fAd K ("check_starts", none)) ["value", "count"] (sp_check_starts K) := by
  obtain ⟨fd_wrong_entry, F_wrong_entry, O_wrong_entry⟩ := ok_wrong_entry (P := P) (w := w) T
  obtain ⟨fd, F⟩ := T.says.def_ 3 (d := ⟨("check_starts", none), "check_starts", "check_starts", defArgs s_check_starts, defBody s_check_starts, defScope s_check_starts, [], []⟩) rfl
  have bd : Binds K fd ["value", "count"] [] := FunD.bindsN F fun _ _ _ _ _ _ us hl => match us, hl with | [_, _], _ => rfl
  refine ⟨fd, fn_d (wb := wb_check_starts K) F sc_check_starts (fun cdv A outer s H E hr tk => ?_) (pure_check_starts T.tp), ⟨fun _ => T.glo 69 rfl, F.kp, bd⟩⟩
  have h := (show PDSs (defX P w K mg base ["value", "count", "index"] "check_starts" (defScope s_check_starts) (He.fAd K ("check_starts", none)) cdv A outer s H E) (fun cls d _ H => E cls d H) (defBody s_check_starts) _ from (pds_cons (pds_if (pdt_w (pdw_or (pdt_not (pdt_val (pd_callB call_isi calll_isi (by rfl) (T.free 0 rfl) (by rfl) (pda_cons (pd_var (pv 0)) (pda_cons (pd_ty (by rfl) (T.free 3 rfl) (by rfl)) pda_nil))))) (pdw_or1 (pdt_not (pdt_chain op_le op_le (opc_rI0 fun _ _ _ => mk_bl) (opc_rI0 fun _ _ _ => mk_bl) pd_int (pd_callB call_len calll_len (by rfl) (T.free 4 rfl) (by rfl) (pda_cons (pd_var (pv 0)) pda_nil)) (pd_gint (by rfl) (T.int 7 rfl))))))) (pds_one pds_never) pds_nil)
      (pds_cons (pds_set (i := 2) sc_check_starts.nd (by rfl) (by first | exact .inl rfl | exact .inr rfl) (pd_call F_wrong_entry (hr.mono (by decide)) tk (by rfl) (O_wrong_entry.mg (by decide)) O_wrong_entry.kp O_wrong_entry.bd (pda_cons (pd_var (pv 0)) (pda_cons (pd_var (pv 1)) pda_nil))))
      (pds_one (pds_if (pdt_cmp op_notN opl_notN (pd_var (pv 2)) pd_non (nomark _)) (pds_one pds_never) pds_nil)))))
  exact h
theorem ok_check_table {P : Program} {w : World} {K : PySem.W.Frag} {mg : Str → Option Value} {base : Heap} (T : TX K mg base) : OkF P w K mg base 4 "check_table" (He.fAd K ("check_table", none)) ["value", "count", "size"] (sp_check_table K) := by
  obtain ⟨fd_wrong_entry, F_wrong_entry, O_wrong_entry⟩ := ok_wrong_entry (P := P) (w := w) T
  obtain ⟨fd, F⟩ := T.says.def_ 4 (d := ⟨("check_table", none), "check_table", "check_table", defArgs s_check_table, defBody s_check_table, defScope s_check_table, [], []⟩) rfl
  have bd : Binds K fd ["value", "count", "size"] [] := FunD.bindsN F fun _ _ _ _ _ _ us hl => match us, hl with | [_, _, _], _ => rfl
  refine ⟨fd, fn_d (wb := wb_check_table K) F sc_check_table (fun cdv A outer s H E hr tk => ?_) (pure_check_table T.tp), ⟨fun _ => T.glo 70 rfl, F.kp, bd⟩⟩
  have h := (show PDSs (defX P w K mg base ["value", "count", "size", "index"] "check_table" (defScope s_check_table) (He.fAd K ("check_table", none)) cdv A outer s H E) (fun cls d _ H => E cls d H) (defBody s_check_table) _ from (pds_cons (pds_if (pdt_w (pdw_or (pdt_not (pdt_val (pd_callB call_isi calll_isi (by rfl) (T.free 0 rfl) (by rfl) (pda_cons (pd_var (pv 0)) (pda_cons (pd_ty (by rfl) (T.free 3 rfl) (by rfl)) pda_nil))))) (pdw_or1 (pdt_cmp (op_neX (hu64 hr)) opl_ne (pd_callB call_len calll_len (by rfl) (T.free 4 rfl) (by rfl) (pda_cons (pd_var (pv 0)) pda_nil)) (pd_var (pv 2)) (nomark _))))) (pds_one pds_never) pds_nil)
      (pds_cons (pds_set (i := 3) sc_check_table.nd (by rfl) (by first | exact .inl rfl | exact .inr rfl) (pd_call F_wrong_entry (hr.mono (by decide)) tk (by rfl) (O_wrong_entry.mg (by decide)) O_wrong_entry.kp O_wrong_entry.bd (pda_cons (pd_var (pv 0)) (pda_cons (pd_var (pv 1)) pda_nil))))
      (pds_one (pds_if (pdt_cmp op_notN opl_notN (pd_var (pv 3)) pd_non (nomark _)) (pds_one pds_never) pds_nil)))))
  exact h
theorem ok_place_in_table {P : Program} {w : World} {K : PySem.W.Frag} {mg : Str → Option Value} {base : Heap} (T : TX K mg base) : OkF P w K mg base 1 "place_in_table" (He.fAd K ("place_in_table", none)) ["count", "one", "other"] (sp_place_in_table K) := by
  obtain ⟨fd, F⟩ := T.says.def_ 5 (d := ⟨("place_in_table", none), "place_in_table", "place_in_table", defArgs s_place_in_table, defBody s_place_in_table, defScope s_place_in_table, [], []⟩) rfl
  have bd : Binds K fd ["count", "one", "other"] [] := FunD.bindsN F fun _ _ _ _ _ _ us hl => match us, hl with | [_, _, _], _ => rfl
  refine ⟨fd, fn_d (wb := wb_place_in_table K) F sc_place_in_table (fun cdv A outer s H E hr tk => ?_) (pure_place_in_table T.tp), ⟨fun _ => T.glo 71 rfl, F.kp, bd⟩⟩
  have h := (show PDSs (defX P w K mg base ["count", "one", "other", "low", "high"] "place_in_table" (defScope s_place_in_table) (He.fAd K ("place_in_table", none)) cdv A outer s H E) (fun cls d _ H => E cls d H) (defBody s_place_in_table) _ from (pds_cons (PS.imp (ps_par (i := 3) (j := 4) (by rfl) sc_place_in_table.nd (by rfl) (by rfl) (by decide) (by rfl) (by rfl) (pda_cons (pd_callB (call_min2 (by rfl)) (calll_2I fun _ _ _ => mk_int) (by rfl) (T.free 9 rfl) (by rfl) (pda_cons (pd_var (pv 1)) (pda_cons (pd_var (pv 2)) pda_nil))) (pda_cons (pd_callB (call_max2 (by rfl)) (calll_2I fun _ _ _ => mk_int) (by rfl) (T.free 8 rfl) (by rfl) (pda_cons (pd_var (pv 1)) (pda_cons (pd_var (pv 2)) pda_nil))) pda_nil)) (by rfl)) fun _ _ _ h => wpar_imp h)
      (pds_one (pds_ret (pd_op op_sub (opl_rI0 fun _ _ _ => mk_int) (pd_op op_addX opl_add (pd_op op_sub (opl_rI0 fun _ _ _ => mk_int) (pd_op op_mulXX opl_mul (pd_var (pv 3)) (pd_var (pv 0))) (pd_op op_fdiv (opl_rI fun _ _ _ => mk_int) (pd_op op_mulXX opl_mul (pd_var (pv 3)) (pd_op op_sub (opl_rI0 fun _ _ _ => mk_int) (pd_var (pv 3)) pd_int)) pd_int)) (pd_var (pv 4))) (pd_var (pv 3)))))))
  exact h
theorem ok_arising {P : Program} {w : World} {K : PySem.W.Frag} {mg : Str → Option Value} {base : Heap} (T : TX K mg base) : OkF P w K mg base 2 "arising" (He.fAd K ("arising", none)) ["count", "starts", "table"] (sp_arising K) := by
  obtain ⟨fd_place_in_table, F_place_in_table, O_place_in_table⟩ := ok_place_in_table (P := P) (w := w) T
  obtain ⟨fd, F⟩ := T.says.def_ 6 (d := ⟨("arising", none), "arising", "arising", defArgs s_arising, defBody s_arising, defScope s_arising, [], []⟩) rfl
  have bd : Binds K fd ["count", "starts", "table"] [] := FunD.bindsN F fun _ _ _ _ _ _ us hl => match us, hl with | [_, _, _], _ => rfl
  refine ⟨fd, fn_d (wb := wb_arising K) F sc_arising (fun cdv A outer s H E hr tk => ?_) (pure_arising T.tp), ⟨fun _ => T.glo 72 rfl, F.kp, bd⟩⟩
  have h := (show PDSs (defX P w K mg base ["count", "starts", "table", "found", "before", "one", "fresh", "kind", "gift", "other"] "arising" (defScope s_arising) (He.fAd K ("arising", none)) cdv A outer s H E) (fun cls d _ H => E cls d H) (defBody s_arising) _ from (pds_cons (pds_set (i := 3) sc_arising.nd (by rfl) (by first | exact .inl rfl | exact .inr rfl) (pd_sortSet (by rfl) (by rfl) (T.free 10 rfl) (by rfl) (T.free 11 rfl) (pd_lcT (by rfl) sc_arising.nd (pd_var (pv 1)) (lcOk0 (own := [("kind", 7), ("gift", 8)]) (blkOk_by (by kernel_rfl)) (tgt2 (by decide) (by decide)) (fun _ _ _ _ _ => pg_tup (by rfl) (pgs_cons (pg_name (i := 7) sc_arising.nd (by rfl) (by first | exact .inl rfl | exact .inr rfl)) (pgs_cons (pg_name (i := 8) sc_arising.nd (by rfl) (by first | exact .inl rfl | exact .inr rfl)) pgs_nil))) (fun _ _ _ _ _ => (pd_var (pv 7)))))))
      (pds_cons (pds_set (i := 4) sc_arising.nd (by rfl) (by first | exact .inl rfl | exact .inr rfl) pd_int)
      (pds_cons (pds_while (passes_of (by rfl)) (pdt_cmp (op_neX (hu64 hr)) opl_ne (pd_var (pv 4)) (pd_callB call_len calll_len (by rfl) (T.free 4 rfl) (by rfl) (pda_cons (pd_var (pv 3)) pda_nil)) (nomark _)) (pds_cons (pds_set (i := 4) sc_arising.nd (by rfl) (by first | exact .inl rfl | exact .inr rfl) (pd_callB call_len calll_len (by rfl) (T.free 4 rfl) (by rfl) (pda_cons (pd_var (pv 3)) pda_nil)))
      (pds_one (pds_forL (passes_of (by rfl)) (by rfl) (pd_callT call_list_of calll_listOf (by rfl) (T.free 12 rfl) (by rfl) (pda_cons (pd_var (pv 3)) pda_nil)) (pdg_name (i := 5) sc_arising.nd (by rfl) (by first | exact .inl rfl | exact .inr rfl)) (pds_cons (pds_setLcL (by rfl) sc_arising.nd (i := 6) (by rfl) (by rfl) (by rfl) (pd_var (pv 3)) (lcOk0 (own := [("other", 9)]) (blkOk_by (by kernel_rfl)) (tgt1 (by decide)) (fun _ _ _ _ _ => pg_name (i := 9) sc_arising.nd (by rfl) (by first | exact .inl rfl | exact .inr rfl)) (fun _ _ _ _ _ => (pd_ix ix_seq opl_ix (pd_ix ix_seq opl_ix (pd_var (pv 2)) (pd_call F_place_in_table (hr.mono (by decide)) takes0 (by rfl) (O_place_in_table.mg (by decide)) O_place_in_table.kp O_place_in_table.bd (pda_cons (pd_var (pv 0)) (pda_cons (pd_var (pv 5)) (pda_cons (pd_var (pv 9)) pda_nil))))) pd_int))))
      (pds_one (pds_set (i := 3) sc_arising.nd (by rfl) (by first | exact .inl rfl | exact .inr rfl) (pd_sortSet (by rfl) (by rfl) (T.free 10 rfl) (by rfl) (T.free 11 rfl) (pd_op op_addX opl_add (pd_var (pv 3)) (pd_var (pv 6)))))))))))
      (pds_one (pds_ret (pd_callT call_tuple_of calll_tupOf (by rfl) (T.free 3 rfl) (by rfl) (pda_cons (pd_var (pv 3)) pda_nil))))))))
  exact h
theorem ok_MixtureX_initX {P : Program} {w : World} {K : PySem.W.Frag} {mg : Str → Option Value} {base : Heap} (T : TX K mg base) : OkF P w K mg base 5 "" (He.fAd K ("Mixture", some "__init__")) ["self", "count", "starts", "table"] (sp_MixtureX_initX K) := by
  obtain ⟨fd_is_between, F_is_between, O_is_between⟩ := ok_is_between (P := P) (w := w) T
  obtain ⟨fd_check_starts, F_check_starts, O_check_starts⟩ := ok_check_starts (P := P) (w := w) T
  obtain ⟨fd_check_table, F_check_table, O_check_table⟩ := ok_check_table (P := P) (w := w) T
  obtain ⟨fd_arising, F_arising, O_arising⟩ := ok_arising (P := P) (w := w) T
  obtain ⟨fd, F⟩ := T.says.def_ 7 (d := ⟨("Mixture", some "__init__"), "__init__", "Mixture.__init__", defArgs s_MixtureX_initX, defBody s_MixtureX_initX, defScope s_MixtureX_initX, [], []⟩) rfl
  have bd : Binds K fd ["self", "count", "starts", "table"] [] := FunD.bindsN F fun _ _ _ _ _ _ us hl => match us, hl with | [_, _, _, _], _ => rfl
  refine ⟨fd, fn_d (wb := wb_MixtureX_initX K) F sc_MixtureX_initX (fun cdv A outer s H E hr tk => ?_) (pure_MixtureX_initX T.tp), ⟨fun h => absurd rfl h, F.kp, bd⟩⟩
  have h := (show PDSs (defX P w K mg base ["self", "count", "starts", "table"] "Mixture.__init__" (defScope s_MixtureX_initX) (He.fAd K ("Mixture", some "__init__")) cdv A outer s H E) (fun cls d _ H => E cls d H) (defBody s_MixtureX_initX) _ from (pds_cons (pds_if (pdt_not (pdt_val (pd_call F_is_between (hr.mono (by decide)) tk (by rfl) (O_is_between.mg (by decide)) O_is_between.kp O_is_between.bd (pda_cons (pd_var (pv 1)) (pda_cons pd_int (pda_cons (pd_gint (by rfl) (T.int 13 rfl)) pda_nil)))))) (pds_one pds_never) pds_nil)
      (pds_cons (pds_expr (pd_call F_check_starts (hr.mono (by decide)) tk (by rfl) (O_check_starts.mg (by decide)) O_check_starts.kp O_check_starts.bd (pda_cons (pd_var (pv 2)) (pda_cons (pd_var (pv 1)) pda_nil))))
      (pds_cons (pds_expr (pd_call F_check_table (hr.mono (by decide)) tk (by rfl) (O_check_table.mg (by decide)) O_check_table.kp O_check_table.bd (pda_cons (pd_var (pv 3)) (pda_cons (pd_var (pv 1)) (pda_cons (pd_op op_fdiv (opl_rI fun _ _ _ => mk_int) (pd_op op_mulXX opl_mul (pd_var (pv 1)) (pd_op op_addX opl_add (pd_var (pv 1)) pd_int)) pd_int) pda_nil)))))
      (pds_cons (pds_setFC (f := "count") (T.cl 14 rfl) (T.no 15 rfl) (pd_var (pv 0)) (pd_var (pv 1)))
      (pds_cons (pds_setFC (f := "starts") (T.cl 14 rfl) (T.no 16 rfl) (pd_var (pv 0)) (pd_var (pv 2)))
      (pds_cons (pds_setFC (f := "table") (T.cl 14 rfl) (T.no 17 rfl) (pd_var (pv 0)) (pd_var (pv 3)))
      (pds_cons (pds_setFC (f := "told") (T.cl 14 rfl) (T.no 18 rfl) (pd_var (pv 0)) (pd_tup (pda_cons (pd_var (pv 1)) (pda_cons (pd_var (pv 2)) (pda_cons (pd_var (pv 3)) pda_nil)))))
      (pds_one (pds_setFC (f := "kinds") (T.cl 14 rfl) (T.no 19 rfl) (pd_var (pv 0)) (pd_call F_arising (hr.mono (by decide)) tk (by rfl) (O_arising.mg (by decide)) O_arising.kp O_arising.bd (pda_cons (pd_var (pv 1)) (pda_cons (pd_var (pv 2)) (pda_cons (pd_var (pv 3)) pda_nil))))))))))))))
  exact h
theorem ok_Mixture_met {P : Program} {w : World} {K : PySem.W.Frag} {mg : Str → Option Value} {base : Heap} (T : TX K mg base) : OkF P w K mg base 2 "" (He.fAd K ("Mixture", some "met")) ["self", "one", "other"] (sp_Mixture_met K) := by
  obtain ⟨fd_place_in_table, F_place_in_table, O_place_in_table⟩ := ok_place_in_table (P := P) (w := w) T
  obtain ⟨fd, F⟩ := T.says.def_ 8 (d := ⟨("Mixture", some "met"), "met", "Mixture.met", defArgs s_Mixture_met, defBody s_Mixture_met, defScope s_Mixture_met, [], []⟩) rfl
  have bd : Binds K fd ["self", "one", "other"] [] := FunD.bindsN F fun _ _ _ _ _ _ us hl => match us, hl with | [_, _, _], _ => rfl
  refine ⟨fd, fn_d (wb := wb_Mixture_met K) F sc_Mixture_met (fun cdv A outer s H E hr tk => ?_) (pure_Mixture_met T.tp), ⟨fun h => absurd rfl h, F.kp, bd⟩⟩
  have h := (show PDSs (defX P w K mg base ["self", "one", "other"] "Mixture.met" (defScope s_Mixture_met) (He.fAd K ("Mixture", some "met")) cdv A outer s H E) (fun cls d _ H => E cls d H) (defBody s_Mixture_met) _ from (pds_one (pds_ret (pd_ix ix_seq opl_ix (pd_fldC (f := "table") (T.cl 14 rfl) (T.no 17 rfl) (pd_var (pv 0))) (pd_call F_place_in_table (hr.mono (by decide)) tk (by rfl) (O_place_in_table.mg (by decide)) O_place_in_table.kp O_place_in_table.bd (pda_cons (pd_fldC (f := "count") (T.cl 14 rfl) (T.no 15 rfl) (pd_var (pv 0))) (pda_cons (pd_var (pv 1)) (pda_cons (pd_var (pv 2)) pda_nil))))))))
  exact h
theorem ok_check_mixture {P : Program} {w : World} {K : PySem.W.Frag} {mg : Str → Option Value} {base : Heap} (T : TX K mg base) : OkF P w K mg base 1 "check_mixture" (He.fAd K ("check_mixture", none)) ["value"] (sp_check_mixture K) := by
  obtain ⟨fd, F⟩ := T.says.def_ 9 (d := ⟨("check_mixture", none), "check_mixture", "check_mixture", defArgs s_check_mixture, defBody s_check_mixture, defScope s_check_mixture, [], []⟩) rfl
  have bd : Binds K fd ["value"] [] := FunD.bindsN F fun _ _ _ _ _ _ us hl => match us, hl with | [_], _ => rfl
  refine ⟨fd, fn_d (wb := wb_check_mixture K) F sc_check_mixture (fun cdv A outer s H E hr tk => ?_) (pure_check_mixture T.tp), ⟨fun _ => T.glo 73 rfl, F.kp, bd⟩⟩
  have h := (show PDSs (defX P w K mg base ["value"] "check_mixture" (defScope s_check_mixture) (He.fAd K ("check_mixture", none)) cdv A outer s H E) (fun cls d _ H => E cls d H) (defBody s_check_mixture) _ from (pds_one (pds_if (pdt_not (pdt_val (pd_callB call_isi calll_isi (by rfl) (T.free 0 rfl) (by rfl) (pda_cons (pd_var (pv 0)) (pda_cons (pd_ref (by rfl) (T.glo 20 rfl)) pda_nil))))) (pds_one pds_never) pds_nil)))
  exact h
theorem ok_is_pair_of_places {P : Program} {w : World} {K : PySem.W.Frag} {mg : Str → Option Value} {base : Heap} (T : TX K mg base) : OkF P w K mg base 2 "is_pair_of_places" (He.fAd K ("is_pair_of_places", none)) ["value", "size"] (sp_is_pair_of_places K) := by
  obtain ⟨fd_is_between, F_is_between, O_is_between⟩ := ok_is_between (P := P) (w := w) T
  obtain ⟨fd, F⟩ := T.says.def_ 10 (d := ⟨("is_pair_of_places", none), "is_pair_of_places", "is_pair_of_places", defArgs s_is_pair_of_places, defBody s_is_pair_of_places, defScope s_is_pair_of_places, [], []⟩) rfl
  have bd : Binds K fd ["value", "size"] [] := FunD.bindsN F fun _ _ _ _ _ _ us hl => match us, hl with | [_, _], _ => rfl
  refine ⟨fd, fn_d (wb := wb_is_pair_of_places K) F sc_is_pair_of_places (fun cdv A outer s H E hr tk => ?_) (pure_is_pair_of_places T.tp), ⟨fun _ => T.glo 74 rfl, F.kp, bd⟩⟩
  have h := (show PDSs (defX P w K mg base ["value", "size"] "is_pair_of_places" (defScope s_is_pair_of_places) (He.fAd K ("is_pair_of_places", none)) cdv A outer s H E) (fun cls d _ H => E cls d H) (defBody s_is_pair_of_places) _ from (pds_cons (pds_if (pdt_w (pdw_or (pdt_not (pdt_val (pd_callB call_isi calll_isi (by rfl) (T.free 0 rfl) (by rfl) (pda_cons (pd_var (pv 0)) (pda_cons (pd_ty (by rfl) (T.free 3 rfl) (by rfl)) pda_nil))))) (pdw_or1 (pdt_cmp (op_neX (hu64 hr)) opl_ne (pd_callB call_len calll_len (by rfl) (T.free 4 rfl) (by rfl) (pda_cons (pd_var (pv 0)) pda_nil)) pd_int (nomark _))))) (pds_one (pds_ret pd_bl)) pds_nil)
      (pds_one (pds_ret (pd_and (pd_call F_is_between (hr.mono (by decide)) tk (by rfl) (O_is_between.mg (by decide)) O_is_between.kp O_is_between.bd (pda_cons (pd_ix ix_seq opl_ix (pd_var (pv 0)) pd_int) (pda_cons pd_int (pda_cons (pd_op op_sub (opl_rI0 fun _ _ _ => mk_int) (pd_var (pv 1)) pd_int) pda_nil)))) (pd_and (pd_call F_is_between (hr.mono (by decide)) tk (by rfl) (O_is_between.mg (by decide)) O_is_between.kp O_is_between.bd (pda_cons (pd_ix ix_seq opl_ix (pd_var (pv 0)) pd_int) (pda_cons pd_int (pda_cons (pd_op op_sub (opl_rI0 fun _ _ _ => mk_int) (pd_var (pv 1)) pd_int) pda_nil)))) (pd_one (pd_cmp op_lt (opc_rI0 fun _ _ _ => mk_bl) (pd_ix ix_seq opl_ix (pd_var (pv 0)) pd_int) (pd_ix ix_seq opl_ix (pd_var (pv 0)) pd_int) (nomark _)))))))))
  exact h
theorem ok_joined {P : Program} {w : World} {K : PySem.W.Frag} {mg : Str → Option Value} {base : Heap} (T : TX K mg base) : OkF P w K mg base 3 "joined" (He.fAd K ("joined", none)) ["mixture", "kinds", "i", "j"] (sp_joined K) := by
  obtain ⟨fd_Mixture_met, F_Mixture_met, O_Mixture_met⟩ := ok_Mixture_met (P := P) (w := w) T
  obtain ⟨fd, F⟩ := T.says.def_ 11 (d := ⟨("joined", none), "joined", "joined", defArgs s_joined, defBody s_joined, defScope s_joined, [], []⟩) rfl
  have bd : Binds K fd ["mixture", "kinds", "i", "j"] [] := FunD.bindsN F fun _ _ _ _ _ _ us hl => match us, hl with | [_, _, _, _], _ => rfl
  refine ⟨fd, fn_d (wb := wb_joined K) F sc_joined (fun cdv A outer s H E hr tk => ?_) (pure_joined T.tp), ⟨fun _ => T.glo 75 rfl, F.kp, bd⟩⟩
  have h := (show PDSs (defX P w K mg base ["mixture", "kinds", "i", "j", "kind", "gift"] "joined" (defScope s_joined) (He.fAd K ("joined", none)) cdv A outer s H E) (fun cls d _ H => E cls d H) (defBody s_joined) _ from (pds_cons (pds_asg (pd_meth (T.cl 14 rfl) (T.mtc 21 rfl) F_Mixture_met (hr.mono (by decide)) tk O_Mixture_met.bd (pd_var (pv 0)) (pda_cons (pd_ix ix_seq opl_ix (pd_var (pv 1)) (pd_var (pv 2))) (pda_cons (pd_ix ix_seq opl_ix (pd_var (pv 1)) (pd_var (pv 3))) pda_nil))) (pdg_tup (by rfl) (pdgs_cons (pdg_name (i := 4) sc_joined.nd (by rfl) (by first | exact .inl rfl | exact .inr rfl)) (pdgs_cons (pdg_name (i := 5) sc_joined.nd (by rfl) (by first | exact .inl rfl | exact .inr rfl)) pdgs_nil))))
      (pds_one (pds_ret (pd_tup (pda_cons (pd_op op_addX opl_add (pd_op op_addX opl_add (pd_op op_addX opl_add (pd_slice (pd_var (pv 1)) pdo_none (pdo_some (pd_var (pv 2)))) (pd_tup (pda_cons (pd_var (pv 4)) pda_nil))) (pd_slice (pd_var (pv 1)) (pdo_some (pd_op op_addX opl_add (pd_var (pv 2)) pd_int)) (pdo_some (pd_var (pv 3))))) (pd_slice (pd_var (pv 1)) (pdo_some (pd_op op_addX opl_add (pd_var (pv 3)) pd_int)) pdo_none)) (pda_cons (pd_var (pv 5)) pda_nil)))))))
  exact h
theorem ok_PotX_initX {P : Program} {w : World} {K : PySem.W.Frag} {mg : Str → Option Value} {base : Heap} (T : TX K mg base) : OkF P w K mg base 2 "" (He.fAd K ("Pot", some "__init__")) ["self", "mixture"] (sp_PotX_initX K) := by
  obtain ⟨fd_check_mixture, F_check_mixture, O_check_mixture⟩ := ok_check_mixture (P := P) (w := w) T
  obtain ⟨fd, F⟩ := T.says.def_ 12 (d := ⟨("Pot", some "__init__"), "__init__", "Pot.__init__", defArgs s_PotX_initX, defBody s_PotX_initX, defScope s_PotX_initX, [], []⟩) rfl
  have bd : Binds K fd ["self", "mixture"] [] := FunD.bindsN F fun _ _ _ _ _ _ us hl => match us, hl with | [_, _], _ => rfl
  refine ⟨fd, fn_d (wb := wb_PotX_initX K) F sc_PotX_initX (fun cdv A outer s H E hr tk => ?_) (pure_PotX_initX T.tp), ⟨fun h => absurd rfl h, F.kp, bd⟩⟩
  have h := (show PDSs (defX P w K mg base ["self", "mixture"] "Pot.__init__" (defScope s_PotX_initX) (He.fAd K ("Pot", some "__init__")) cdv A outer s H E) (fun cls d _ H => E cls d H) (defBody s_PotX_initX) _ from (pds_cons (pds_expr (pd_call F_check_mixture (hr.mono (by decide)) tk (by rfl) (O_check_mixture.mg (by decide)) O_check_mixture.kp O_check_mixture.bd (pda_cons (pd_var (pv 1)) pda_nil)))
      (pds_cons (pds_setFC (f := "mixture") (T.cl 22 rfl) (T.no 23 rfl) (pd_var (pv 0)) (pd_var (pv 1)))
      (pds_cons (pds_setFC (f := "kinds") (T.cl 22 rfl) (T.no 24 rfl) (pd_var (pv 0)) (pd_tup pda_nil))
      (pds_cons (pds_setFC (f := "given") (T.cl 22 rfl) (T.no 25 rfl) (pd_var (pv 0)) pd_int)
      (pds_cons (pds_setFC (f := "amounts") (T.cl 22 rfl) (T.no 26 rfl) (pd_var (pv 0)) (pd_op op_mulTup opl_mulTup (pd_tup (pda_cons pd_int pda_nil)) (pd_callB call_len calll_len (by rfl) (T.free 4 rfl) (by rfl) (pda_cons (pd_fldC (f := "starts") (T.cl 14 rfl) (T.no 16 rfl) (pd_var (pv 1))) pda_nil))))
      (pds_cons (pds_setFC (f := "past") (T.cl 22 rfl) (T.no 27 rfl) (pd_var (pv 0)) (pd_tup pda_nil))
      (pds_one (pds_setFC (f := "busy") (T.cl 22 rfl) (T.no 28 rfl) (pd_var (pv 0)) pd_bl)))))))))
  exact h
theorem ok_Pot_become {P : Program} {w : World} {K : PySem.W.Frag} {mg : Str → Option Value} {base : Heap} (T : TX K mg base) : OkF P w K mg base 1 "" (He.fAd K ("Pot", some "become")) ["self", "kinds", "given", "amounts"] (sp_Pot_become K) := by
  obtain ⟨fd, F⟩ := T.says.def_ 13 (d := ⟨("Pot", some "become"), "become", "Pot.become", defArgs s_Pot_become, defBody s_Pot_become, defScope s_Pot_become, [], []⟩) rfl
  have bd : Binds K fd ["self", "kinds", "given", "amounts"] [] := FunD.bindsN F fun _ _ _ _ _ _ us hl => match us, hl with | [_, _, _, _], _ => rfl
  refine ⟨fd, fn_d (wb := wb_Pot_become K) F sc_Pot_become (fun cdv A outer s H E hr tk => ?_) (pure_Pot_become T.tp), ⟨fun h => absurd rfl h, F.kp, bd⟩⟩
  have h := (show PDSs (defX P w K mg base ["self", "kinds", "given", "amounts"] "Pot.become" (defScope s_Pot_become) (He.fAd K ("Pot", some "become")) cdv A outer s H E) (fun cls d _ H => E cls d H) (defBody s_Pot_become) _ from (pds_cons (pds_setFC (f := "past") (T.cl 22 rfl) (T.no 27 rfl) (pd_var (pv 0)) (pd_tup (pda_star (pd_fldC (f := "past") (T.cl 22 rfl) (T.no 27 rfl) (pd_var (pv 0))) (pda_cons (pd_tup (pda_cons (pd_fldC (f := "kinds") (T.cl 22 rfl) (T.no 24 rfl) (pd_var (pv 0))) (pda_cons (pd_fldC (f := "given") (T.cl 22 rfl) (T.no 25 rfl) (pd_var (pv 0))) (pda_cons (pd_fldC (f := "amounts") (T.cl 22 rfl) (T.no 26 rfl) (pd_var (pv 0))) pda_nil)))) pda_nil))))
      (pds_one (pds_asg (pd_tup (pda_cons (pd_var (pv 1)) (pda_cons (pd_var (pv 2)) (pda_cons (pd_var (pv 3)) pda_nil)))) (pdg_tup (by rfl) (pdgs_cons (pdg_fldC (f := "kinds") (T.cl 22 rfl) (T.no 24 rfl) (pd_var (pv 0))) (pdgs_cons (pdg_fldC (f := "given") (T.cl 22 rfl) (T.no 25 rfl) (pd_var (pv 0))) (pdgs_cons (pdg_fldC (f := "amounts") (T.cl 22 rfl) (T.no 26 rfl) (pd_var (pv 0))) pdgs_nil))))))))
  exact h
theorem ok_Pot_check_idle {P : Program} {w : World} {K : PySem.W.Frag} {mg : Str → Option Value} {base : Heap} (T : TX K mg base) : OkF P w K mg base 1 "" (He.fAd K ("Pot", some "check_idle")) ["self"] (sp_Pot_check_idle K) := by
  obtain ⟨fd, F⟩ := T.says.def_ 14 (d := ⟨("Pot", some "check_idle"), "check_idle", "Pot.check_idle", defArgs s_Pot_check_idle, defBody s_Pot_check_idle, defScope s_Pot_check_idle, [], []⟩) rfl
  have bd : Binds K fd ["self"] [] := FunD.bindsN F fun _ _ _ _ _ _ us hl => match us, hl with | [_], _ => rfl
  refine ⟨fd, fn_d (wb := wb_Pot_check_idle K) F sc_Pot_check_idle (fun cdv A outer s H E hr tk => ?_) (pure_Pot_check_idle T.tp), ⟨fun h => absurd rfl h, F.kp, bd⟩⟩
  have h := (show PDSs (defX P w K mg base ["self"] "Pot.check_idle" (defScope s_Pot_check_idle) (He.fAd K ("Pot", some "check_idle")) cdv A outer s H E) (fun cls d _ H => E cls d H) (defBody s_Pot_check_idle) _ from (pds_one (pds_if (pdt_tru (pd_fldC (f := "busy") (T.cl 22 rfl) (T.no 28 rfl) (pd_var (pv 0)))) (pds_one (pds_raise_0 T.lo_Busy (by rfl) tk)) pds_nil)))
  exact h
theorem ok_Pot_check_room {P : Program} {w : World} {K : PySem.W.Frag} {mg : Str → Option Value} {base : Heap} (T : TX K mg base) : OkF P w K mg base 1 "" (He.fAd K ("Pot", some "check_room")) ["self"] (sp_Pot_check_room K) := by
  obtain ⟨fd, F⟩ := T.says.def_ 15 (d := ⟨("Pot", some "check_room"), "check_room", "Pot.check_room", defArgs s_Pot_check_room, defBody s_Pot_check_room, defScope s_Pot_check_room, [], []⟩) rfl
  have bd : Binds K fd ["self"] [] := FunD.bindsN F fun _ _ _ _ _ _ us hl => match us, hl with | [_], _ => rfl
  refine ⟨fd, fn_d (wb := wb_Pot_check_room K) F sc_Pot_check_room (fun cdv A outer s H E hr tk => ?_) (pure_Pot_check_room T.tp), ⟨fun h => absurd rfl h, F.kp, bd⟩⟩
  have h := (show PDSs (defX P w K mg base ["self"] "Pot.check_room" (defScope s_Pot_check_room) (He.fAd K ("Pot", some "check_room")) cdv A outer s H E) (fun cls d _ H => E cls d H) (defBody s_Pot_check_room) _ from (pds_one (pds_if (pdt_cmp (op_eqX (hu64 hr)) opl_eq (pd_callB call_len calll_len (by rfl) (T.free 4 rfl) (by rfl) (pda_cons (pd_fldC (f := "past") (T.cl 22 rfl) (T.no 27 rfl) (pd_var (pv 0))) pda_nil)) (pd_gint (by rfl) (T.int 29 rfl)) (nomark _)) (pds_one (pds_raise_limit T.lo_TooMany (by rfl) tk hr (pda_cons (pd_gint (by rfl) (T.int 29 rfl)) pda_nil))) pds_nil)))
  exact h
theorem ok_Pot_put_in {P : Program} {w : World} {K : PySem.W.Frag} {mg : Str → Option Value} {base : Heap} (T : TX K mg base) : OkF P w K mg base 2 "" (He.fAd K ("Pot", some "put_in")) ["self", "number"] (sp_Pot_put_in K) := by
  obtain ⟨fd_is_between, F_is_between, O_is_between⟩ := ok_is_between (P := P) (w := w) T
  obtain ⟨fd_Pot_check_room, F_Pot_check_room, O_Pot_check_room⟩ := ok_Pot_check_room (P := P) (w := w) T
  obtain ⟨fd_Pot_become, F_Pot_become, O_Pot_become⟩ := ok_Pot_become (P := P) (w := w) T
  obtain ⟨fd, F⟩ := T.says.def_ 16 (d := ⟨("Pot", some "put_in"), "put_in", "Pot.put_in", defArgs s_Pot_put_in, defBody s_Pot_put_in, defScope s_Pot_put_in, [], []⟩) rfl
  have bd : Binds K fd ["self", "number"] [] := FunD.bindsN F fun _ _ _ _ _ _ us hl => match us, hl with | [_, _], _ => rfl
  refine ⟨fd, fn_d (wb := wb_Pot_put_in K) F sc_Pot_put_in (fun cdv A outer s H E hr tk => ?_) (pure_Pot_put_in T.tp), ⟨fun h => absurd rfl h, F.kp, bd⟩⟩
  have h := (show PDSs (defX P w K mg base ["self", "number", "kind", "gift", "amounts", "place", "amount"] "Pot.put_in" (defScope s_Pot_put_in) (He.fAd K ("Pot", some "put_in")) cdv A outer s H E) (fun cls d _ H => E cls d H) (defBody s_Pot_put_in) _ from (pds_cons (pds_if (pdt_not (pdt_val (pd_call F_is_between (hr.mono (by decide)) tk (by rfl) (O_is_between.mg (by decide)) O_is_between.kp O_is_between.bd (pda_cons (pd_var (pv 1)) (pda_cons pd_int (pda_cons (pd_op op_sub (opl_rI0 fun _ _ _ => mk_int) (pd_callB call_len calll_len (by rfl) (T.free 4 rfl) (by rfl) (pda_cons (pd_fldC (f := "amounts") (T.cl 22 rfl) (T.no 26 rfl) (pd_var (pv 0))) pda_nil)) pd_int) pda_nil)))))) (pds_one (pds_raise_value T.lo_InvalidKind (by rfl) tk hr (pda_cons (pd_var (pv 1)) pda_nil))) pds_nil)
      (pds_cons (pds_expr (pd_meth0 (T.cl 22 rfl) (T.mtc 30 rfl) F_Pot_check_room (hr.mono (by decide)) tk O_Pot_check_room.bd (pd_var (pv 0))))
      (pds_cons (pds_asg (pd_ix ix_seq opl_ix (pd_fldC (f := "starts") (T.cl 14 rfl) (T.no 16 rfl) (pd_fldC (f := "mixture") (T.cl 22 rfl) (T.no 23 rfl) (pd_var (pv 0)))) (pd_var (pv 1))) (pdg_tup (by rfl) (pdgs_cons (pdg_name (i := 2) sc_Pot_put_in.nd (by rfl) (by first | exact .inl rfl | exact .inr rfl)) (pdgs_cons (pdg_name (i := 3) sc_Pot_put_in.nd (by rfl) (by first | exact .inl rfl | exact .inr rfl)) pdgs_nil))))
      (pds_cons (pds_set (i := 4) sc_Pot_put_in.nd (by rfl) (by first | exact .inl rfl | exact .inr rfl) (pd_callT call_tuple_of calll_tupOf (by rfl) (T.free 3 rfl) (by rfl) (pda_cons (pd_lcE (by rfl) sc_Pot_put_in.nd (by rfl) (T.free 6 rfl) (pda_cons (pd_fldC (f := "amounts") (T.cl 22 rfl) (T.no 26 rfl) (pd_var (pv 0))) pda_nil) (lcOk0 (own := [("place", 5), ("amount", 6)]) (blkOk_by (by kernel_rfl)) (tgt2 (by decide) (by decide)) (fun _ _ _ _ _ => pg_tup (by rfl) (pgs_cons (pg_name (i := 5) sc_Pot_put_in.nd (by rfl) (by first | exact .inl rfl | exact .inr rfl)) (pgs_cons (pg_name (i := 6) sc_Pot_put_in.nd (by rfl) (by first | exact .inl rfl | exact .inr rfl)) pgs_nil))) (fun _ _ _ _ _ => (pd_op op_addX opl_add (pd_var (pv 6)) (pd_callT call_int1 calll_int (by rfl) (T.free 1 rfl) (by rfl) (pda_cons (pd_cmp (op_eqX (hu64 hr)) opl_eq (pd_var (pv 5)) (pd_var (pv 1)) (nomark _)) pda_nil)))))) pda_nil)))
      (pds_cons (pds_expr (pd_meth (T.cl 22 rfl) (T.mtc 31 rfl) F_Pot_become (hr.mono (by decide)) tk O_Pot_become.bd (pd_var (pv 0)) (pda_cons (pd_op op_addX opl_add (pd_fldC (f := "kinds") (T.cl 22 rfl) (T.no 24 rfl) (pd_var (pv 0))) (pd_tup (pda_cons (pd_var (pv 2)) pda_nil))) (pda_cons (pd_op op_addX opl_add (pd_fldC (f := "given") (T.cl 22 rfl) (T.no 25 rfl) (pd_var (pv 0))) (pd_var (pv 3))) (pda_cons (pd_var (pv 4)) pda_nil)))))
      (pds_one (pds_ret (pd_var (pv 3))))))))))
  exact h
theorem ok_Pot_let_meet {P : Program} {w : World} {K : PySem.W.Frag} {mg : Str → Option Value} {base : Heap} (T : TX K mg base) : OkF P w K mg base 4 "" (He.fAd K ("Pot", some "let_meet")) ["self", "i", "j"] (sp_Pot_let_meet K) := by
  obtain ⟨fd_is_pair_of_places, F_is_pair_of_places, O_is_pair_of_places⟩ := ok_is_pair_of_places (P := P) (w := w) T
  obtain ⟨fd_Pot_check_room, F_Pot_check_room, O_Pot_check_room⟩ := ok_Pot_check_room (P := P) (w := w) T
  obtain ⟨fd_joined, F_joined, O_joined⟩ := ok_joined (P := P) (w := w) T
  obtain ⟨fd_Pot_become, F_Pot_become, O_Pot_become⟩ := ok_Pot_become (P := P) (w := w) T
  obtain ⟨fd, F⟩ := T.says.def_ 17 (d := ⟨("Pot", some "let_meet"), "let_meet", "Pot.let_meet", defArgs s_Pot_let_meet, defBody s_Pot_let_meet, defScope s_Pot_let_meet, [], []⟩) rfl
  have bd : Binds K fd ["self", "i", "j"] [] := FunD.bindsN F fun _ _ _ _ _ _ us hl => match us, hl with | [_, _, _], _ => rfl
  refine ⟨fd, fn_d (wb := wb_Pot_let_meet K) F sc_Pot_let_meet (fun cdv A outer s H E hr tk => ?_) (pure_Pot_let_meet T.tp), ⟨fun h => absurd rfl h, F.kp, bd⟩⟩
  have h := (show PDSs (defX P w K mg base ["self", "i", "j", "kinds", "gift"] "Pot.let_meet" (defScope s_Pot_let_meet) (He.fAd K ("Pot", some "let_meet")) cdv A outer s H E) (fun cls d _ H => E cls d H) (defBody s_Pot_let_meet) _ from (pds_cons (pds_if (pdt_not (pdt_val (pd_call F_is_pair_of_places (hr.mono (by decide)) tk (by rfl) (O_is_pair_of_places.mg (by decide)) O_is_pair_of_places.kp O_is_pair_of_places.bd (pda_cons (pd_tup (pda_cons (pd_var (pv 1)) (pda_cons (pd_var (pv 2)) pda_nil))) (pda_cons (pd_callB call_len calll_len (by rfl) (T.free 4 rfl) (by rfl) (pda_cons (pd_fldC (f := "kinds") (T.cl 22 rfl) (T.no 24 rfl) (pd_var (pv 0))) pda_nil)) pda_nil))))) (pds_one (pds_raise_index T.lo_InvalidOrder (by rfl) tk hr (pda_cons pd_non pda_nil))) pds_nil)
      (pds_cons (pds_expr (pd_meth0 (T.cl 22 rfl) (T.mtc 30 rfl) F_Pot_check_room (hr.mono (by decide)) tk O_Pot_check_room.bd (pd_var (pv 0))))
      (pds_cons (pds_asg (pd_call F_joined (hr.mono (by decide)) tk (by rfl) (O_joined.mg (by decide)) O_joined.kp O_joined.bd (pda_cons (pd_fldC (f := "mixture") (T.cl 22 rfl) (T.no 23 rfl) (pd_var (pv 0))) (pda_cons (pd_fldC (f := "kinds") (T.cl 22 rfl) (T.no 24 rfl) (pd_var (pv 0))) (pda_cons (pd_var (pv 1)) (pda_cons (pd_var (pv 2)) pda_nil))))) (pdg_tup (by rfl) (pdgs_cons (pdg_name (i := 3) sc_Pot_let_meet.nd (by rfl) (by first | exact .inl rfl | exact .inr rfl)) (pdgs_cons (pdg_name (i := 4) sc_Pot_let_meet.nd (by rfl) (by first | exact .inl rfl | exact .inr rfl)) pdgs_nil))))
      (pds_cons (pds_expr (pd_meth (T.cl 22 rfl) (T.mtc 31 rfl) F_Pot_become (hr.mono (by decide)) tk O_Pot_become.bd (pd_var (pv 0)) (pda_cons (pd_var (pv 3)) (pda_cons (pd_op op_addX opl_add (pd_fldC (f := "given") (T.cl 22 rfl) (T.no 25 rfl) (pd_var (pv 0))) (pd_var (pv 4))) (pda_cons (pd_fldC (f := "amounts") (T.cl 22 rfl) (T.no 26 rfl) (pd_var (pv 0))) pda_nil)))))
      (pds_one (pds_ret (pd_var (pv 4)))))))))
  exact h
theorem ok_Pot_put {P : Program} {w : World} {K : PySem.W.Frag} {mg : Str → Option Value} {base : Heap} (T : TX K mg base) : OkF P w K mg base 3 "" (He.fAd K ("Pot", some "put")) ["self", "number"] (sp_Pot_put K) := by
  obtain ⟨fd_Pot_check_idle, F_Pot_check_idle, O_Pot_check_idle⟩ := ok_Pot_check_idle (P := P) (w := w) T
  obtain ⟨fd_Pot_put_in, F_Pot_put_in, O_Pot_put_in⟩ := ok_Pot_put_in (P := P) (w := w) T
  obtain ⟨fd, F⟩ := T.says.def_ 18 (d := ⟨("Pot", some "put"), "put", "Pot.put", defArgs s_Pot_put, defBody s_Pot_put, defScope s_Pot_put, [], []⟩) rfl
  have bd : Binds K fd ["self", "number"] [] := FunD.bindsN F fun _ _ _ _ _ _ us hl => match us, hl with | [_, _], _ => rfl
  refine ⟨fd, fn_d (wb := wb_Pot_put K) F sc_Pot_put (fun cdv A outer s H E hr tk => ?_) (pure_Pot_put T.tp), ⟨fun h => absurd rfl h, F.kp, bd⟩⟩
  have h := (show PDSs (defX P w K mg base ["self", "number"] "Pot.put" (defScope s_Pot_put) (He.fAd K ("Pot", some "put")) cdv A outer s H E) (fun cls d _ H => E cls d H) (defBody s_Pot_put) _ from (pds_cons (pds_expr (pd_meth0 (T.cl 22 rfl) (T.mtc 32 rfl) F_Pot_check_idle (hr.mono (by decide)) tk O_Pot_check_idle.bd (pd_var (pv 0))))
      (pds_one (pds_ret (pd_meth (T.cl 22 rfl) (T.mtc 33 rfl) F_Pot_put_in (hr.mono (by decide)) tk O_Pot_put_in.bd (pd_var (pv 0)) (pda_cons (pd_var (pv 1)) pda_nil))))))
  exact h
theorem ok_Pot_meet {P : Program} {w : World} {K : PySem.W.Frag} {mg : Str → Option Value} {base : Heap} (T : TX K mg base) : OkF P w K mg base 5 "" (He.fAd K ("Pot", some "meet")) ["self", "i", "j"] (sp_Pot_meet K) := by
  obtain ⟨fd_Pot_check_idle, F_Pot_check_idle, O_Pot_check_idle⟩ := ok_Pot_check_idle (P := P) (w := w) T
  obtain ⟨fd_Pot_let_meet, F_Pot_let_meet, O_Pot_let_meet⟩ := ok_Pot_let_meet (P := P) (w := w) T
  obtain ⟨fd, F⟩ := T.says.def_ 19 (d := ⟨("Pot", some "meet"), "meet", "Pot.meet", defArgs s_Pot_meet, defBody s_Pot_meet, defScope s_Pot_meet, [], []⟩) rfl
  have bd : Binds K fd ["self", "i", "j"] [] := FunD.bindsN F fun _ _ _ _ _ _ us hl => match us, hl with | [_, _, _], _ => rfl
  refine ⟨fd, fn_d (wb := wb_Pot_meet K) F sc_Pot_meet (fun cdv A outer s H E hr tk => ?_) (pure_Pot_meet T.tp), ⟨fun h => absurd rfl h, F.kp, bd⟩⟩
  have h := (show PDSs (defX P w K mg base ["self", "i", "j"] "Pot.meet" (defScope s_Pot_meet) (He.fAd K ("Pot", some "meet")) cdv A outer s H E) (fun cls d _ H => E cls d H) (defBody s_Pot_meet) _ from (pds_cons (pds_expr (pd_meth0 (T.cl 22 rfl) (T.mtc 32 rfl) F_Pot_check_idle (hr.mono (by decide)) tk O_Pot_check_idle.bd (pd_var (pv 0))))
      (pds_one (pds_ret (pd_meth (T.cl 22 rfl) (T.mtc 34 rfl) F_Pot_let_meet (hr.mono (by decide)) tk O_Pot_let_meet.bd (pd_var (pv 0)) (pda_cons (pd_var (pv 1)) (pda_cons (pd_var (pv 2)) pda_nil)))))))
  exact h
theorem ok_Pot_undo {P : Program} {w : World} {K : PySem.W.Frag} {mg : Str → Option Value} {base : Heap} (T : TX K mg base) : OkF P w K mg base 2 "" (He.fAd K ("Pot", some "undo")) ["self"] (sp_Pot_undo K) := by
  obtain ⟨fd_Pot_check_idle, F_Pot_check_idle, O_Pot_check_idle⟩ := ok_Pot_check_idle (P := P) (w := w) T
  obtain ⟨fd, F⟩ := T.says.def_ 20 (d := ⟨("Pot", some "undo"), "undo", "Pot.undo", defArgs s_Pot_undo, defBody s_Pot_undo, defScope s_Pot_undo, [], []⟩) rfl
  have bd : Binds K fd ["self"] [] := FunD.bindsN F fun _ _ _ _ _ _ us hl => match us, hl with | [_], _ => rfl
  refine ⟨fd, fn_d (wb := wb_Pot_undo K) F sc_Pot_undo (fun cdv A outer s H E hr tk => ?_) (pure_Pot_undo T.tp), ⟨fun h => absurd rfl h, F.kp, bd⟩⟩
  have h := (show PDSs (defX P w K mg base ["self"] "Pot.undo" (defScope s_Pot_undo) (He.fAd K ("Pot", some "undo")) cdv A outer s H E) (fun cls d _ H => E cls d H) (defBody s_Pot_undo) _ from (pds_cons (pds_expr (pd_meth0 (T.cl 22 rfl) (T.mtc 32 rfl) F_Pot_check_idle (hr.mono (by decide)) tk O_Pot_check_idle.bd (pd_var (pv 0))))
      (pds_cons (pds_if (pdt_cmp (op_eqX (hu64 hr)) opl_eq (pd_callB call_len calll_len (by rfl) (T.free 4 rfl) (by rfl) (pda_cons (pd_fldC (f := "past") (T.cl 22 rfl) (T.no 27 rfl) (pd_var (pv 0))) pda_nil)) pd_int (nomark _)) (pds_one (pds_raise_0 T.lo_NothingToUndo (by rfl) tk)) pds_nil)
      (pds_cons (pds_asg (pd_ix ix_seq opl_ix (pd_fldC (f := "past") (T.cl 22 rfl) (T.no 27 rfl) (pd_var (pv 0))) (pd_un un_neg unl_neg pd_int)) (pdg_tup (by rfl) (pdgs_cons (pdg_fldC (f := "kinds") (T.cl 22 rfl) (T.no 24 rfl) (pd_var (pv 0))) (pdgs_cons (pdg_fldC (f := "given") (T.cl 22 rfl) (T.no 25 rfl) (pd_var (pv 0))) (pdgs_cons (pdg_fldC (f := "amounts") (T.cl 22 rfl) (T.no 26 rfl) (pd_var (pv 0))) pdgs_nil)))))
      (pds_one (pds_setFC (f := "past") (T.cl 22 rfl) (T.no 27 rfl) (pd_var (pv 0)) (pd_slice (pd_fldC (f := "past") (T.cl 22 rfl) (T.no 27 rfl) (pd_var (pv 0))) pdo_none (pdo_some (pd_un un_neg unl_neg pd_int)))))))))
  exact h
theorem ok_PotX_lenX {P : Program} {w : World} {K : PySem.W.Frag} {mg : Str → Option Value} {base : Heap} (T : TX K mg base) : OkF P w K mg base 1 "" (He.fAd K ("Pot", some "__len__")) ["self"] (sp_PotX_lenX K) := by
  obtain ⟨fd, F⟩ := T.says.def_ 21 (d := ⟨("Pot", some "__len__"), "__len__", "Pot.__len__", defArgs s_PotX_lenX, defBody s_PotX_lenX, defScope s_PotX_lenX, [], []⟩) rfl
  have bd : Binds K fd ["self"] [] := FunD.bindsN F fun _ _ _ _ _ _ us hl => match us, hl with | [_], _ => rfl
  refine ⟨fd, fn_d (wb := wb_PotX_lenX K) F sc_PotX_lenX (fun cdv A outer s H E hr tk => ?_) (pure_PotX_lenX T.tp), ⟨fun h => absurd rfl h, F.kp, bd⟩⟩
  have h := (show PDSs (defX P w K mg base ["self"] "Pot.__len__" (defScope s_PotX_lenX) (He.fAd K ("Pot", some "__len__")) cdv A outer s H E) (fun cls d _ H => E cls d H) (defBody s_PotX_lenX) _ from (pds_one (pds_ret (pd_callB call_len calll_len (by rfl) (T.free 4 rfl) (by rfl) (pda_cons (pd_fldC (f := "kinds") (T.cl 22 rfl) (T.no 24 rfl) (pd_var (pv 0))) pda_nil)))))
  exact h
theorem ok_PotX_reprX {P : Program} {w : World} {K : PySem.W.Frag} {mg : Str → Option Value} {base : Heap} (T : TX K mg base) : OkF P w K mg base 1 "" (He.fAd K ("Pot", some "__repr__")) ["self"] (sp_PotX_reprX K) := by
  obtain ⟨fd, F⟩ := T.says.def_ 22 (d := ⟨("Pot", some "__repr__"), "__repr__", "Pot.__repr__", defArgs s_PotX_reprX, defBody s_PotX_reprX, defScope s_PotX_reprX, [], []⟩) rfl
  have bd : Binds K fd ["self"] [] := FunD.bindsN F fun _ _ _ _ _ _ us hl => match us, hl with | [_], _ => rfl
  refine ⟨fd, fn_d (wb := wb_PotX_reprX K) F sc_PotX_reprX (fun cdv A outer s H E hr tk => ?_) (pure_PotX_reprX T.tp), ⟨fun h => absurd rfl h, F.kp, bd⟩⟩
  have h := (show PDSs (defX P w K mg base ["self"] "Pot.__repr__" (defScope s_PotX_reprX) (He.fAd K ("Pot", some "__repr__")) cdv A outer s H E) (fun cls d _ H => E cls d H) (defBody s_PotX_reprX) _ from (pds_one (pds_ret (pd_fs (.cons pd_str (.cons (pd_fmt (pd_callB call_len calll_len (by rfl) (T.free 4 rfl) (by rfl) (pda_cons (pd_fldC (f := "kinds") (T.cl 22 rfl) (T.no 24 rfl) (pd_var (pv 0))) pda_nil))) (.cons pd_str (.cons (pd_fmt (pd_fldC (f := "given") (T.cl 22 rfl) (T.no 25 rfl) (pd_var (pv 0)))) (.cons pd_str .nil)))))))))
  exact h
theorem ok_law_bin {P : Program} {w : World} {K : PySem.W.Frag} {mg : Str → Option Value} {base : Heap} (T : TX K mg base) : OkF P w K mg base 1 "_law_bin" (He.fAd K ("_law_bin", none)) ["script", "turn"] (sp_law_bin K) := by
  obtain ⟨fd, F⟩ := T.says.def_ 23 (d := ⟨("_law_bin", none), "_law_bin", "_law_bin", defArgs s_law_bin, defBody s_law_bin, defScope s_law_bin, [], []⟩) rfl
  have bd : Binds K fd ["script", "turn"] [] := FunD.bindsN F fun _ _ _ _ _ _ us hl => match us, hl with | [_, _], _ => rfl
  refine ⟨fd, fn_d (wb := wb_law_bin K) F sc_law_bin (fun cdv A outer s H E hr tk => ?_) (pure_law_bin T.tp), ⟨fun _ => T.glo 76 rfl, F.kp, bd⟩⟩
  have h := (show PDSs (defX P w K mg base ["script", "turn", "state", "each", "own"] "_law_bin" (defScope s_law_bin) (He.fAd K ("_law_bin", none)) cdv A outer s H E) (fun cls d _ H => E cls d H) (defBody s_law_bin) _ from (pds_cons (pds_set (i := 2) sc_law_bin.nd (by rfl) (by first | exact .inl rfl | exact .inr rfl) (pd_op op_addX opl_add pd_int (pd_op op_mulXX opl_mul pd_int (pd_var (pv 1)))))
      (pds_cons (pds_forL (passes_of (by rfl)) (by rfl) (pd_slice (pd_var (pv 0)) pdo_none (pdo_some pd_int)) (pdg_name (i := 3) sc_law_bin.nd (by rfl) (by first | exact .inl rfl | exact .inr rfl)) (pds_one (pds_set (i := 2) sc_law_bin.nd (by rfl) (by first | exact .inl rfl | exact .inr rfl) (pd_op op_mod (opl_rI fun _ _ _ => mk_int) (pd_callT call_int1 calll_int (by rfl) (T.free 1 rfl) (by rfl) (pda_cons (pd_op op_addX opl_add (pd_op op_addX opl_add (pd_op op_mulXX opl_mul (pd_var (pv 2)) pd_int) (pd_op op_mulXX opl_mul (pd_callT call_int1 calll_int (by rfl) (T.free 1 rfl) (by rfl) (pda_cons (pd_var (pv 3)) pda_nil)) pd_int)) (pd_var (pv 1))) pda_nil)) pd_int))))
      (pds_cons (pds_set (i := 4) sc_law_bin.nd (by rfl) (by first | exact .inl rfl | exact .inr rfl) (pd_if (pdt_cmp op_lt (opc_rI0 fun _ _ _ => mk_bl) (pd_var (pv 1)) (pd_callB call_len calll_len (by rfl) (T.free 4 rfl) (by rfl) (pda_cons (pd_var (pv 0)) pda_nil)) (nomark _)) (pd_callT call_int1 calll_int (by rfl) (T.free 1 rfl) (by rfl) (pda_cons (pd_ix ix_seq opl_ix (pd_var (pv 0)) (pd_var (pv 1))) pda_nil)) (pd_var (pv 2))))
      (pds_one (pds_ret (pd_lstC (pda_cons (pd_if (pdt_w (pdw_or (pdt_cmp op_lt (opc_rI0 fun _ _ _ => mk_bl) (pd_var (pv 4)) pd_int (nomark _)) (pdw_or1 (pdt_cmp op_ge (opc_rI0 fun _ _ _ => mk_bl) (pd_var (pv 4)) (pd_op op_pow (opl_rI fun _ _ _ => mk_int) pd_int pd_int) (nomark _))))) (pd_callB call_abs calll_abs (by rfl) (T.free 35 rfl) (by rfl) (pda_cons (pd_var (pv 4)) pda_nil)) pd_int) (pda_cons (pd_op op_mod (opl_rI fun _ _ _ => mk_int) (pd_callT call_int1 calll_int (by rfl) (T.free 1 rfl) (by rfl) (pda_cons (pd_op op_addX opl_add (pd_var (pv 2)) (pd_op op_mulXX opl_mul (pd_var (pv 4)) pd_int)) pda_nil)) pd_int) (pda_cons pd_int pda_nil))))))))))
  exact h
theorem ok_law_nip {P : Program} {w : World} {K : PySem.W.Frag} {mg : Str → Option Value} {base : Heap} (T : TX K mg base) : OkF P w K mg base 1 "_law_nip" (He.fAd K ("_law_nip", none)) ["bin_here", "size"] (sp_law_nip K) := by
  obtain ⟨fd, F⟩ := T.says.def_ 24 (d := ⟨("_law_nip", none), "_law_nip", "_law_nip", defArgs s_law_nip, defBody s_law_nip, defScope s_law_nip, [], []⟩) rfl
  have bd : Binds K fd ["bin_here", "size"] [] := FunD.bindsN F fun _ _ _ _ _ _ us hl => match us, hl with | [_, _], _ => rfl
  refine ⟨fd, fn_d (wb := wb_law_nip K) F sc_law_nip (fun cdv A outer s H E hr tk => ?_) (pure_law_nip T.tp), ⟨fun _ => T.glo 77 rfl, F.kp, bd⟩⟩
  have h := (show PDSs (defX P w K mg base ["bin_here", "size", "digit"] "_law_nip" (defScope s_law_nip) (He.fAd K ("_law_nip", none)) cdv A outer s H E) (fun cls d _ H => E cls d H) (defBody s_law_nip) _ from (pds_cons (pds_asg (pd_op op_addX opl_add (pd_ix ix_seq opl_ix (pd_var (pv 0)) pd_int) pd_int) (pdg_sub set_list setl_list (pd_var (pv 0)) pd_int))
      (pds_cons (pds_if (pdt_cmp op_gt (opc_rI0 fun _ _ _ => mk_bl) (pd_ix ix_seq opl_ix (pd_var (pv 0)) pd_int) pd_int (nomark _)) (pds_cons (pds_asg (pd_callB call_divmod calll_divmod (by rfl) (T.free 36 rfl) (by rfl) (pda_cons (pd_ix ix_seq opl_ix (pd_var (pv 0)) pd_int) (pda_cons (pd_var (pv 1)) pda_nil))) (pdg_tup (by rfl) (pdgs_cons (pdg_sub set_list setl_list (pd_var (pv 0)) pd_int) (pdgs_cons (pdg_name (i := 2) sc_law_nip.nd (by rfl) (by first | exact .inl rfl | exact .inr rfl)) pdgs_nil))))
      (pds_one (pds_ret (pd_var (pv 2))))) pds_nil)
      (pds_cons (pds_asg (pd_op op_mod (opl_rI fun _ _ _ => mk_int) (pd_callT call_int1 calll_int (by rfl) (T.free 1 rfl) (by rfl) (pda_cons (pd_op op_addX opl_add (pd_op op_addX opl_add (pd_op op_mulXX opl_mul (pd_ix ix_seq opl_ix (pd_var (pv 0)) pd_int) pd_int) (pd_op op_mulXX opl_mul pd_int (pd_ix ix_seq opl_ix (pd_var (pv 0)) pd_int))) pd_int) pda_nil)) pd_int) (pdg_sub set_list setl_list (pd_var (pv 0)) pd_int))
      (pds_one (pds_ret (pd_op op_mod (opl_rI fun _ _ _ => mk_int) (pd_callT call_int1 calll_int (by rfl) (T.free 1 rfl) (by rfl) (pda_cons (pd_op op_fdiv (opl_rI fun _ _ _ => mk_int) (pd_ix ix_seq opl_ix (pd_var (pv 0)) pd_int) pd_int) pda_nil)) (pd_var (pv 1)))))))))
  exact h
theorem ok_law_pick {P : Program} {w : World} {K : PySem.W.Frag} {mg : Str → Option Value} {base : Heap} (T : TX K mg base) : OkF P w K mg base 2 "_law_pick" (He.fAd K ("_law_pick", none)) ["bin_here", "some"] (sp_law_pick K) := by
  obtain ⟨fd_law_nip, F_law_nip, O_law_nip⟩ := ok_law_nip (P := P) (w := w) T
  obtain ⟨fd, F⟩ := T.says.def_ 25 (d := ⟨("_law_pick", none), "_law_pick", "_law_pick", defArgs s_law_pick, defBody s_law_pick, defScope s_law_pick, [], []⟩) rfl
  have bd : Binds K fd ["bin_here", "some"] [] := FunD.bindsN F fun _ _ _ _ _ _ us hl => match us, hl with | [_, _], _ => rfl
  refine ⟨fd, fn_d (wb := wb_law_pick K) F sc_law_pick (fun cdv A outer s H E hr tk => ?_) (pure_law_pick T.tp), ⟨fun _ => T.glo 78 rfl, F.kp, bd⟩⟩
  have h := (show PDSs (defX P w K mg base ["bin_here", "some"] "_law_pick" (defScope s_law_pick) (He.fAd K ("_law_pick", none)) cdv A outer s H E) (fun cls d _ H => E cls d H) (defBody s_law_pick) _ from (pds_one (pds_ret (pd_ix ix_seq opl_ix (pd_var (pv 1)) (pd_call F_law_nip (hr.mono (by decide)) tk (by rfl) (O_law_nip.mg (by decide)) O_law_nip.kp O_law_nip.bd (pda_cons (pd_var (pv 0)) (pda_cons (pd_callB call_len calll_len (by rfl) (T.free 4 rfl) (by rfl) (pda_cons (pd_var (pv 1)) pda_nil)) pda_nil)))))))
  exact h
theorem ok_law_mix {P : Program} {w : World} {K : PySem.W.Frag} {mg : Str → Option Value} {base : Heap} (T : TX K mg base) : OkF P w K mg base 3 "_law_mix" (He.fAd K ("_law_mix", none)) ["bin_here", "most"] (sp_law_mix K) := by
  obtain ⟨fd_law_pick, F_law_pick, O_law_pick⟩ := ok_law_pick (P := P) (w := w) T
  obtain ⟨fd_law_nip, F_law_nip, O_law_nip⟩ := ok_law_nip (P := P) (w := w) T
  obtain ⟨fd, F⟩ := T.says.def_ 26 (d := ⟨("_law_mix", none), "_law_mix", "_law_mix", defArgs s_law_mix, defBody s_law_mix, defScope s_law_mix, [], []⟩) rfl
  have bd : Binds K fd ["bin_here", "most"] [] := FunD.bindsN F fun _ _ _ _ _ _ us hl => match us, hl with | [_, _], _ => rfl
  refine ⟨fd, fn_d (wb := wb_law_mix K) F sc_law_mix (fun cdv A outer s H E hr tk => ?_) (pure_law_mix T.tp), ⟨fun _ => T.glo 79 rfl, F.kp, bd⟩⟩
  have h := (show PDSs (defX P w K mg base ["bin_here", "most", "count_here", "top", "starts_here", "table_here", "turn", "gift"] "_law_mix" (defScope s_law_mix) (He.fAd K ("_law_mix", none)) cdv A outer s H E) (fun cls d _ H => E cls d H) (defBody s_law_mix) _ from (pds_cons (PS.imp (ps_par (i := 2) (j := 3) (by rfl) sc_law_mix.nd (by rfl) (by rfl) (by decide) (by rfl) (by rfl) (pda_cons (pd_op op_addX opl_add pd_int (pd_call F_law_nip (hr.mono (by decide)) tk (by rfl) (O_law_nip.mg (by decide)) O_law_nip.kp O_law_nip.bd (pda_cons (pd_var (pv 0)) (pda_cons (pd_var (pv 1)) pda_nil)))) (pda_cons (pd_call F_law_pick (hr.mono (by decide)) tk (by rfl) (O_law_pick.mg (by decide)) O_law_pick.kp O_law_pick.bd (pda_cons (pd_var (pv 0)) (pda_cons (pd_lst (pda_cons pd_int (pda_cons pd_int (pda_cons (pd_op op_pow (opl_rI fun _ _ _ => mk_int) pd_int pd_int) pda_nil)))) pda_nil))) pda_nil)) (by rfl)) fun _ _ _ h => wpar_imp h)
      (pds_cons (PS.imp (ps_par (i := 4) (j := 5) (by rfl) sc_law_mix.nd (by rfl) (by rfl) (by decide) (by rfl) (by rfl) (pda_cons (pd_lstC pda_nil) (pda_cons (pd_lstC pda_nil) pda_nil)) (by rfl)) fun _ _ _ h => wpar_imp h)
      (pds_cons (pds_forR1 (passes_of (by rfl)) (by rfl) (by rfl) (T.free 37 rfl) (pda_cons (pd_op op_addX opl_add pd_int (pd_call F_law_nip (hr.mono (by decide)) tk (by rfl) (O_law_nip.mg (by decide)) O_law_nip.kp O_law_nip.bd (pda_cons (pd_var (pv 0)) (pda_cons pd_int pda_nil)))) pda_nil) (pdg_name (i := 6) sc_law_mix.nd (by rfl) (by first | exact .inl rfl | exact .inr rfl)) (pds_cons (pds_set (i := 7) sc_law_mix.nd (by rfl) (by first | exact .inl rfl | exact .inr rfl) (pd_call F_law_pick (hr.mono (by decide)) tk (by rfl) (O_law_pick.mg (by decide)) O_law_pick.kp O_law_pick.bd (pda_cons (pd_var (pv 0)) (pda_cons (pd_lst (pda_cons pd_int (pda_cons pd_int (pda_cons (pd_call F_law_nip (hr.mono (by decide)) tk (by rfl) (O_law_nip.mg (by decide)) O_law_nip.kp O_law_nip.bd (pda_cons (pd_var (pv 0)) (pda_cons (pd_op op_addX opl_add (pd_var (pv 3)) pd_int) pda_nil))) (pda_cons (pd_var (pv 3)) pda_nil))))) pda_nil))))
      (pds_one (pds_expr (pd_app (pd_var (pv 4)) (pda_cons (pd_tup (pda_cons (pd_call F_law_nip (hr.mono (by decide)) tk (by rfl) (O_law_nip.mg (by decide)) O_law_nip.kp O_law_nip.bd (pda_cons (pd_var (pv 0)) (pda_cons (pd_var (pv 2)) pda_nil))) (pda_cons (pd_var (pv 7)) pda_nil))) pda_nil))))))
      (pds_cons (pds_forR1 (passes_of (by rfl)) (by rfl) (by rfl) (T.free 37 rfl) (pda_cons (pd_op op_fdiv (opl_rI fun _ _ _ => mk_int) (pd_op op_mulXX opl_mul (pd_var (pv 2)) (pd_op op_addX opl_add (pd_var (pv 2)) pd_int)) pd_int) pda_nil) (pdg_name (i := 6) sc_law_mix.nd (by rfl) (by first | exact .inl rfl | exact .inr rfl)) (pds_cons (pds_set (i := 7) sc_law_mix.nd (by rfl) (by first | exact .inl rfl | exact .inr rfl) (pd_call F_law_pick (hr.mono (by decide)) tk (by rfl) (O_law_pick.mg (by decide)) O_law_pick.kp O_law_pick.bd (pda_cons (pd_var (pv 0)) (pda_cons (pd_lst (pda_cons pd_int (pda_cons pd_int (pda_cons (pd_call F_law_nip (hr.mono (by decide)) tk (by rfl) (O_law_nip.mg (by decide)) O_law_nip.kp O_law_nip.bd (pda_cons (pd_var (pv 0)) (pda_cons (pd_op op_addX opl_add (pd_var (pv 3)) pd_int) pda_nil))) (pda_cons (pd_var (pv 3)) pda_nil))))) pda_nil))))
      (pds_one (pds_expr (pd_app (pd_var (pv 5)) (pda_cons (pd_tup (pda_cons (pd_call F_law_nip (hr.mono (by decide)) tk (by rfl) (O_law_nip.mg (by decide)) O_law_nip.kp O_law_nip.bd (pda_cons (pd_var (pv 0)) (pda_cons (pd_var (pv 2)) pda_nil))) (pda_cons (pd_var (pv 7)) pda_nil))) pda_nil))))))
      (pds_one (pds_ret (pd_tup (pda_cons (pd_var (pv 2)) (pda_cons (pd_callT call_tuple_of calll_tupOf (by rfl) (T.free 3 rfl) (by rfl) (pda_cons (pd_var (pv 4)) pda_nil)) (pda_cons (pd_callT call_tuple_of calll_tupOf (by rfl) (T.free 3 rfl) (by rfl) (pda_cons (pd_var (pv 5)) pda_nil)) pda_nil)))))))))))
  exact h
theorem ok_law_made {P : Program} {w : World} {K : PySem.W.Frag} {mg : Str → Option Value} {base : Heap} (T : TX K mg base) : OkF P w K mg base 7 "_law_made" (He.fAd K ("_law_made", none)) ["mix"] (sp_law_made K) := by
  obtain ⟨fd_MixtureX_initX, F_MixtureX_initX, O_MixtureX_initX⟩ := ok_MixtureX_initX (P := P) (w := w) T
  obtain ⟨fd, F⟩ := T.says.def_ 27 (d := ⟨("_law_made", none), "_law_made", "_law_made", defArgs s_law_made, defBody s_law_made, defScope s_law_made, [], []⟩) rfl
  have bd : Binds K fd ["mix"] [] := FunD.bindsN F fun _ _ _ _ _ _ us hl => match us, hl with | [_], _ => rfl
  refine ⟨fd, fn_d (wb := wb_law_made K) F sc_law_made (fun cdv A outer s H E hr tk => ?_) (pure_law_made T.tp), ⟨fun _ => T.glo 80 rfl, F.kp, bd⟩⟩
  have h := (show PDSs (defX P w K mg base ["mix"] "_law_made" (defScope s_law_made) (He.fAd K ("_law_made", none)) cdv A outer s H E) (fun cls d _ H => E cls d H) (defBody s_law_made) _ from (pds_one (pds_ret (pd_make (T.mkc 38 rfl) F_MixtureX_initX (hr.mono (by decide)) tk (by rfl) (T.glo 20 rfl) O_MixtureX_initX.bd (pda_cons (pd_ix ix_seq opl_ix (pd_var (pv 0)) pd_int) (pda_cons (pd_ix ix_seq opl_ix (pd_var (pv 0)) pd_int) (pda_cons (pd_ix ix_seq opl_ix (pd_var (pv 0)) pd_int) pda_nil)))))))
  exact h
theorem ok_law_entries {P : Program} {w : World} {K : PySem.W.Frag} {mg : Str → Option Value} {base : Heap} (T : TX K mg base) : OkF P w K mg base 1 "_law_entries" (He.fAd K ("_law_entries", none)) ["mix"] (sp_law_entries K) := by
  obtain ⟨fd, F⟩ := T.says.def_ 28 (d := ⟨("_law_entries", none), "_law_entries", "_law_entries", defArgs s_law_entries, defBody s_law_entries, defScope s_law_entries, [], []⟩) rfl
  have bd : Binds K fd ["mix"] [] := FunD.bindsN F fun _ _ _ _ _ _ us hl => match us, hl with | [_], _ => rfl
  refine ⟨fd, fn_d (wb := wb_law_entries K) F sc_law_entries (fun cdv A outer s H E hr tk => ?_) (pure_law_entries T.tp), ⟨fun _ => T.glo 81 rfl, F.kp, bd⟩⟩
  have h := (show PDSs (defX P w K mg base ["mix", "found", "at", "a", "b"] "_law_entries" (defScope s_law_entries) (He.fAd K ("_law_entries", none)) cdv A outer s H E) (fun cls d _ H => E cls d H) (defBody s_law_entries) _ from (pds_cons (PS.imp (ps_par (i := 1) (j := 2) (by rfl) sc_law_entries.nd (by rfl) (by rfl) (by decide) (by rfl) (by rfl) (pda_cons pd_dnew (pda_cons pd_int pda_nil)) (by rfl)) fun _ _ _ h => wpar_imp h)
      (pds_cons (pds_forR1 (passes_of (by rfl)) (by rfl) (by rfl) (T.free 37 rfl) (pda_cons (pd_ix ix_seq opl_ix (pd_var (pv 0)) pd_int) pda_nil) (pdg_name (i := 3) sc_law_entries.nd (by rfl) (by first | exact .inl rfl | exact .inr rfl)) (pds_one (pds_forR2 (passes_of (by rfl)) (by rfl) (by rfl) (T.free 37 rfl) (pda_cons (pd_var (pv 3)) (pda_cons (pd_ix ix_seq opl_ix (pd_var (pv 0)) pd_int) pda_nil)) (pdg_name (i := 4) sc_law_entries.nd (by rfl) (by first | exact .inl rfl | exact .inr rfl)) (pds_cons (pds_dput (hu1 hr) (pd_var (pv 1)) (pd_tup (pda_cons (pd_var (pv 3)) (pda_cons (pd_var (pv 4)) pda_nil))) (pd_ix ix_seq opl_ix (pd_ix ix_seq opl_ix (pd_var (pv 0)) pd_int) (pd_var (pv 2))))
      (pds_cons (pds_dput (hu1 hr) (pd_var (pv 1)) (pd_tup (pda_cons (pd_var (pv 4)) (pda_cons (pd_var (pv 3)) pda_nil))) (pd_ix ix_seq opl_ix (pd_ix ix_seq opl_ix (pd_var (pv 0)) pd_int) (pd_var (pv 2))))
      (pds_one (pds_set (i := 2) sc_law_entries.nd (by rfl) (by first | exact .inl rfl | exact .inr rfl) (pd_op op_addX opl_add (pd_var (pv 2)) pd_int))))))))
      (pds_one (pds_ret (pd_var (pv 1)))))))
  exact h
theorem ok_law_is_in {P : Program} {w : World} {K : PySem.W.Frag} {mg : Str → Option Value} {base : Heap} (T : TX K mg base) : OkF P w K mg base 1 "_law_is_in" (He.fAd K ("_law_is_in", none)) ["thing", "least", "top"] (sp_law_is_in K) := by
  obtain ⟨fd, F⟩ := T.says.def_ 29 (d := ⟨("_law_is_in", none), "_law_is_in", "_law_is_in", defArgs s_law_is_in, defBody s_law_is_in, defScope s_law_is_in, [], []⟩) rfl
  have bd : Binds K fd ["thing", "least", "top"] [] := FunD.bindsN F fun _ _ _ _ _ _ us hl => match us, hl with | [_, _, _], _ => rfl
  refine ⟨fd, fn_d (wb := wb_law_is_in K) F sc_law_is_in (fun cdv A outer s H E hr tk => ?_) (pure_law_is_in T.tp), ⟨fun _ => T.glo 82 rfl, F.kp, bd⟩⟩
  have h := (show PDSs (defX P w K mg base ["thing", "least", "top"] "_law_is_in" (defScope s_law_is_in) (He.fAd K ("_law_is_in", none)) cdv A outer s H E) (fun cls d _ H => E cls d H) (defBody s_law_is_in) _ from (pds_one (pds_ret (pd_and (pd_callB call_isi calll_isi (by rfl) (T.free 0 rfl) (by rfl) (pda_cons (pd_var (pv 0)) (pda_cons (pd_ty (by rfl) (T.free 1 rfl) (by rfl)) pda_nil))) (pd_and (pd_not (pd_callB call_isi calll_isi (by rfl) (T.free 0 rfl) (by rfl) (pda_cons (pd_var (pv 0)) (pda_cons (pd_ty (by rfl) (T.free 2 rfl) (by rfl)) pda_nil)))) (pd_one (pd_chain op_le op_le (opc_rI0 fun _ _ _ => mk_bl) (opc_rI0 fun _ _ _ => mk_bl) (pd_var (pv 1)) (pd_var (pv 0)) (pd_var (pv 2)))))))))
  exact h
theorem ok_law_after {P : Program} {w : World} {K : PySem.W.Frag} {mg : Str → Option Value} {base : Heap} (T : TX K mg base) : OkF P w K mg base 2 "_law_after" (He.fAd K ("_law_after", none)) ["mix", "states", "deed"] (sp_law_after K) := by
  obtain ⟨fd_law_is_in, F_law_is_in, O_law_is_in⟩ := ok_law_is_in (P := P) (w := w) T
  obtain ⟨fd_law_entries, F_law_entries, O_law_entries⟩ := ok_law_entries (P := P) (w := w) T
  obtain ⟨fd, F⟩ := T.says.def_ 30 (d := ⟨("_law_after", none), "_law_after", "_law_after", defArgs s_law_after, defBody s_law_after, defScope s_law_after, [], []⟩) rfl
  have bd : Binds K fd ["mix", "states", "deed"] [] := FunD.bindsN F fun _ _ _ _ _ _ us hl => match us, hl with | [_, _, _], _ => rfl
  refine ⟨fd, fn_d (wb := wb_law_after K) F sc_law_after (fun cdv A outer s H E hr tk => ?_) (pure_law_after T.tp), ⟨fun _ => T.glo 83 rfl, F.kp, bd⟩⟩
  have h := (show PDSs (defX P w K mg base ["mix", "states", "deed", "kinds_here", "given_here", "amounts_here", "kind", "gift", "at", "fresh", "a", "b", "left"] "_law_after" (defScope s_law_after) (He.fAd K ("_law_after", none)) cdv A outer s H E) (fun cls d _ H => E cls d H) (defBody s_law_after) _ from (pds_cons (pds_asg (pd_ix ix_seq opl_ix (pd_var (pv 1)) (pd_un un_neg unl_neg pd_int)) (pdg_tup (by rfl) (pdgs_cons (pdg_name (i := 3) sc_law_after.nd (by rfl) (by first | exact .inl rfl | exact .inr rfl)) (pdgs_cons (pdg_name (i := 4) sc_law_after.nd (by rfl) (by first | exact .inl rfl | exact .inr rfl)) (pdgs_cons (pdg_name (i := 5) sc_law_after.nd (by rfl) (by first | exact .inl rfl | exact .inr rfl)) pdgs_nil)))))
      (pds_cons (pds_if (pdt_cmp (op_eqX (hu64 hr)) opl_eq (pd_ix ix_seq opl_ix (pd_var (pv 2)) pd_int) pd_str (nomark _)) (pds_one (pds_ret (pd_if (pdt_cmp op_gt (opc_rI0 fun _ _ _ => mk_bl) (pd_callB call_len calll_len (by rfl) (T.free 4 rfl) (by rfl) (pda_cons (pd_var (pv 1)) pda_nil)) pd_int (nomark _)) (pd_tup (pda_cons (pd_tup (pda_cons pd_str (pda_cons pd_non pda_nil))) (pda_cons (pd_slice (pd_var (pv 1)) pdo_none (pdo_some (pd_un un_neg unl_neg pd_int))) pda_nil))) (pd_tup (pda_cons (pd_tup (pda_cons pd_str (pda_cons pd_str pda_nil))) (pda_cons (pd_var (pv 1)) pda_nil)))))) pds_nil)
      (pds_cons (pds_if (pdt_cmp (op_eqX (hu64 hr)) opl_eq (pd_ix ix_seq opl_ix (pd_var (pv 2)) pd_int) pd_str (nomark _)) (pds_cons (pds_if (pdt_not (pdt_val (pd_call F_law_is_in (hr.mono (by decide)) tk (by rfl) (O_law_is_in.mg (by decide)) O_law_is_in.kp O_law_is_in.bd (pda_cons (pd_ix ix_seq opl_ix (pd_var (pv 2)) pd_int) (pda_cons pd_int (pda_cons (pd_op op_sub (opl_rI0 fun _ _ _ => mk_int) (pd_callB call_len calll_len (by rfl) (T.free 4 rfl) (by rfl) (pda_cons (pd_ix ix_seq opl_ix (pd_var (pv 0)) pd_int) pda_nil)) pd_int) pda_nil)))))) (pds_one (pds_ret (pd_tup (pda_cons (pd_tup (pda_cons pd_str (pda_cons (pd_ix ix_seq opl_ix (pd_var (pv 2)) pd_int) pda_nil))) (pda_cons (pd_var (pv 1)) pda_nil))))) pds_nil)
      (pds_cons (pds_asg (pd_ix ix_seq opl_ix (pd_ix ix_seq opl_ix (pd_var (pv 0)) pd_int) (pd_ix ix_seq opl_ix (pd_var (pv 2)) pd_int)) (pdg_tup (by rfl) (pdgs_cons (pdg_name (i := 6) sc_law_after.nd (by rfl) (by first | exact .inl rfl | exact .inr rfl)) (pdgs_cons (pdg_name (i := 7) sc_law_after.nd (by rfl) (by first | exact .inl rfl | exact .inr rfl)) pdgs_nil))))
      (pds_cons (pds_set (i := 8) sc_law_after.nd (by rfl) (by first | exact .inl rfl | exact .inr rfl) (pd_ix ix_seq opl_ix (pd_var (pv 2)) pd_int))
      (pds_cons (pds_set (i := 5) sc_law_after.nd (by rfl) (by first | exact .inl rfl | exact .inr rfl) (pd_op op_addX opl_add (pd_op op_addX opl_add (pd_slice (pd_var (pv 5)) pdo_none (pdo_some (pd_var (pv 8)))) (pd_tup (pda_cons (pd_op op_addX opl_add (pd_ix ix_seq opl_ix (pd_var (pv 5)) (pd_var (pv 8))) pd_int) pda_nil))) (pd_slice (pd_var (pv 5)) (pdo_some (pd_op op_addX opl_add (pd_var (pv 8)) pd_int)) pdo_none)))
      (pds_one (pds_set (i := 9) sc_law_after.nd (by rfl) (by first | exact .inl rfl | exact .inr rfl) (pd_tup (pda_cons (pd_op op_addX opl_add (pd_var (pv 3)) (pd_tup (pda_cons (pd_var (pv 6)) pda_nil))) (pda_cons (pd_op op_addX opl_add (pd_var (pv 4)) (pd_var (pv 7))) (pda_cons (pd_var (pv 5)) pda_nil)))))))))) (pds_cons (PS.imp (ps_par (i := 10) (j := 11) (by rfl) sc_law_after.nd (by rfl) (by rfl) (by decide) (by rfl) (by rfl) (pda_cons (pd_ix ix_seq opl_ix (pd_var (pv 2)) pd_int) (pda_cons (pd_ix ix_seq opl_ix (pd_var (pv 2)) pd_int) pda_nil)) (by rfl)) fun _ _ _ h => wpar_imp h)
      (pds_cons (pds_if (pdt_w (pdw_or (pdt_not (pdt_val (pd_call F_law_is_in (hr.mono (by decide)) tk (by rfl) (O_law_is_in.mg (by decide)) O_law_is_in.kp O_law_is_in.bd (pda_cons (pd_var (pv 10)) (pda_cons pd_int (pda_cons (pd_op op_sub (opl_rI0 fun _ _ _ => mk_int) (pd_callB call_len calll_len (by rfl) (T.free 4 rfl) (by rfl) (pda_cons (pd_var (pv 3)) pda_nil)) pd_int) pda_nil)))))) (pdw_or1 (pdt_not (pdt_val (pd_call F_law_is_in (hr.mono (by decide)) tk (by rfl) (O_law_is_in.mg (by decide)) O_law_is_in.kp O_law_is_in.bd (pda_cons (pd_var (pv 11)) (pda_cons (pd_op op_addX opl_add (pd_var (pv 10)) pd_int) (pda_cons (pd_op op_sub (opl_rI0 fun _ _ _ => mk_int) (pd_callB call_len calll_len (by rfl) (T.free 4 rfl) (by rfl) (pda_cons (pd_var (pv 3)) pda_nil)) pd_int) pda_nil))))))))) (pds_one (pds_ret (pd_tup (pda_cons (pd_tup (pda_cons pd_str (pda_cons pd_non pda_nil))) (pda_cons (pd_var (pv 1)) pda_nil))))) pds_nil)
      (pds_cons (pds_asg (pd_dget (hu1 hr) (pd_call F_law_entries (hr.mono (by decide)) tk (by rfl) (O_law_entries.mg (by decide)) O_law_entries.kp O_law_entries.bd (pda_cons (pd_var (pv 0)) pda_nil)) (pd_tup (pda_cons (pd_ix ix_seq opl_ix (pd_var (pv 3)) (pd_var (pv 10))) (pda_cons (pd_ix ix_seq opl_ix (pd_var (pv 3)) (pd_var (pv 11))) pda_nil)))) (pdg_tup (by rfl) (pdgs_cons (pdg_name (i := 6) sc_law_after.nd (by rfl) (by first | exact .inl rfl | exact .inr rfl)) (pdgs_cons (pdg_name (i := 7) sc_law_after.nd (by rfl) (by first | exact .inl rfl | exact .inr rfl)) pdgs_nil))))
      (pds_cons (pds_set (i := 12) sc_law_after.nd (by rfl) (by first | exact .inl rfl | exact .inr rfl) (pd_op op_addX opl_add (pd_op op_addX opl_add (pd_op op_addX opl_add (pd_slice (pd_var (pv 3)) pdo_none (pdo_some (pd_var (pv 10)))) (pd_tup (pda_cons (pd_var (pv 6)) pda_nil))) (pd_slice (pd_var (pv 3)) (pdo_some (pd_op op_addX opl_add (pd_var (pv 10)) pd_int)) (pdo_some (pd_var (pv 11))))) (pd_slice (pd_var (pv 3)) (pdo_some (pd_op op_addX opl_add (pd_var (pv 11)) pd_int)) pdo_none)))
      (pds_one (pds_set (i := 9) sc_law_after.nd (by rfl) (by first | exact .inl rfl | exact .inr rfl) (pd_tup (pda_cons (pd_var (pv 12)) (pda_cons (pd_op op_addX opl_add (pd_var (pv 4)) (pd_var (pv 7))) (pda_cons (pd_var (pv 5)) pda_nil)))))))))))
      (pds_cons (pds_if (pdt_cmp op_gt (opc_rI0 fun _ _ _ => mk_bl) (pd_callB call_len calll_len (by rfl) (T.free 4 rfl) (by rfl) (pda_cons (pd_var (pv 1)) pda_nil)) pd_int (nomark _)) (pds_one (pds_ret (pd_tup (pda_cons (pd_tup (pda_cons pd_str (pda_cons pd_int pda_nil))) (pda_cons (pd_var (pv 1)) pda_nil))))) pds_nil)
      (pds_one (pds_ret (pd_tup (pda_cons (pd_tup (pda_cons pd_str (pda_cons (pd_var (pv 7)) pda_nil))) (pda_cons (pd_op op_addX opl_add (pd_var (pv 1)) (pd_lst (pda_cons (pd_var (pv 9)) pda_nil))) pda_nil))))))))))
  exact h
theorem ok_law_begun {P : Program} {w : World} {K : PySem.W.Frag} {mg : Str → Option Value} {base : Heap} (T : TX K mg base) : OkF P w K mg base 1 "_law_begun" (He.fAd K ("_law_begun", none)) ["mix"] (sp_law_begun K) := by
  obtain ⟨fd, F⟩ := T.says.def_ 31 (d := ⟨("_law_begun", none), "_law_begun", "_law_begun", defArgs s_law_begun, defBody s_law_begun, defScope s_law_begun, [], []⟩) rfl
  have bd : Binds K fd ["mix"] [] := FunD.bindsN F fun _ _ _ _ _ _ us hl => match us, hl with | [_], _ => rfl
  refine ⟨fd, fn_d (wb := wb_law_begun K) F sc_law_begun (fun cdv A outer s H E hr tk => ?_) (pure_law_begun T.tp), ⟨fun _ => T.glo 84 rfl, F.kp, bd⟩⟩
  have h := (show PDSs (defX P w K mg base ["mix"] "_law_begun" (defScope s_law_begun) (He.fAd K ("_law_begun", none)) cdv A outer s H E) (fun cls d _ H => E cls d H) (defBody s_law_begun) _ from (pds_one (pds_ret (pd_lst (pda_cons (pd_tup (pda_cons (pd_tup pda_nil) (pda_cons pd_int (pda_cons (pd_op op_mulTup opl_mulTup (pd_tup (pda_cons pd_int pda_nil)) (pd_callB call_len calll_len (by rfl) (T.free 4 rfl) (by rfl) (pda_cons (pd_ix ix_seq opl_ix (pd_var (pv 0)) pd_int) pda_nil))) pda_nil)))) pda_nil)))))
  exact h
theorem ok_law_shows {P : Program} {w : World} {K : PySem.W.Frag} {mg : Str → Option Value} {base : Heap} (T : TX K mg base) : OkF P w K mg base 5 "_law_shows" (He.fAd K ("_law_shows", none)) ["pot_here", "states"] (sp_law_shows K) := by
  obtain ⟨fd_PotX_reprX, F_PotX_reprX, O_PotX_reprX⟩ := ok_PotX_reprX (P := P) (w := w) T
  obtain ⟨fd_PotX_lenX, F_PotX_lenX, O_PotX_lenX⟩ := ok_PotX_lenX (P := P) (w := w) T
  obtain ⟨fd, F⟩ := T.says.def_ 32 (d := ⟨("_law_shows", none), "_law_shows", "_law_shows", defArgs s_law_shows, defBody s_law_shows, defScope s_law_shows, [], []⟩) rfl
  have bd : Binds K fd ["pot_here", "states"] [] := FunD.bindsN F fun _ _ _ _ _ _ us hl => match us, hl with | [_, _], _ => rfl
  refine ⟨fd, fn_d (wb := wb_law_shows K) F sc_law_shows (fun cdv A outer s H E hr tk => ?_) (pure_law_shows T.tp), ⟨fun _ => T.glo 85 rfl, F.kp, bd⟩⟩
  have h := (show PDSs (defX P w K mg base ["pot_here", "states", "kinds_here", "given_here", "amounts_here", "told", "spelled", "due"] "_law_shows" (defScope s_law_shows) (He.fAd K ("_law_shows", none)) cdv A outer s H E) (fun cls d _ H => E cls d H) (defBody s_law_shows) _ from (pds_cons (pds_asg (pd_ix ix_seq opl_ix (pd_var (pv 1)) (pd_un un_neg unl_neg pd_int)) (pdg_tup (by rfl) (pdgs_cons (pdg_name (i := 2) sc_law_shows.nd (by rfl) (by first | exact .inl rfl | exact .inr rfl)) (pdgs_cons (pdg_name (i := 3) sc_law_shows.nd (by rfl) (by first | exact .inl rfl | exact .inr rfl)) (pdgs_cons (pdg_name (i := 4) sc_law_shows.nd (by rfl) (by first | exact .inl rfl | exact .inr rfl)) pdgs_nil)))))
      (pds_cons (pds_set (i := 5) sc_law_shows.nd (by rfl) (by first | exact .inl rfl | exact .inr rfl) (pd_lst (pda_cons (pd_fldC (f := "kinds") (T.cl 22 rfl) (T.no 24 rfl) (pd_var (pv 0))) (pda_cons (pd_fldC (f := "given") (T.cl 22 rfl) (T.no 25 rfl) (pd_var (pv 0))) (pda_cons (pd_fldC (f := "amounts") (T.cl 22 rfl) (T.no 26 rfl) (pd_var (pv 0))) (pda_cons (pd_lenO (lenC_of (T.mtc 41 rfl) (T.no 42 rfl)) F_PotX_lenX (by rfl) (hr.mono (by decide)) tk O_PotX_lenX.bd (by rfl) (T.free 4 rfl) (pda_cons (pd_var (pv 0)) pda_nil)) (pda_cons (pd_boolO (lenC_of (T.mtc 41 rfl) (T.no 42 rfl)) F_PotX_lenX (by rfl) (hr.mono (by decide)) tk O_PotX_lenX.bd (by rfl) (T.free 2 rfl) (pda_cons (pd_var (pv 0)) pda_nil)) (pda_cons (pd_reprO (repC_of (T.mtc 40 rfl)) F_PotX_reprX (by rfl) (hr.mono (by decide)) tk O_PotX_reprX.bd (by rfl) (T.free 39 rfl) (pda_cons (pd_var (pv 0)) pda_nil)) pda_nil))))))))
      (pds_cons (pds_set (i := 6) sc_law_shows.nd (by rfl) (by first | exact .inl rfl | exact .inr rfl) (pd_op op_addX opl_add (pd_op op_addX opl_add (pd_op op_addX opl_add (pd_op op_addX opl_add pd_str (pd_callT call_str_int calll_str (by rfl) (T.free 43 rfl) (by rfl) (pda_cons (pd_callB call_len calll_len (by rfl) (T.free 4 rfl) (by rfl) (pda_cons (pd_var (pv 2)) pda_nil)) pda_nil))) pd_str) (pd_callT call_str_int calll_str (by rfl) (T.free 43 rfl) (by rfl) (pda_cons (pd_var (pv 3)) pda_nil))) pd_str))
      (pds_cons (pds_set (i := 7) sc_law_shows.nd (by rfl) (by first | exact .inl rfl | exact .inr rfl) (pd_lst (pda_cons (pd_var (pv 2)) (pda_cons (pd_var (pv 3)) (pda_cons (pd_var (pv 4)) (pda_cons (pd_callB call_len calll_len (by rfl) (T.free 4 rfl) (by rfl) (pda_cons (pd_var (pv 2)) pda_nil)) (pda_cons (pd_cmp (op_neX (hu64 hr)) opl_ne (pd_var (pv 2)) (pd_tup pda_nil) (nomark _)) (pda_cons (pd_var (pv 6)) pda_nil))))))))
      (pds_one (pds_ret (pd_and (pd_cmp (op_eqX (hu64 hr)) opl_eq (pd_callB (call_reprD hr.gd (hu151 hr)) calll_repr (by rfl) (T.free 39 rfl) (by rfl) (pda_cons (pd_var (pv 5)) pda_nil)) (pd_callB (call_reprD hr.gd (hu151 hr)) calll_repr (by rfl) (T.free 39 rfl) (by rfl) (pda_cons (pd_var (pv 7)) pda_nil)) (nomark _)) (pd_one (pd_cmp op_is_bl opl_isB (pd_fldC (f := "busy") (T.cl 22 rfl) (T.no 28 rfl) (pd_var (pv 0))) pd_bl (nomark _)))))))))))
  exact h
theorem ok_law_do {P : Program} {w : World} {K : PySem.W.Frag} {mg : Str → Option Value} {base : Heap} (T : TX K mg base) : OkF P w K mg base 6 "_law_do" (He.fAd K ("_law_do", none)) ["pot_here", "deed"] (sp_law_do K) := by
  obtain ⟨fd_Pot_undo, F_Pot_undo, O_Pot_undo⟩ := ok_Pot_undo (P := P) (w := w) T
  obtain ⟨fd_Pot_put, F_Pot_put, O_Pot_put⟩ := ok_Pot_put (P := P) (w := w) T
  obtain ⟨fd_Pot_meet, F_Pot_meet, O_Pot_meet⟩ := ok_Pot_meet (P := P) (w := w) T
  obtain ⟨fd, F⟩ := T.says.def_ 33 (d := ⟨("_law_do", none), "_law_do", "_law_do", defArgs s_law_do, defBody s_law_do, defScope s_law_do, [], []⟩) rfl
  have bd : Binds K fd ["pot_here", "deed"] [] := FunD.bindsN F fun _ _ _ _ _ _ us hl => match us, hl with | [_, _], _ => rfl
  refine ⟨fd, fn_d (wb := wb_law_do K) F sc_law_do (fun cdv A outer s H E hr tk => ?_) (pure_law_do T.tp), ⟨fun _ => T.glo 86 rfl, F.kp, bd⟩⟩
  have h := (show PDSs (defX P w K mg base ["pot_here", "deed"] "_law_do" (defScope s_law_do) (He.fAd K ("_law_do", none)) cdv A outer s H E) (fun cls d _ H => E cls d H) (defBody s_law_do) _ from (pds_cons (pds_if (pdt_cmp (op_eqX (hu64 hr)) opl_eq (pd_ix ix_seq opl_ix (pd_var (pv 1)) pd_int) pd_str (nomark _)) (pds_one (pds_ret (pd_meth0 (T.cl 22 rfl) (T.mtc 44 rfl) F_Pot_undo (hr.mono (by decide)) tk O_Pot_undo.bd (pd_var (pv 0))))) pds_nil)
      (pds_one (pds_ret (pd_if (pdt_cmp (op_eqX (hu64 hr)) opl_eq (pd_ix ix_seq opl_ix (pd_var (pv 1)) pd_int) pd_str (nomark _)) (pd_meth (T.cl 22 rfl) (T.mtc 45 rfl) F_Pot_put (hr.mono (by decide)) tk O_Pot_put.bd (pd_var (pv 0)) (pda_cons (pd_ix ix_seq opl_ix (pd_var (pv 1)) pd_int) pda_nil)) (pd_meth (T.cl 22 rfl) (T.mtc 46 rfl) F_Pot_meet (hr.mono (by decide)) tk O_Pot_meet.bd (pd_var (pv 0)) (pda_cons (pd_ix ix_seq opl_ix (pd_var (pv 1)) pd_int) (pda_cons (pd_ix ix_seq opl_ix (pd_var (pv 1)) pd_int) pda_nil))))))))
  exact h
theorem ok_law_alike {P : Program} {w : World} {K : PySem.W.Frag} {mg : Str → Option Value} {base : Heap} (T : TX K mg base) : OkF P w K mg base 1 "_law_alike" (He.fAd K ("_law_alike", none)) ["told", "due"] (sp_law_alike K) := by
  obtain ⟨fd, F⟩ := T.says.def_ 34 (d := ⟨("_law_alike", none), "_law_alike", "_law_alike", defArgs s_law_alike, defBody s_law_alike, defScope s_law_alike, [], []⟩) rfl
  have bd : Binds K fd ["told", "due"] [] := FunD.bindsN F fun _ _ _ _ _ _ us hl => match us, hl with | [_, _], _ => rfl
  refine ⟨fd, fn_d (wb := wb_law_alike K) F sc_law_alike (fun cdv A outer s H E hr tk => ?_) (pure_law_alike T.tp), ⟨fun _ => T.glo 87 rfl, F.kp, bd⟩⟩
  have h := (show PDSs (defX P w K mg base ["told", "due"] "_law_alike" (defScope s_law_alike) (He.fAd K ("_law_alike", none)) cdv A outer s H E) (fun cls d _ H => E cls d H) (defBody s_law_alike) _ from (pds_one (pds_ret (pd_cmp (op_eqX (hu64 hr)) opl_eq (pd_callB (call_reprD hr.gd (hu151 hr)) calll_repr (by rfl) (T.free 39 rfl) (by rfl) (pda_cons (pd_var (pv 0)) pda_nil)) (pd_callB (call_reprD hr.gd (hu151 hr)) calll_repr (by rfl) (T.free 39 rfl) (by rfl) (pda_cons (pd_var (pv 1)) pda_nil)) (nomark _)))))
  exact h
theorem ok_law_sort {P : Program} {w : World} {K : PySem.W.Frag} {mg : Str → Option Value} {base : Heap} (T : TX K mg base) : OkE P w K mg base 1 "_law_sort" (He.fAd K ("_law_sort", none)) ["e"] (sp_law_sort K) := by
  obtain ⟨fd, F⟩ := T.says.def_ 35 (d := ⟨("_law_sort", none), "_law_sort", "_law_sort", defArgs s_law_sort, defBody s_law_sort, defScope s_law_sort, [], []⟩) rfl
  have bd : Binds K fd ["e"] [] := FunD.bindsN F fun _ _ _ _ _ _ us hl => match us, hl with | [_], _ => rfl
  refine ⟨fd, fn_dE (wb := wb_law_sort K) F sc_law_sort (fun cdv A outer s H E p C d hr hz hf hE => ?_) (pure_law_sort T.tp), ⟨fun _ => T.glo 88 rfl, F.kp, bd⟩⟩
  have h := (show PDSs (excX P w K mg base ["e", "own", "bases", "kin", "at", "words"] "_law_sort" (defScope s_law_sort) (He.fAd K ("_law_sort", none)) cdv A outer s H E p) W0 (defBody s_law_sort) _ from (pds_cons (pds_set (i := 1) sc_law_sort.nd (by rfl) (by first | exact .inl rfl | exact .inr rfl) (pd_lst (pda_cons (pd_callB (call_isiE hE List.mem_cons_self hz hf) calll_isiE (by rfl) (T.free 0 rfl) (by rfl) (pda_cons (pd_var (pv 0)) (pda_cons (pd_ref (by rfl) (T.glo 50 rfl)) pda_nil))) (pda_cons (pd_callB (call_isiE hE List.mem_cons_self hz hf) calll_isiE (by rfl) (T.free 0 rfl) (by rfl) (pda_cons (pd_var (pv 0)) (pda_cons (pd_ref (by rfl) (T.glo 49 rfl)) pda_nil))) (pda_cons (pd_callB (call_isiE hE List.mem_cons_self hz hf) calll_isiE (by rfl) (T.free 0 rfl) (by rfl) (pda_cons (pd_var (pv 0)) (pda_cons (pd_ref (by rfl) (T.glo 48 rfl)) pda_nil))) (pda_cons (pd_callB (call_isiE hE List.mem_cons_self hz hf) calll_isiE (by rfl) (T.free 0 rfl) (by rfl) (pda_cons (pd_var (pv 0)) (pda_cons (pd_ref (by rfl) (T.glo 47 rfl)) pda_nil))) pda_nil))))))
      (pds_cons (pds_set (i := 1) sc_law_sort.nd (by rfl) (by first | exact .inl rfl | exact .inr rfl) (pd_op op_addX opl_add (pd_var (pv 1)) (pd_lst (pda_cons (pd_callB (call_isiE hE List.mem_cons_self hz hf) calll_isiE (by rfl) (T.free 0 rfl) (by rfl) (pda_cons (pd_var (pv 0)) (pda_cons (pd_ref (by rfl) (T.glo 53 rfl)) pda_nil))) (pda_cons (pd_callB (call_isiE hE List.mem_cons_self hz hf) calll_isiE (by rfl) (T.free 0 rfl) (by rfl) (pda_cons (pd_var (pv 0)) (pda_cons (pd_ref (by rfl) (T.glo 52 rfl)) pda_nil))) (pda_cons (pd_callB (call_isiE hE List.mem_cons_self hz hf) calll_isiE (by rfl) (T.free 0 rfl) (by rfl) (pda_cons (pd_var (pv 0)) (pda_cons (pd_ref (by rfl) (T.glo 51 rfl)) pda_nil))) pda_nil))))))
      (pds_cons (pds_set (i := 1) sc_law_sort.nd (by rfl) (by first | exact .inl rfl | exact .inr rfl) (pd_op op_addX opl_add (pd_var (pv 1)) (pd_lst (pda_cons (pd_callB (call_isiE hE List.mem_cons_self hz hf) calll_isiE (by rfl) (T.free 0 rfl) (by rfl) (pda_cons (pd_var (pv 0)) (pda_cons (pd_ref (by rfl) (T.glo 56 rfl)) pda_nil))) (pda_cons (pd_callB (call_isiE hE List.mem_cons_self hz hf) calll_isiE (by rfl) (T.free 0 rfl) (by rfl) (pda_cons (pd_var (pv 0)) (pda_cons (pd_ref (by rfl) (T.glo 55 rfl)) pda_nil))) (pda_cons (pd_callB (call_isiE hE List.mem_cons_self hz hf) calll_isiE (by rfl) (T.free 0 rfl) (by rfl) (pda_cons (pd_var (pv 0)) (pda_cons (pd_ref (by rfl) (T.glo 54 rfl)) pda_nil))) pda_nil))))))
      (pds_cons (pds_set (i := 2) sc_law_sort.nd (by rfl) (by first | exact .inl rfl | exact .inr rfl) (pd_lst (pda_cons (pd_callB (call_isiE hE List.mem_cons_self hz hf) calll_isiE (by rfl) (T.free 0 rfl) (by rfl) (pda_cons (pd_var (pv 0)) (pda_cons (pd_ref (by rfl) (T.glo 59 rfl)) pda_nil))) (pda_cons (pd_callB (call_isiE hE List.mem_cons_self hz hf) calll_isiE (by rfl) (T.free 0 rfl) (by rfl) (pda_cons (pd_var (pv 0)) (pda_cons (pd_ref (by rfl) (T.glo 58 rfl)) pda_nil))) (pda_cons (pd_callB (call_isiE hE List.mem_cons_self hz hf) calll_isiE (by rfl) (T.free 0 rfl) (by rfl) (pda_cons (pd_var (pv 0)) (pda_cons (pd_ref (by rfl) (T.glo 57 rfl)) pda_nil))) pda_nil)))))
      (pds_cons (pds_set (i := 3) sc_law_sort.nd (by rfl) (by first | exact .inl rfl | exact .inr rfl) (pd_lst (pda_cons (pd_callB (call_isiE hE List.mem_cons_self hz hf) calll_isiE (by rfl) (T.free 0 rfl) (by rfl) (pda_cons (pd_var (pv 0)) (pda_cons (pd_ty (by rfl) (T.free 62 rfl) (by rfl)) pda_nil))) (pda_cons (pd_callB (call_isiE hE List.mem_cons_self hz hf) calll_isiE (by rfl) (T.free 0 rfl) (by rfl) (pda_cons (pd_var (pv 0)) (pda_cons (pd_ty (by rfl) (T.free 61 rfl) (by rfl)) pda_nil))) (pda_cons (pd_callB (call_isiE hE List.mem_cons_self hz hf) calll_isiE (by rfl) (T.free 0 rfl) (by rfl) (pda_cons (pd_var (pv 0)) (pda_cons (pd_ty (by rfl) (T.free 60 rfl) (by rfl)) pda_nil))) pda_nil)))))
      (pds_cons (pds_set (i := 4) sc_law_sort.nd (by rfl) (by first | exact .inl rfl | exact .inr rfl) (pd_if (pdt_cmp (op_eqX (hu64H hr)) opl_eq (pd_count (hu65H hr) (pd_var (pv 1)) (pda_cons pd_bl pda_nil)) pd_int (nomark _)) (pd_index (hu65H hr) (pd_var (pv 1)) (pda_cons pd_bl pda_nil)) pd_int))
      (pds_cons (pds_if (pdt_w (pdw_or (pdt_cmp (op_neX (hu64H hr)) opl_ne (pd_var (pv 2)) (pd_var (pv 3)) (nomark _)) (pdw_or1 (pdt_cmp (op_neX (hu64H hr)) opl_ne (pd_var (pv 2)) (pd_lst (pda_cons (pd_cmp op_lt (opc_rI0 fun _ _ _ => mk_bl) (pd_var (pv 4)) pd_int (nomark _)) (pda_cons (pd_chain op_lt op_lt (opc_rI0 fun _ _ _ => mk_bl) (opc_rI0 fun _ _ _ => mk_bl) pd_int (pd_var (pv 4)) pd_int) (pda_cons (pd_cmp (op_eqX (hu64H hr)) opl_eq (pd_var (pv 4)) pd_int (nomark _)) pda_nil)))) (nomark _))))) (pds_one (pds_ret (pd_tup (pda_cons pd_str (pda_cons pd_str pda_nil))))) pds_nil)
      (pds_cons (pds_set (i := 5) sc_law_sort.nd (by rfl) (by first | exact .inl rfl | exact .inr rfl) (pd_lst (pda_cons pd_str (pda_cons pd_str (pda_cons pd_str (pda_cons pd_str (pda_cons pd_str (pda_cons pd_str (pda_cons pd_str (pda_cons pd_str (pda_cons pd_str (pda_cons pd_str pda_nil))))))))))))
      (pds_cons (pds_if (pdt_cmp op_in_seq opl_in (pd_var (pv 4)) (pd_lst (pda_cons pd_int (pda_cons pd_int pda_nil))) (by rfl)) (pds_one (pds_ret (pd_tup (pda_cons (pd_ix ix_seq opl_ix (pd_var (pv 5)) (pd_var (pv 4))) (pda_cons pd_str pda_nil))))) pds_nil)
      (pds_cons (pds_if (pdt_cmp (op_eqX (hu64H hr)) opl_eq (pd_var (pv 4)) pd_int (nomark _)) (pds_one (pds_ret (pd_tup (pda_cons pd_str (pda_cons (pd_byE (f := "limit") hE List.mem_cons_self hz hf (pd_var (pv 0))) pda_nil))))) pds_nil)
      (pds_one (pds_ret (pd_tup (pda_cons (pd_ix ix_seq opl_ix (pd_var (pv 5)) (pd_var (pv 4))) (pda_cons (pd_if (pdt_cmp op_lt (opc_rI0 fun _ _ _ => mk_bl) (pd_var (pv 4)) pd_int (nomark _)) (pd_byE (f := "value") hE List.mem_cons_self hz hf (pd_var (pv 0))) (pd_byE (f := "index") hE List.mem_cons_self hz hf (pd_var (pv 0)))) pda_nil))))))))))))))))
  exact h
theorem ok_law_caught {P : Program} {w : World} {K : PySem.W.Frag} {mg : Str → Option Value} {base : Heap} (T : TX K mg base) : OkP P w K mg base 16 15 "_law_caught" (He.fAd K ("_law_caught", none)) ["act_here"] (sp_law_caught K) := by
  obtain ⟨fd_law_sort, F_law_sort, O_law_sort⟩ := ok_law_sort (P := P) (w := w) T
  obtain ⟨fd, F⟩ := T.says.def_ 36 (d := ⟨("_law_caught", none), "_law_caught", "_law_caught", defArgs s_law_caught, defBody s_law_caught, defScope s_law_caught, [], []⟩) rfl
  have bd : Binds K fd ["act_here"] [] := FunD.bindsN F fun _ _ _ _ _ _ us hl => match us, hl with | [_], _ => rfl
  refine ⟨fd, fn_dP (wb := wb_law_caught K) F sc_law_caught (fun Φ cdv A outer s H E hr tk ca => ?_) (pure_law_caught T.tp), ⟨fun _ => T.glo 89 rfl, F.kp, bd⟩⟩
  have h := (show PDSs (defX P w K mg base ["act_here", "back", "e"] "_law_caught" (defScope s_law_caught) (He.fAd K ("_law_caught", none)) cdv A outer s H E) (fun cls d _ H => E cls d H) (defBody s_law_caught) _ from (pds_cons (pds_tryT (by rfl) (by rfl) sc_law_caught.nd (i := 2) (by rfl) (by rfl) (tupT3 ⟨by rfl, by decide, .inl (T.glo 59 rfl)⟩ ⟨by rfl, by decide, .inl (T.glo 58 rfl)⟩ ⟨by rfl, by decide, .inl (T.glo 57 rfl)⟩) tk (fun W2 pn xe tk2 po => (pds_one (pds_set (i := 1) sc_law_caught.nd (by rfl) (by first | exact .inl rfl | exact .inr rfl) (pd_callV0 ca (by rfl) (hr.mono (by decide)) tk2 (i := 0) (by rfl) (by first | exact .inl rfl | exact .inr (.inl rfl) | exact .inr (.inr rfl) | exact .inr rfl))))) (fun a oe C d pn hz hf => (pds_one (pds_ret (pd_callE F_law_sort (hr.mono (by decide)) (by rfl) (O_law_sort.mg (by decide)) O_law_sort.kp O_law_sort.bd hz hf (pda_cons (pd_var (pv 2)) pda_nil))))))
      (pds_one (pds_ret (pd_tup (pda_cons pd_str (pda_cons (pd_var (pv 1)) pda_nil)))))))
  exact h
theorem ok_law_deed {P : Program} {w : World} {K : PySem.W.Frag} {mg : Str → Option Value} {base : Heap} (T : TX K mg base) : OkF P w K mg base 2 "_law_deed" (He.fAd K ("_law_deed", none)) ["bin_here", "mix", "states"] (sp_law_deed K) := by
  obtain ⟨fd_law_nip, F_law_nip, O_law_nip⟩ := ok_law_nip (P := P) (w := w) T
  obtain ⟨fd, F⟩ := T.says.def_ 37 (d := ⟨("_law_deed", none), "_law_deed", "_law_deed", defArgs s_law_deed, defBody s_law_deed, defScope s_law_deed, [], []⟩) rfl
  have bd : Binds K fd ["bin_here", "mix", "states"] [] := FunD.bindsN F fun _ _ _ _ _ _ us hl => match us, hl with | [_, _, _], _ => rfl
  refine ⟨fd, fn_d (wb := wb_law_deed K) F sc_law_deed (fun cdv A outer s H E hr tk => ?_) (pure_law_deed T.tp), ⟨fun _ => T.glo 90 rfl, F.kp, bd⟩⟩
  have h := (show PDSs (defX P w K mg base ["bin_here", "mix", "states", "size", "way", "a", "b"] "_law_deed" (defScope s_law_deed) (He.fAd K ("_law_deed", none)) cdv A outer s H E) (fun cls d _ H => E cls d H) (defBody s_law_deed) _ from (pds_cons (PS.imp (ps_par (i := 3) (j := 4) (by rfl) sc_law_deed.nd (by rfl) (by rfl) (by decide) (by rfl) (by rfl) (pda_cons (pd_callB call_len calll_len (by rfl) (T.free 4 rfl) (by rfl) (pda_cons (pd_ix ix_seq opl_ix (pd_ix ix_seq opl_ix (pd_var (pv 2)) (pd_un un_neg unl_neg pd_int)) pd_int) pda_nil)) (pda_cons (pd_call F_law_nip (hr.mono (by decide)) tk (by rfl) (O_law_nip.mg (by decide)) O_law_nip.kp O_law_nip.bd (pda_cons (pd_var (pv 0)) (pda_cons pd_int pda_nil))) pda_nil)) (by rfl)) fun _ _ _ h => wpar_imp h)
      (pds_cons (pds_if (pdt_w (pdw_or (pdt_cmp op_lt (opc_rI0 fun _ _ _ => mk_bl) (pd_var (pv 4)) pd_int (nomark _)) (pdw_or1 (pdt_w (pdw_and (pdt_cmp op_lt (opc_rI0 fun _ _ _ => mk_bl) (pd_var (pv 3)) pd_int (nomark _)) (pdw_and1 (pdt_cmp op_lt (opc_rI0 fun _ _ _ => mk_bl) (pd_var (pv 4)) pd_int (nomark _)))))))) (pds_one (pds_ret (pd_tup (pda_cons pd_str (pda_cons (pd_call F_law_nip (hr.mono (by decide)) tk (by rfl) (O_law_nip.mg (by decide)) O_law_nip.kp O_law_nip.bd (pda_cons (pd_var (pv 0)) (pda_cons (pd_op op_addX opl_add (pd_callB call_len calll_len (by rfl) (T.free 4 rfl) (by rfl) (pda_cons (pd_ix ix_seq opl_ix (pd_var (pv 1)) pd_int) pda_nil)) (pd_callT call_int1 calll_int (by rfl) (T.free 1 rfl) (by rfl) (pda_cons (pd_cmp (op_eqX (hu64 hr)) opl_eq (pd_call F_law_nip (hr.mono (by decide)) tk (by rfl) (O_law_nip.mg (by decide)) O_law_nip.kp O_law_nip.bd (pda_cons (pd_var (pv 0)) (pda_cons pd_int pda_nil))) pd_int (nomark _)) pda_nil))) pda_nil))) pda_nil))))) pds_nil)
      (pds_cons (pds_if (pdt_cmp op_lt (opc_rI0 fun _ _ _ => mk_bl) (pd_var (pv 4)) pd_int (nomark _)) (pds_cons (pds_set (i := 5) sc_law_deed.nd (by rfl) (by first | exact .inl rfl | exact .inr rfl) (pd_call F_law_nip (hr.mono (by decide)) tk (by rfl) (O_law_nip.mg (by decide)) O_law_nip.kp O_law_nip.bd (pda_cons (pd_var (pv 0)) (pda_cons (pd_op op_sub (opl_rI0 fun _ _ _ => mk_int) (pd_var (pv 3)) pd_int) pda_nil))))
      (pds_cons (pds_set (i := 6) sc_law_deed.nd (by rfl) (by first | exact .inl rfl | exact .inr rfl) (pd_op op_addX opl_add (pd_op op_addX opl_add (pd_var (pv 5)) pd_int) (pd_call F_law_nip (hr.mono (by decide)) tk (by rfl) (O_law_nip.mg (by decide)) O_law_nip.kp O_law_nip.bd (pda_cons (pd_var (pv 0)) (pda_cons (pd_op op_sub (opl_rI0 fun _ _ _ => mk_int) (pd_op op_sub (opl_rI0 fun _ _ _ => mk_int) (pd_var (pv 3)) pd_int) (pd_var (pv 5))) pda_nil)))))
      (pds_one (pds_ret (pd_if (pdt_cmp op_gt (opc_rI0 fun _ _ _ => mk_bl) (pd_call F_law_nip (hr.mono (by decide)) tk (by rfl) (O_law_nip.mg (by decide)) O_law_nip.kp O_law_nip.bd (pda_cons (pd_var (pv 0)) (pda_cons pd_int pda_nil))) pd_int (nomark _)) (pd_tup (pda_cons pd_str (pda_cons (pd_var (pv 5)) (pda_cons (pd_var (pv 6)) pda_nil)))) (pd_tup (pda_cons pd_str (pda_cons (pd_var (pv 6)) (pda_cons (pd_var (pv 5)) pda_nil))))))))) pds_nil)
      (pds_one (pds_ret (pd_tup (pda_cons pd_str pda_nil))))))))
  exact h
theorem ok_law_right {P : Program} {w : World} {K : PySem.W.Frag} {mg : Str → Option Value} {base : Heap} (T : TX K mg base) : OkF P w K mg base 17 "_law_right" (He.fAd K ("_law_right", none)) ["bin_here"] (sp_law_right K) := by
  obtain ⟨fd_law_mix, F_law_mix, O_law_mix⟩ := ok_law_mix (P := P) (w := w) T
  obtain ⟨fd_law_begun, F_law_begun, O_law_begun⟩ := ok_law_begun (P := P) (w := w) T
  obtain ⟨fd_PotX_initX, F_PotX_initX, O_PotX_initX⟩ := ok_PotX_initX (P := P) (w := w) T
  obtain ⟨fd_law_made, F_law_made, O_law_made⟩ := ok_law_made (P := P) (w := w) T
  obtain ⟨fd_law_deed, F_law_deed, O_law_deed⟩ := ok_law_deed (P := P) (w := w) T
  obtain ⟨fd_law_after, F_law_after, O_law_after⟩ := ok_law_after (P := P) (w := w) T
  obtain ⟨fd_law_alike, F_law_alike, O_law_alike⟩ := ok_law_alike (P := P) (w := w) T
  obtain ⟨fd_law_caught, F_law_caught, O_law_caught⟩ := ok_law_caught (P := P) (w := w) T
  obtain ⟨fd_law_do, F_law_do, O_law_do⟩ := ok_law_do (P := P) (w := w) T
  obtain ⟨fd_law_shows, F_law_shows, O_law_shows⟩ := ok_law_shows (P := P) (w := w) T
  obtain ⟨fd, F⟩ := T.says.def_ 38 (d := ⟨("_law_right", none), "_law_right", "_law_right", defArgs s_law_right, defBody s_law_right, defScope s_law_right, [], []⟩) rfl
  have bd : Binds K fd ["bin_here"] [] := FunD.bindsN F fun _ _ _ _ _ _ us hl => match us, hl with | [_], _ => rfl
  refine ⟨fd, fn_dC (at_ := ("_law_right", none)) (wb := wb_law_right K) F sc_law_right (fun A outer s H E hr tk => ?_) (pure_law_right T.tp), ⟨fun _ => T.glo 91 rfl, F.kp, bd⟩⟩
  have h := (show PDSs (defX P w K mg base ["bin_here", "mix", "states", "turn", "due", "deed", "pot_here"] "_law_right" (defScope s_law_right) (He.fAd K ("_law_right", none)) (.ref (He.cT K ("_law_right", none)).1) A outer s H E) (fun cls d _ H => E cls d H) (defBody s_law_right) _ from (pds_cons (pds_set (i := 1) sc_law_right.nd (by rfl) (by first | exact .inl rfl | exact .inr rfl) (pd_call F_law_mix (hr.mono (by decide)) tk (by rfl) (O_law_mix.mg (by decide)) O_law_mix.kp O_law_mix.bd (pda_cons (pd_var (pv 0)) (pda_cons pd_int pda_nil))))
      (pds_cons (pds_asg (pd_tup (pda_cons (pd_make (T.mkc 63 rfl) F_PotX_initX (hr.mono (by decide)) tk (by rfl) (T.glo 64 rfl) O_PotX_initX.bd (pda_cons (pd_call F_law_made (hr.mono (by decide)) tk (by rfl) (O_law_made.mg (by decide)) O_law_made.kp O_law_made.bd (pda_cons (pd_var (pv 1)) pda_nil)) pda_nil)) (pda_cons (pd_call F_law_begun (hr.mono (by decide)) tk (by rfl) (O_law_begun.mg (by decide)) O_law_begun.kp O_law_begun.bd (pda_cons (pd_var (pv 1)) pda_nil)) pda_nil))) (pdg_tup (by rfl) (pdgs_cons (pdg_name (i := 6) sc_law_right.nd (by rfl) (by first | exact .inl rfl | exact .inr rfl)) (pdgs_cons (pdg_name (i := 2) sc_law_right.nd (by rfl) (by first | exact .inl rfl | exact .inr rfl)) pdgs_nil))))
      (pds_cons (pds_forR1 (passes_of (by rfl)) (by rfl) (by rfl) (T.free 37 rfl) (pda_cons pd_int pda_nil) (pdg_name (i := 3) sc_law_right.nd (by rfl) (by first | exact .inl rfl | exact .inr rfl)) (pds_cons (pds_set (i := 5) sc_law_right.nd (by rfl) (by first | exact .inl rfl | exact .inr rfl) (pd_call F_law_deed (hr.mono (by decide)) tk (by rfl) (O_law_deed.mg (by decide)) O_law_deed.kp O_law_deed.bd (pda_cons (pd_var (pv 0)) (pda_cons (pd_var (pv 1)) (pda_cons (pd_var (pv 2)) pda_nil)))))
      (pds_cons (pds_asg (pd_call F_law_after (hr.mono (by decide)) tk (by rfl) (O_law_after.mg (by decide)) O_law_after.kp O_law_after.bd (pda_cons (pd_var (pv 1)) (pda_cons (pd_var (pv 2)) (pda_cons (pd_var (pv 5)) pda_nil)))) (pdg_tup (by rfl) (pdgs_cons (pdg_name (i := 4) sc_law_right.nd (by rfl) (by first | exact .inl rfl | exact .inr rfl)) (pdgs_cons (pdg_name (i := 2) sc_law_right.nd (by rfl) (by first | exact .inl rfl | exact .inr rfl)) pdgs_nil))))
      (pds_one (pds_if (pdt_w (pdw_or (pdt_not (pdt_val (pd_call F_law_alike (hr.mono (by decide)) tk (by rfl) (O_law_alike.mg (by decide)) O_law_alike.kp O_law_alike.bd (pda_cons (pd_callLam (kb := 6) (Φ := Clo.none) F_law_caught (hr.mono (by decide)) tk (by rfl) (O_law_caught.mg (by decide)) O_law_caught.kp O_law_caught.bd (by rfl) (.inl rfl) (lamD_by (lps := []) (fr := ["pot_here", "deed"]) (N := ["pot_here", "deed"]) (js := [6, 5]) (by decide +kernel) (by kernel_rfl) (by rfl) (by rfl) (fun _ _ _ _ _ _ us hl => match us, hl with | [], _ => rfl)) (T.tbf.tabD 0 rfl (by rfl) (by rfl)) (fun f c A outer s H E hr tk => (pd_call F_law_do (hr.mono (by decide)) tk (by rfl) (O_law_do.mg (by decide)) O_law_do.kp O_law_do.bd (pda_cons (pd_var (pv 0)) (pda_cons (pd_var (pv 1)) pda_nil)))) (by decide)) (pda_cons (pd_var (pv 4)) pda_nil))))) (pdw_or1 (pdt_not (pdt_val (pd_call F_law_shows (hr.mono (by decide)) tk (by rfl) (O_law_shows.mg (by decide)) O_law_shows.kp O_law_shows.bd (pda_cons (pd_var (pv 6)) (pda_cons (pd_var (pv 2)) pda_nil)))))))) (pds_one (pds_ret pd_bl)) pds_nil)))))
      (pds_one (pds_ret pd_bl))))))
  exact h
theorem ok_law {P : Program} {w : World} {K : PySem.W.Frag} {mg : Str → Option Value} {base : Heap} (T : TX K mg base) {fd : FuncData} (F : FunD K "law" "law" (defArgs s_law) (defBody s_law) (defScope s_law) [] [] (He.fAd K ("law", none)) fd) : FnD P w K mg base 18 (He.fAd K ("law", none)) fd ["script"] (sp_law K) := by
  obtain ⟨fd_law_right, F_law_right, O_law_right⟩ := ok_law_right (P := P) (w := w) T
  obtain ⟨fd_law_bin, F_law_bin, O_law_bin⟩ := ok_law_bin (P := P) (w := w) T
  refine fn_d (wb := wb_law K) F sc_law (fun cdv A outer s H E hr tk => ?_) (pure_law T.tp)
  have h := (show PDSs (defX P w K mg base ["script", "turn"] "law" (defScope s_law) (He.fAd K ("law", none)) cdv A outer s H E) (fun cls d _ H => E cls d H) (defBody s_law) _ from (pds_one (pds_ret (pd_callB (cr_all (by rfl)) calll_all (by rfl) (T.free 65 rfl) (by rfl) (pda_cons (pd_lcR1 (by rfl) sc_law.nd (by rfl) (T.free 37 rfl) (pda_cons (pd_callB (call_max2 (by rfl)) (calll_2I fun _ _ _ => mk_int) (by rfl) (T.free 8 rfl) (by rfl) (pda_cons pd_int (pda_cons (pd_callB (call_min2 (by rfl)) (calll_2I fun _ _ _ => mk_int) (by rfl) (T.free 9 rfl) (by rfl) (pda_cons (pd_callB call_len calll_len (by rfl) (T.free 4 rfl) (by rfl) (pda_cons (pd_var (pv 0)) pda_nil)) (pda_cons pd_int pda_nil))) pda_nil))) pda_nil) (lcOk0 (own := [("turn", 1)]) (blkOk_by (by kernel_rfl)) (tgt1 (by decide)) (fun _ _ _ _ _ => pg_name (i := 1) sc_law.nd (by rfl) (by first | exact .inl rfl | exact .inr rfl)) (fun _ _ _ _ _ => (pd_call F_law_right (hr.mono (by decide)) takes0 (by rfl) (O_law_right.mg (by decide)) O_law_right.kp O_law_right.bd (pda_cons (pd_call F_law_bin (hr.mono (by decide)) takes0 (by rfl) (O_law_bin.mg (by decide)) O_law_bin.kp O_law_bin.bd (pda_cons (pd_var (pv 0)) (pda_cons (pd_var (pv 1)) pda_nil))) pda_nil))))) pda_nil)))))
  exact h
omit [Tb] in
theorem law_at {w : World} {h : Heap} {mg : Str → Option Value} {f : Addr} (hY : ∃ K : PySem.W.Frag, K.In h ∧ He.SaysX fa fn [] tfD ex w h K) (G : h.Ns mainGlobals mg) (hfa : mg ("law" : Str) = some (.ref f)) : LawAtD PySem.Challenge.rw_givenonce_k67_whole_pots_through_deeds w 18 63 "script" mg f h := by
  obtain ⟨K, X, c⟩ := hY
  obtain ⟨fd, F⟩ := c.t.d.def_ 39 rfl
  have ef : f = He.fAd K ("law", none) := by
    have q := hfa.symm.trans (He.glo_ok X G (c.t.d.fact 92 (f := .glo "law") rfl))
    cases q
    rfl
  subst ef
  have b := FunD.bindsA (ps := ["script"]) F fun _ _ _ _ _ _ us hl => match us, hl with | [_], _ => rfl
  have eN := (ex_parts c.more).1
  have mem : ∀ p ∈ tfs, p.1 ∈ tfD := fun p hp => (show p.1 ∈ tfs.map (·.1) from List.mem_map.mpr ⟨p, hp, rfl⟩)
  refine ⟨K, ⟨tabsOf K tfs⟩, fd, tfs.map fun p => He.cT K p.1, sp_law K, X, noLst_ok eN, fun q hq => ?_, fun q hq => ?_, fun q hq => ?_, fun s v => b s [v] rfl, fun H a ns hl hH hS => ?_, fun base hK hG TB => ?_⟩
  · obtain ⟨p, hp, rfl⟩ := List.mem_map.mp hq
    exact c.empty _ (mem p hp)
  · obtain ⟨p, hp, rfl⟩ := List.mem_map.mp hq
    exact c.out _ (mem p hp)
  · obtain ⟨p, hp, rfl⟩ := List.mem_map.mp hq
    exact PySem.W.codeHd_of_K X (c.hd _ (mem p hp))
  · letI : Tb := ⟨tabsOf K tfs⟩
    exact script_sp (T := tfs) rfl (fun p hp => hH _ (List.mem_map.mpr ⟨p, hp, rfl⟩)) hS ⟨ns, rfl, hl, fun _ => rfl⟩
  · letI : Tb := ⟨tabsOf K tfs⟩
    exact ok_law (P := (PySem.Challenge.rw_givenonce_k67_whole_pots_through_deeds).prog) (w := w) (base := base) (tx_of X G c.t.d c.more fun p hp => TB _ (List.mem_map.mpr ⟨p, hp, rfl⟩)) F
end GV
open PySem PySem.W PySem.Calls PyProof.Rows
theorem PySem.Challenge.cw_givenonce_k67_whole_pots_through_deeds_holds : PySem.Challenge.rw_givenonce_k67_whole_pots_through_deeds.Holds := by
  w_on; o_law
  refine HandSHeadRun.head_any (r := OpenLaw.row PySem.Challenge.rw_givenonce_k67_whole_pots_through_deeds) (q := view (OpenLaw.row PySem.Challenge.rw_givenonce_k67_whole_pots_through_deeds).prog [57]) (H := GV.hk) (ob := GV.ob) (M := 9000) (loose := GV.loose) (d := HandSHeadRun.topDef (OpenLaw.row PySem.Challenge.rw_givenonce_k67_whole_pots_through_deeds).prog 57) (kwd := []) GV.ob_eq
    (by kernel_rfl) (fun s => by kernel_rfl) GV.run (by kernel_rfl) (by kernel_rfl) (by kernel_rfl) (by rfl) (by first | assumption | decide +kernel) (by decide +kernel) ⟨rfl, rfl, rfl, rfl, rfl, by decide +kernel⟩ ?hw ?hc
  case hw => w_witness2
  case hc =>
    refine DL.walk_D (l := PySem.Challenge.rw_givenonce_k67_whole_pots_through_deeds) (n := 63) (k := 18) (x := "script") rfl (by decide) (by kernel_rfl) DL.rm_caller ?F
    intro w mg fa h Y G hmg0
    have hmg : mg ("law" : PySem.Str) = some (.ref fa) := by
      have e : (HandSHeadRun.topDef (OpenLaw.row PySem.Challenge.rw_givenonce_k67_whole_pots_through_deeds).prog 57).name = ("law" : PySem.Str) := by kernel_rfl
      rw [← e]
      exact hmg0
    exact GV.law_at Y G hmg
