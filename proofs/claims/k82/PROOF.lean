import PyProof.Rows.All
import Wide.All
import OpenK.AllK
import Wide.FinOn
import HandS.ForMost
import HandS.ForExc
import HandS.IsInst
import HandS.ExcInit
import HandS.Defaults
import HandS.MakeKwOnly
import HandS.TupAny
import HandS.TupMul
import HandS.NoneIn
import HandS.FStr
import HandS.WideBits
import HandS.SetFor
import HandS.Strs
import KE.GoesEnum
import PyProof.Draws
import HandS.Star
import HandS.Records
import HandS.HeadHook4
import HandS.Words
import HandS.Deep
import HandS.Head0
import HandS.Head1
import HandS.Head2
import HandS.HeadEnd
import KE.KStateDown
import Lean
import PySem.Challenge.RW_givenonce_k82_known_pots
set_option Elab.async false
set_option linter.all false
set_option maxRecDepth 100000
set_option maxHeartbeats 4000000
namespace DL
open PySem PySem.Spec PyProof.Rows L2
abbrev St := L2.St

inductive D where
  | non | bl (b : Bool) | int (i : Int) | str (x : Str) | ty (n : String) | ref (a : Addr)
  | tup (ds : List D) | lst (ds : List D) | dT (ks : List (List Key)) (ds : List D) | emp | scr (ns : List Int)

mutual
def Dn (F : Addr → Prop) (H : Hp) : D → V → Prop
  | .non, v => v = .non
  | .bl b, v => v = .bl b
  | .int i, v => v = .int i
  | .str x, v => v = .str x
  | .ty n, v => v = .ty n
  | .ref a, v => v = .ref a
  | .tup ds, v => ∃ a xs, v = .ref a ∧ H a = some (.tup xs) ∧ ¬ F a ∧ Dns F H ds xs
  | .lst ds, v => ∃ a xs, v = .ref a ∧ H a = some (.lst xs) ∧ ¬ F a ∧ Dns F H ds xs
  | .dT ks ds, v => ∃ a xs, v = .ref a ∧ H a = some (.dT xs) ∧ ¬ F a ∧ xs.map (·.1) = ks ∧ Dns F H ds (xs.map (·.2))
  | .emp, v => ∃ a, v = .ref a ∧ H a = some (.dK []) ∧ ¬ F a
  | .scr ns, v => ∃ a o, v = .ref a ∧ H a = some (.frz o (.lst (ns.map V.int))) ∧ ¬ F a
def Dns (F : Addr → Prop) (H : Hp) : List D → List V → Prop
  | [], vs => vs = []
  | d :: ds, vs => ∃ v r, vs = v :: r ∧ Dn F H d v ∧ Dns F H ds r
end

/-- what stood, and is none of the cells, stands -/
def Le (F F' : Addr → Prop) (H H' : Hp) : Prop := ∀ b o, H b = some o → ¬ F b → H' b = some o ∧ ¬ F' b
theorem Le.refl {F : Addr → Prop} {H : Hp} : Le F F H H := fun _ _ h n => ⟨h, n⟩
theorem Le.trans {F F' F'' : Addr → Prop} {H H' H'' : Hp} (a : Le F F' H H') (b : Le F' F'' H' H'') : Le F F'' H H'' := fun c o h n => b c o (a c o h n).1 (a c o h n).2

mutual
theorem Dn.le {F F' : Addr → Prop} {H H' : Hp} (l : Le F F' H H') : ∀ (d : D) (v : V), Dn F H d v → Dn F' H' d v
  | .non, _, h => by simpa only [Dn] using h
  | .bl _, _, h => by simpa only [Dn] using h
  | .int _, _, h => by simpa only [Dn] using h
  | .str _, _, h => by simpa only [Dn] using h
  | .ty _, _, h => by simpa only [Dn] using h
  | .ref _, _, h => by simpa only [Dn] using h
  | .tup ds, _, h => by
    simp only [Dn] at h ⊢
    obtain ⟨a, xs, e, ha, na, r⟩ := h
    exact ⟨a, xs, e, (l a _ ha na).1, (l a _ ha na).2, Dns.le l ds xs r⟩
  | .lst ds, _, h => by
    simp only [Dn] at h ⊢
    obtain ⟨a, xs, e, ha, na, r⟩ := h
    exact ⟨a, xs, e, (l a _ ha na).1, (l a _ ha na).2, Dns.le l ds xs r⟩
  | .dT ks ds, _, h => by
    simp only [Dn] at h ⊢
    obtain ⟨a, xs, e, ha, na, k, r⟩ := h
    exact ⟨a, xs, e, (l a _ ha na).1, (l a _ ha na).2, k, Dns.le l ds _ r⟩
  | .emp, _, h => by
    simp only [Dn] at h ⊢
    obtain ⟨a, e, ha, na⟩ := h
    exact ⟨a, e, (l a _ ha na).1, (l a _ ha na).2⟩
  | .scr ns, _, h => by
    simp only [Dn] at h ⊢
    obtain ⟨a, o, e, ha, na⟩ := h
    exact ⟨a, o, e, (l a _ ha na).1, (l a _ ha na).2⟩
theorem Dns.le {F F' : Addr → Prop} {H H' : Hp} (l : Le F F' H H') : ∀ (ds : List D) (vs : List V), Dns F H ds vs → Dns F' H' ds vs
  | [], _, h => by simpa only [Dns] using h
  | d :: ds, _, h => by
    simp only [Dns] at h ⊢
    obtain ⟨v, r, e, h1, h2⟩ := h
    exact ⟨v, r, e, Dn.le l d v h1, Dns.le l ds r h2⟩
end

section
variable {F : Addr → Prop} {H : Hp}
theorem Dns.nil : Dns F H [] [] := by simp only [Dns]
theorem Dns.cons {d : D} {v : V} {ds : List D} {vs : List V} (h : Dn F H d v) (t : Dns F H ds vs) : Dns F H (d :: ds) (v :: vs) := by
  simp only [Dns]; exact ⟨v, vs, rfl, h, t⟩
theorem Dns.inv {d : D} {ds : List D} {vs : List V} (h : Dns F H (d :: ds) vs) : ∃ v r, vs = v :: r ∧ Dn F H d v ∧ Dns F H ds r := by
  simpa only [Dns] using h
theorem Dns.nil_inv {vs : List V} (h : Dns F H [] vs) : vs = [] := by simpa only [Dns] using h
theorem Dns.length : ∀ {ds : List D} {vs : List V}, Dns F H ds vs → vs.length = ds.length
  | [], _, h => by rw [Dns.nil_inv h]; rfl
  | d :: ds, _, h => by
    obtain ⟨v, r, rfl, _, h2⟩ := Dns.inv h
    rw [List.length_cons, List.length_cons, Dns.length h2]
theorem Dns.get : ∀ {ds : List D} {vs : List V} {i : Nat} {d : D}, Dns F H ds vs → ds[i]? = some d → ∃ v, vs[i]? = some v ∧ Dn F H d v
  | [], _, _, _, _, e => by simp at e
  | d :: ds, _, 0, _, h, e => by
    obtain ⟨v, r, rfl, h1, _⟩ := Dns.inv h
    simp at e; subst e
    exact ⟨v, rfl, h1⟩
  | d :: ds, _, i + 1, x, h, e => by
    obtain ⟨v, r, rfl, _, h2⟩ := Dns.inv h
    obtain ⟨u, e1, e2⟩ := Dns.get (i := i) (d := x) h2 (by simpa using e)
    exact ⟨u, by simpa using e1, e2⟩
theorem Dns.append : ∀ {ds es : List D} {vs us : List V}, Dns F H ds vs → Dns F H es us → Dns F H (ds ++ es) (vs ++ us)
  | [], _, _, _, h, t => by rw [Dns.nil_inv h]; exact t
  | d :: ds, _, _, _, h, t => by
    obtain ⟨v, r, rfl, h1, h2⟩ := Dns.inv h
    exact .cons h1 (Dns.append h2 t)
theorem Dns.drop : ∀ {ds : List D} {vs : List V} (n : Nat), Dns F H ds vs → Dns F H (ds.drop n) (vs.drop n)
  | _, _, 0, h => h
  | [], _, n + 1, h => by rw [Dns.nil_inv h]; exact .nil
  | d :: ds, _, n + 1, h => by
    obtain ⟨v, r, rfl, _, h2⟩ := Dns.inv h
    exact Dns.drop n h2
theorem Dns.take : ∀ {ds : List D} {vs : List V} (n : Nat), Dns F H ds vs → Dns F H (ds.take n) (vs.take n)
  | _, _, 0, _ => .nil
  | [], _, n + 1, h => by rw [Dns.nil_inv h]; exact .nil
  | d :: ds, _, n + 1, h => by
    obtain ⟨v, r, rfl, h1, h2⟩ := Dns.inv h
    exact .cons h1 (Dns.take n h2)
theorem Dns.set : ∀ {ds : List D} {vs : List V} {d : D} {v : V} (n : Nat), Dns F H ds vs → Dn F H d v → Dns F H (ds.set n d) (vs.set n v)
  | [], _, _, _, _, h, _ => by rw [Dns.nil_inv h]; exact .nil
  | x :: ds, _, _, _, 0, h, hd => by
    obtain ⟨v, r, rfl, h1, h2⟩ := Dns.inv h
    exact .cons hd h2
  | x :: ds, _, _, _, n + 1, h, hd => by
    obtain ⟨v, r, rfl, h1, h2⟩ := Dns.inv h
    exact .cons h1 (Dns.set n h2 hd)
theorem Dns.rep {ds : List D} {vs : List V} (h : Dns F H ds vs) : ∀ k : Nat, Dns F H (List.replicate k ds).flatten (List.replicate k vs).flatten
  | 0 => .nil
  | k + 1 => by
    rw [List.replicate_succ, List.replicate_succ, List.flatten_cons, List.flatten_cons]
    exact h.append (Dns.rep h k)
theorem Dns.ints : ∀ ns : List Int, Dns F H (ns.map D.int) (ns.map V.int)
  | [] => .nil
  | n :: ns => .cons (by simp only [Dn]) (Dns.ints ns)
theorem Dns.ints_inv : ∀ {ns : List Int} {vs : List V}, Dns F H (ns.map D.int) vs → vs = ns.map V.int
  | [], _, h => Dns.nil_inv h
  | n :: ns, _, h => by
    obtain ⟨v, r, rfl, h1, h2⟩ := Dns.inv h
    simp only [Dn] at h1
    rw [h1, Dns.ints_inv h2]; rfl
theorem Dns.strs_inv : ∀ {ns : List Str} {vs : List V}, Dns F H (ns.map D.str) vs → vs = ns.map V.str
  | [], _, h => Dns.nil_inv h
  | n :: ns, _, h => by
    obtain ⟨v, r, rfl, h1, h2⟩ := Dns.inv h
    simp only [Dn] at h1
    rw [h1, Dns.strs_inv h2]; rfl
theorem Dns.strs : ∀ ns : List Str, Dns F H (ns.map D.str) (ns.map V.str)
  | [] => .nil
  | n :: ns => .cons (by simp only [Dn]) (Dns.strs ns)
theorem Dns.bls_inv : ∀ {ns : List Bool} {vs : List V}, Dns F H (ns.map D.bl) vs → vs = ns.map V.bl
  | [], _, h => Dns.nil_inv h
  | n :: ns, _, h => by
    obtain ⟨v, r, rfl, h1, h2⟩ := Dns.inv h
    simp only [Dn] at h1
    rw [h1, Dns.bls_inv h2]; rfl
end

/-! ### the store of what changes -/
inductive Cell where
  | lst (ds : List D) | ins (C : Addr) (fs : List (Str × D)) | dT (ks : List (List Key)) (ds : List D)
abbrev Sto := List (Addr × Cell)
def Sto.on (st : Sto) (a : Addr) : Prop := a ∈ st.map (·.1)
/-- the fields -/
def Fs (F : Addr → Prop) (H : Hp) : List (Str × D) → List (Str × V) → Prop
  | [], vs => vs = []
  | (f, d) :: r, vs => ∃ v s, vs = (f, v) :: s ∧ Dn F H d v ∧ Fs F H r s
def CellOk (F : Addr → Prop) (H : Hp) (a : Addr) : Cell → Prop
  | .lst ds => ∃ xs, H a = some (.lst xs) ∧ Dns F H ds xs
  | .ins C fs => ∃ dx vs, H a = some (.ins C dx vs) ∧ Fs F H fs vs
  | .dT ks ds => ∃ xs, H a = some (.dT xs) ∧ xs.map (·.1) = ks ∧ Dns F H ds (xs.map (·.2))
/-- the cells' places, and what else is kept from sight -/
def On (G : Addr → Prop) (st : Sto) (a : Addr) : Prop := st.on a ∨ G a
structure Hold (G : Addr → Prop) (H : Hp) (st : Sto) : Prop where
  nd : (st.map (·.1)).Nodup
  ok : ∀ p ∈ st, CellOk (On G st) H p.1 p.2
  gh : ∀ b, G b → (∃ o, H b = some o) ∧ ¬ st.on b
/-- from one state to a later one -/
structure To (G : Addr → Prop) (H : Hp) (st : Sto) (H' : Hp) (st' : Sto) : Prop where
  hold : Hold G H' st'
  le : Le st.on st'.on H H'
theorem Fs.le {F F' : Addr → Prop} {H H' : Hp} (l : Le F F' H H') : ∀ {fs : List (Str × D)} {vs : List (Str × V)}, Fs F H fs vs → Fs F' H' fs vs
  | [], _, h => h
  | (f, d) :: r, _, h => by
    obtain ⟨v, s, e, h1, h2⟩ := h
    exact ⟨v, s, e, Dn.le l d v h1, Fs.le l h2⟩
theorem Le.g {G : Addr → Prop} {H H' : Hp} {st st' : Sto} (l : Le st.on st'.on H H') : Le (On G st) (On G st') H H' := fun b o h n =>
  ⟨(l b o h fun z => n (.inl z)).1, fun z => z.elim (l b o h fun y => n (.inl y)).2 fun y => n (.inr y)⟩
section
variable {G : Addr → Prop} {H H' H'' : Hp} {st st' st'' : Sto}
theorem To.refl (h : Hold G H st) : To G H st H st := ⟨h, Le.refl⟩
theorem To.trans (a : To G H st H' st') (b : To G H' st' H'' st'') : To G H st H'' st'' := ⟨b.hold, a.le.trans b.le⟩
theorem To.dn (t : To G H st H' st') {d : D} {v : V} (h : Dn (On G st) H d v) : Dn (On G st') H' d v := Dn.le t.le.g d v h
theorem To.dns (t : To G H st H' st') {d : List D} {v : List V} (h : Dns (On G st) H d v) : Dns (On G st') H' d v := Dns.le t.le.g d v h
theorem CellOk.there {F : Addr → Prop} {a : Addr} : ∀ {c : Cell}, CellOk F H a c → ∃ o, H a = some o
  | .lst _, h => let ⟨_, e, _⟩ := h; ⟨_, e⟩
  | .ins _ _, h => let ⟨_, _, e, _⟩ := h; ⟨_, e⟩
  | .dT _ _, h => let ⟨_, e, _⟩ := h; ⟨_, e⟩
theorem CellOk.le {F F' : Addr → Prop} {a : Addr} (l : Le F F' H H') (e : ∀ o, H a = some o → H' a = some o) : ∀ {c : Cell}, CellOk F H a c → CellOk F' H' a c
  | .lst _, h => by obtain ⟨xs, h1, h2⟩ := h; exact ⟨xs, e _ h1, Dns.le l _ _ h2⟩
  | .ins _ _, h => by obtain ⟨dx, vs, h1, h2⟩ := h; exact ⟨dx, vs, e _ h1, h2.le l⟩
  | .dT _ _, h => by obtain ⟨xs, h1, h3, h2⟩ := h; exact ⟨xs, e _ h1, h3, Dns.le l _ _ h2⟩
theorem Hold.there (h : Hold G H st) {a : Addr} (ha : On G st a) : ∃ o, H a = some o := by
  rcases ha with ha | ha
  · obtain ⟨p, hp, rfl⟩ := List.mem_map.mp ha
    exact (h.ok p hp).there
  · exact (h.gh a ha).1
theorem Hold.fresh (h : Hold G H st) {p : Addr} (hp : H p = none) : ¬ On G st p := fun z => by
  obtain ⟨o, e⟩ := h.there z
  rw [hp] at e; cases e
theorem le_laid {F : Addr → Prop} {p : Addr} {o : HO} (hp : H p = none) : Le F F H (upd H p o) := fun b u hb n =>
  ⟨by rw [upd_ne (ne_of_none hb hp)]; exact hb, n⟩
/-- a new thing is laid, no cell -/
theorem Hold.laid (h : Hold G H st) {p : Addr} {o : HO} (hp : H p = none) : To G H st (upd H p o) st :=
  ⟨⟨h.nd, fun q hq => (h.ok q hq).le (le_laid hp) fun u e => by rw [upd_ne (ne_of_none e hp)]; exact e, fun b hb => by
    obtain ⟨⟨u, e⟩, n⟩ := h.gh b hb
    exact ⟨⟨u, by rw [upd_ne (ne_of_none e hp)]; exact e⟩, n⟩⟩, le_laid hp⟩
/-- two heaps that tell the same of all that is tracked in the first -/
theorem Hold.more (h : Hold G H st) (e : ∀ b o, H b = some o → H' b = some o) : To G H st H' st :=
  ⟨⟨h.nd, fun q hq => (h.ok q hq).le (fun b o z n => ⟨e b o z, n⟩) fun u z => e _ u z, fun b hb => by
    obtain ⟨⟨u, z⟩, n⟩ := h.gh b hb
    exact ⟨⟨u, e b u z⟩, n⟩⟩, fun b o z n => ⟨e b o z, n⟩⟩
theorem le_cell {p : Addr} {o : HO} {c : Cell} (hp : H p = none) : Le st.on (Sto.on ((p, c) :: st)) H (upd H p o) := fun b u hb n =>
  ⟨by rw [upd_ne (ne_of_none hb hp)]; exact hb, fun z => by
    rcases List.mem_cons.mp (show b ∈ p :: st.map (·.1) from z) with e | e
    · exact ne_of_none hb hp e
    · exact n e⟩
/-- a new cell -/
theorem Hold.cell (h : Hold G H st) {p : Addr} {o : HO} {c : Cell} (hp : H p = none) (ok : CellOk (On G ((p, c) :: st)) (upd H p o) p c) : To G H st (upd H p o) ((p, c) :: st) := by
  have l : Le (On G st) (On G ((p, c) :: st)) H (upd H p o) := (le_cell hp).g
  refine ⟨⟨?_, fun q hq => ?_, fun b hb => ?_⟩, le_cell hp⟩
  · refine List.nodup_cons.mpr ⟨fun z => h.fresh hp (.inl z), h.nd⟩
  · rcases List.mem_cons.mp hq with e | e
    · subst e; exact ok
    · exact (h.ok q e).le l fun u z => by rw [upd_ne (ne_of_none z hp)]; exact z
  · obtain ⟨⟨u, e⟩, n⟩ := h.gh b hb
    refine ⟨⟨u, by rw [upd_ne (ne_of_none e hp)]; exact e⟩, fun z => ?_⟩
    rcases List.mem_cons.mp (show b ∈ p :: st.map (·.1) from z) with q | q
    · exact ne_of_none e hp q
    · exact n q
/-- the cell at a is another now -/
def Sto.put (st : Sto) (a : Addr) (c : Cell) : Sto := st.map fun p => if p.1 = a then (a, c) else p
theorem put_keys (st : Sto) (a : Addr) (c : Cell) : (st.put a c).map (·.1) = st.map (·.1) := by
  unfold Sto.put
  rw [List.map_map]
  refine List.map_congr_left fun p _ => ?_
  show (if p.1 = a then (a, c) else p).1 = p.1
  split
  · rename_i e; exact e.symm
  · rfl
theorem put_on (st : Sto) (a : Addr) (c : Cell) : (st.put a c).on = st.on := by
  funext b; unfold Sto.on; rw [put_keys]
theorem put_On (G : Addr → Prop) (st : Sto) (a : Addr) (c : Cell) : On G (st.put a c) = On G st := by
  funext b; unfold On; rw [put_on]
theorem le_write {a : Addr} {o : HO} {c : Cell} (ha : st.on a) : Le st.on (st.put a c).on H (upd H a o) := fun b u hb n => by
  rw [put_on]
  exact ⟨by rw [upd_ne (fun z => n (by rw [z]; exact ha))]; exact hb, n⟩
theorem Hold.write (h : Hold G H st) {a : Addr} {o : HO} {c : Cell} (ha : st.on a) (ok : CellOk (On G st) (upd H a o) a c) : To G H st (upd H a o) (st.put a c) := by
  have l : Le (On G st) (On G (st.put a c)) H (upd H a o) := (le_write ha).g
  refine ⟨⟨by rw [put_keys]; exact h.nd, fun q hq => ?_, fun b hb => ?_⟩, le_write ha⟩
  · obtain ⟨p, hp, e⟩ := List.mem_map.mp hq
    by_cases z : p.1 = a
    · rw [if_pos z] at e; subst e
      rw [put_On]; exact ok
    · rw [if_neg z] at e; subst e
      exact (h.ok p hp).le l fun u y => by rw [upd_ne z]; exact y
  · obtain ⟨⟨u, e⟩, n⟩ := h.gh b hb
    refine ⟨⟨u, by rw [upd_ne (fun z => n (by rw [z]; exact ha))]; exact e⟩, by rw [put_on]; exact n⟩
theorem lookup_mem {st : Sto} {a : Addr} {c : Cell} (h : st.lookup a = some c) : (a, c) ∈ st := by
  induction st with
  | nil => cases h
  | cons p r ih =>
    obtain ⟨b, x⟩ := p
    simp only [List.lookup] at h
    split at h
    · rename_i e
      have e' : a = b := beq_iff_eq.mp e
      cases h; subst e'
      exact List.mem_cons_self
    · exact List.mem_cons_of_mem _ (ih h)
theorem Hold.at (h : Hold G H st) {a : Addr} {c : Cell} (l : st.lookup a = some c) : CellOk (On G st) H a c := h.ok (a, c) (lookup_mem l)
theorem on_of {a : Addr} {c : Cell} (l : st.lookup a = some c) : st.on a := List.mem_map.mpr ⟨(a, c), lookup_mem l, rfl⟩
/-- a cell is let go: what it holds stays as it is -/
def Sto.less (st : Sto) (a : Addr) : Sto := st.filter fun p => decide (p.1 ≠ a)
theorem less_on {a b : Addr} : (st.less a).on b ↔ st.on b ∧ b ≠ a := by
  unfold Sto.on Sto.less
  constructor
  · intro h
    obtain ⟨p, hp, rfl⟩ := List.mem_map.mp h
    obtain ⟨h1, h2⟩ := List.mem_filter.mp hp
    exact ⟨List.mem_map.mpr ⟨p, h1, rfl⟩, of_decide_eq_true h2⟩
  · rintro ⟨h, n⟩
    obtain ⟨p, hp, rfl⟩ := List.mem_map.mp h
    exact List.mem_map.mpr ⟨p, List.mem_filter.mpr ⟨hp, decide_eq_true n⟩, rfl⟩
theorem le_less {a : Addr} : Le st.on (st.less a).on H H := fun b o h n => ⟨h, fun z => n (less_on.mp z).1⟩
theorem Hold.less (h : Hold G H st) (a : Addr) : To G H st H (st.less a) := by
  refine ⟨⟨?_, fun q hq => ?_, fun b hb => ?_⟩, le_less⟩
  · exact h.nd.sublist (List.Sublist.map _ List.filter_sublist)
  · exact (h.ok q (List.mem_filter.mp hq).1).le (le_less.g) fun _ z => z
  · exact ⟨(h.gh b hb).1, fun z => (h.gh b hb).2 (less_on.mp z).1⟩
end

/-! ### the slots -/
abbrev DEnv := List (Option D)
def EnvR (F : Addr → Prop) (H : Hp) (env : DEnv) (σ : St) : Prop := σ.length = env.length ∧ ∀ (i : Nat) (d : D), env[i]? = some (some d) → ∃ v, σ[i]? = some (some v) ∧ Dn F H d v
theorem EnvR.le {F F' : Addr → Prop} {H H' : Hp} (l : Le F F' H H') {env : DEnv} {σ : St} (h : EnvR F H env σ) : EnvR F' H' env σ := ⟨h.1, fun i d e => by
  obtain ⟨v, e1, e2⟩ := h.2 i d e
  exact ⟨v, e1, Dn.le l d v e2⟩⟩
theorem EnvR.set {F : Addr → Prop} {H : Hp} {env : DEnv} {σ : St} (h : EnvR F H env σ) (i : Nat) {d : D} {v : V} (hd : Dn F H d v) : EnvR F H (env.set i (some d)) (σ.set i (some v)) := by
  refine ⟨by rw [List.length_set, List.length_set]; exact h.1, fun j x e => ?_⟩
  by_cases hj : j = i
  · subst hj
    by_cases hl : j < env.length
    · rw [List.getElem?_set_self hl] at e
      cases e
      exact ⟨v, List.getElem?_set_self (by rw [h.1]; exact hl), hd⟩
    · rw [List.getElem?_eq_none (by rw [List.length_set]; omega)] at e; cases e
  · rw [List.getElem?_set_ne (Ne.symm hj)] at e ⊢
    exact h.2 j x e
theorem EnvR.unset {F : Addr → Prop} {H : Hp} {env : DEnv} {σ : St} (h : EnvR F H env σ) (i : Nat) (o : Option V) : EnvR F H (env.set i none) (σ.set i o) := by
  refine ⟨by rw [List.length_set, List.length_set]; exact h.1, fun j x e => ?_⟩
  by_cases hj : j = i
  · subst hj
    by_cases hl : j < env.length
    · rw [List.getElem?_set_self hl] at e; cases e
    · rw [List.getElem?_eq_none (by rw [List.length_set]; omega)] at e; cases e
  · rw [List.getElem?_set_ne (Ne.symm hj)] at e ⊢
    exact h.2 j x e

/-! ### readings over data -/
abbrev XD := Addr × List (Str × D)
abbrev KD := D → Sto → Prop
abbrev KX := XD → Sto → Prop
abbrev WE := DEnv → Sto → KD → KX → Prop
abbrev WA := DEnv → Sto → (List D → Sto → Prop) → KX → Prop
abbrev WT := DEnv → Sto → (Bool → Sto → Prop) → KX → Prop
structure DEnds where
  nx : DEnv → Sto → Prop
  rt : KD
  ex : XD → DEnv → Sto → Prop
  bk : DEnv → Sto → Prop := fun _ _ => False
  ct : DEnv → Sto → Prop := fun _ _ => False
abbrev WS := DEnds → DEnv → Sto → Prop
abbrev WF := List D → Sto → KD → KX → Prop
/-- an exception: its class, its fields -/
def XRel (F : Addr → Prop) (H : Hp) (x : XD) (cls : Value) (dd : Option Addr) : Prop :=
  cls = .ref x.1 ∧ ((x.2 = [] ∧ dd = none) ∨ ∃ d vs, dd = some d ∧ H d = some (.xd vs) ∧ ¬ F d ∧ Fs F H x.2 vs)
def lfE (W : WX) (w : WE) : TE := fun σ H Q => ∃ (G : Addr → Prop) (env : DEnv) (st : Sto) (Kn : KD) (Kx : KX), Hold G H st ∧ EnvR (On G st) H env σ ∧ w env st Kn Kx ∧
  (∀ d st' v H', Kn d st' → To G H st H' st' → Dn (On G st') H' d v → Q v H') ∧ (∀ x st' cls dd H', Kx x st' → To G H st H' st' → XRel (On G st') H' x cls dd → W cls dd σ H')
def lfT (W : WX) (w : WT) : TT := fun σ H Q => ∃ (G : Addr → Prop) (env : DEnv) (st : Sto) (Kn : Bool → Sto → Prop) (Kx : KX), Hold G H st ∧ EnvR (On G st) H env σ ∧ w env st Kn Kx ∧
  (∀ d st' H', Kn d st' → To G H st H' st' → Q d H') ∧ (∀ x st' cls dd H', Kx x st' → To G H st H' st' → XRel (On G st') H' x cls dd → W cls dd σ H')
def lfA (W : WX) (w : WA) : TA := fun σ H Q => ∃ (G : Addr → Prop) (env : DEnv) (st : Sto) (Kn : List D → Sto → Prop) (Kx : KX), Hold G H st ∧ EnvR (On G st) H env σ ∧ w env st Kn Kx ∧
  (∀ d st' v H', Kn d st' → To G H st H' st' → Dns (On G st') H' d v → Q v H') ∧ (∀ x st' cls dd H', Kx x st' → To G H st H' st' → XRel (On G st') H' x cls dd → W cls dd σ H')
def lfS (W : WX) (w : WS) : TS := fun D σ H => ∃ (G : Addr → Prop) (env : DEnv) (st : Sto) (DD : DEnds), Hold G H st ∧ EnvR (On G st) H env σ ∧ w DD env st ∧
  (∀ env' st' σ' H', DD.nx env' st' → To G H st H' st' → EnvR (On G st') H' env' σ' → D.nx σ' H') ∧
  (∀ d st' v H', DD.rt d st' → To G H st H' st' → Dn (On G st') H' d v → D.rt v H') ∧
  (∀ env' st' σ' H', DD.bk env' st' → To G H st H' st' → EnvR (On G st') H' env' σ' → D.bk σ' H') ∧
  (∀ env' st' σ' H', DD.ct env' st' → To G H st H' st' → EnvR (On G st') H' env' σ' → D.ct σ' H') ∧
  (∀ x env' st' cls dd σ' H', DD.ex x env' st' → To G H st H' st' → EnvR (On G st') H' env' σ' → XRel (On G st') H' x cls dd → W cls dd σ' H')
abbrev PD (X : Cx) (W : WX) (e : Expr) (w : WE) : Prop := PE X e (lfE W w)
abbrev PDT (X : Cx) (W : WX) (e : Expr) (w : WT) : Prop := PT X e (lfT W w)
abbrev PDA (X : Cx) (W : WX) (es : List Expr) (w : WA) : Prop := PA X es (lfA W w)
abbrev PDS (X : Cx) (W : WX) (s : Stmt) (w : WS) : Prop := PS X s (lfS W w)
abbrev PDSs (X : Cx) (W : WX) (ss : List Stmt) (w : WS) : Prop := PSs X ss (lfS W w)
section
variable {X : Cx}
theorem PE.imp {e : Expr} {t t' : TE} (h : PE X e t) (i : ∀ σ H Q, t' σ H Q → t σ H Q) : PE X e t' := ⟨fun pins s σ H Q I q => h.run pins s σ H Q I (i _ _ _ q)⟩
theorem PT.imp {e : Expr} {t t' : TT} (h : PT X e t) (i : ∀ σ H Q, t' σ H Q → t σ H Q) : PT X e t' := ⟨fun pins s σ H Q I q => h.run pins s σ H Q I (i _ _ _ q)⟩
theorem PW.imp {e : Expr} {t t' : TT} (h : PW X e t) (i : ∀ σ H Q, t' σ H Q → t σ H Q) : PW X e t' := ⟨fun w pins s σ H Q I q => h.run w pins s σ H Q I (i _ _ _ q)⟩
theorem PA.imp {e : List Expr} {t t' : TA} (h : PA X e t) (i : ∀ σ H Q, t' σ H Q → t σ H Q) : PA X e t' := ⟨fun pos pins s σ H Q I q => h.run pos pins s σ H Q I (i _ _ _ q)⟩
theorem PS.imp {s : Stmt} {t t' : TS} (h : PS X s t) (i : ∀ D σ H, t' D σ H → t D σ H) : PS X s t' := ⟨fun pins s σ H D I q => h.run pins s σ H D I (i _ _ _ q)⟩
theorem PSs.imp {s : List Stmt} {t t' : TS} (h : PSs X s t) (i : ∀ D σ H, t' D σ H → t D σ H) : PSs X s t' := ⟨fun pins s σ H D I q => h.run pins s σ H D I (i _ _ _ q)⟩
end
end DL

namespace DL
open PySem PySem.Spec PyProof.Rows L2
theorem sz_of {n : Nat} (h : n ≤ 1000000) : n ≤ sizeLine := Nat.le_trans h (by rw [sizeLine_eq]; decide)
theorem dn_int {F : Addr → Prop} {H : Hp} {i : Int} {v : V} (h : Dn F H (.int i) v) : v = .int i := by simpa only [Dn] using h
theorem dn_bl {F : Addr → Prop} {H : Hp} {i : Bool} {v : V} (h : Dn F H (.bl i) v) : v = .bl i := by simpa only [Dn] using h
theorem dn_str {F : Addr → Prop} {H : Hp} {i : Str} {v : V} (h : Dn F H (.str i) v) : v = .str i := by simpa only [Dn] using h
theorem dn_non {F : Addr → Prop} {H : Hp} {v : V} (h : Dn F H .non v) : v = .non := by simpa only [Dn] using h
theorem dn_ref {F : Addr → Prop} {H : Hp} {a : Addr} {v : V} (h : Dn F H (.ref a) v) : v = .ref a := by simpa only [Dn] using h
theorem dn_ty {F : Addr → Prop} {H : Hp} {a : String} {v : V} (h : Dn F H (.ty a) v) : v = .ty a := by simpa only [Dn] using h
theorem dn_tup {F : Addr → Prop} {H : Hp} {ds : List D} {v : V} (h : Dn F H (.tup ds) v) : ∃ a xs, v = .ref a ∧ H a = some (.tup xs) ∧ ¬ F a ∧ Dns F H ds xs := by simpa only [Dn] using h
theorem dn_lst {F : Addr → Prop} {H : Hp} {ds : List D} {v : V} (h : Dn F H (.lst ds) v) : ∃ a xs, v = .ref a ∧ H a = some (.lst xs) ∧ ¬ F a ∧ Dns F H ds xs := by simpa only [Dn] using h
theorem dn_scr {F : Addr → Prop} {H : Hp} {ns : List Int} {v : V} (h : Dn F H (.scr ns) v) : ∃ a o, v = .ref a ∧ H a = some (.frz o (.lst (ns.map V.int))) ∧ ¬ F a := by simpa only [Dn] using h
theorem mk_int {F : Addr → Prop} {H : Hp} {i : Int} : Dn F H (.int i) (.int i) := by simp only [Dn]
theorem mk_bl {F : Addr → Prop} {H : Hp} {i : Bool} : Dn F H (.bl i) (.bl i) := by simp only [Dn]
theorem mk_str {F : Addr → Prop} {H : Hp} {i : Str} : Dn F H (.str i) (.str i) := by simp only [Dn]
theorem mk_non {F : Addr → Prop} {H : Hp} : Dn F H .non .non := by simp only [Dn]
theorem mk_ref {F : Addr → Prop} {H : Hp} {i : Addr} : Dn F H (.ref i) (.ref i) := by simp only [Dn]
theorem mk_ty {F : Addr → Prop} {H : Hp} {i : String} : Dn F H (.ty i) (.ty i) := by simp only [Dn]
theorem mk_tup {F : Addr → Prop} {H : Hp} {a : Addr} {xs : List V} {ds : List D} (h : H a = some (.tup xs)) (n : ¬ F a) (r : Dns F H ds xs) : Dn F H (.tup ds) (.ref a) := by simp only [Dn]; exact ⟨a, xs, rfl, h, n, r⟩
theorem mk_lst {F : Addr → Prop} {H : Hp} {a : Addr} {xs : List V} {ds : List D} (h : H a = some (.lst xs)) (n : ¬ F a) (r : Dns F H ds xs) : Dn F H (.lst ds) (.ref a) := by simp only [Dn]; exact ⟨a, xs, rfl, h, n, r⟩

section
variable {X : Cx} {W : WX} {e a b c : Expr} {es : List Expr} {pos : Pos} {wa wb wc we : WE}
/-! ### names, constants -/
def wVar (i : Nat) : WE := fun env st Kn _ => match env[i]? with
  | some (some d) => Kn d st
  | _ => False
theorem pd_var {i : Nat} (h : PE X e (tVar i)) : PD X W e (wVar i) := PE.imp h fun σ H Q ⟨G, env, st, Kn, Kx, hold, er, hw, hn, _⟩ => by
  unfold wVar at hw
  split at hw
  · rename_i d e
    obtain ⟨v, e1, e2⟩ := er.2 _ d e
    exact ⟨v, e1, hn d st v H hw (To.refl hold) e2⟩
  · exact hw.elim
def wC (d : D) : WE := fun _ st Kn _ => Kn d st
theorem pd_c {v : V} {d : D} (h : PE X e (tC v)) (hd : ∀ F H, Dn F H d v) : PD X W e (wC d) := PE.imp h fun σ H Q ⟨G, env, st, Kn, Kx, hold, er, hw, hn, _⟩ => hn d st v H hw (To.refl hold) (hd _ _)
theorem pd_int {i j} : PD X W (.Constant (.int i) j pos) (wC (.int i)) := pd_c pe_int fun _ _ => mk_int
theorem pd_bl {i j} : PD X W (.Constant (.bool i) j pos) (wC (.bl i)) := pd_c pe_bl fun _ _ => mk_bl
theorem pd_non {j} : PD X W (.Constant .none j pos) (wC .non) := pd_c pe_non fun _ _ => mk_non
theorem pd_str {i j} : PD X W (.Constant (.str i) j pos) (wC (.str i)) := pd_c pe_str fun _ _ => mk_str
theorem pd_ref {x : Str} {f : Addr} (hg : Gl X x) (hm : X.mg x = some (.ref f)) (hd : (x == ("__debug__" : Str)) = false := by decide) : PD X W (.Name x pos) (wC (.ref f)) := pd_c (pe_glob (v := .ref f) hg hm rfl hd) fun _ _ => mk_ref
theorem pd_gint {x : Str} {i : Int} (hg : Gl X x) (hm : ∃ t, X.mg x = some (.int i t)) (hd : (x == ("__debug__" : Str)) = false := by decide) : PD X W (.Name x pos) (wC (.int i)) := by
  obtain ⟨t, hm⟩ := hm
  exact pd_c (pe_glob (v := .int i) hg hm ⟨t, rfl⟩ hd) fun _ _ => mk_int
theorem pd_gstr {x y : Str} (hg : Gl X x) (hm : ∃ t, X.mg x = some (.str y t)) (hd : (x == ("__debug__" : Str)) = false := by decide) : PD X W (.Name x pos) (wC (.str y)) := by
  obtain ⟨t, hm⟩ := hm
  exact pd_c (pe_glob (v := .str y) hg hm ⟨t, rfl⟩ hd) fun _ _ => mk_str
theorem pd_ty {x : Str} {n : String} (hg : Gl X x) (hm : X.mg x = none) (hv : bootBuiltins x = some (.type n)) (hn : x ≠ "__name__" := by decide) (hd : (x == ("__debug__" : Str)) = false := by decide) : PD X W (.Name x pos) (wC (.ty n)) :=
  pd_c (pe_bltn (v := .ty n) hg hm hv rfl hn hd) fun _ _ => mk_ty

/-! ### operators -/
def OpL (r : R2) (g : D → D → Sto → KD → Prop) : Prop :=
  ∀ (G : Addr → Prop) (dx dy : D) (x y : V) (H : Hp) (st : Sto) (Kn : KD) (Q : VK), g dx dy st Kn → Hold G H st → Dn (On G st) H dx x → Dn (On G st) H dy y →
    (∀ d st' v H', Kn d st' → To G H st H' st' → Dn (On G st') H' d v → Q v H') → r x y H Q
def wOp (g : D → D → Sto → KD → Prop) (wa wb : WE) : WE := fun env st Kn Kx => wa env st (fun x st1 => wb env st1 (fun y st2 => g x y st2 Kn) Kx) Kx
theorem lf_op {r : R2} {g : D → D → Sto → KD → Prop} (hl : OpL r g) : ∀ σ H Q, lfE W (wOp g wa wb) σ H Q → tOp r (lfE W wa) (lfE W wb) σ H Q := by
  rintro σ H Q ⟨G, env, st, Kn, Kx, hold, er, hw, hn, hx⟩
  refine ⟨G, env, st, _, Kx, hold, er, hw, fun x st1 v H1 h1 t1 d1 => ?_, hx⟩
  refine ⟨G, env, st1, _, Kx, t1.hold, er.le t1.le.g, h1, fun y st2 u H2 h2 t2 d2 => ?_, fun z st2 cls dd H2 k t2 xr => hx z st2 cls dd H2 k (t1.trans t2) xr⟩
  exact hl G x y v u H2 st2 Kn Q h2 t2.hold (t2.dn d1) d2 fun d st' v' H' k t' dn' => hn d st' v' H' k (t1.trans (t2.trans t')) dn'
theorem pd_op {op : Operator} {r : R2} {g : D → D → Sto → KD → Prop} (ho : OpR X (binaryOp op) r) (hl : OpL r g) (ha : PD X W a wa) (hb : PD X W b wb) : PD X W (.BinOp a op b pos) (wOp g wa wb) := PE.imp (pe_op ho ha hb) (lf_op hl)
theorem pd_cmp {op : CmpOp} {r : R2} {g : D → D → Sto → KD → Prop} (ho : OpR X (compareOp op) r) (hl : OpL r g) (ha : PD X W a wa) (hb : PD X W b wb) (hm : behindInMarks op b = false) : PD X W (.Compare a [op] [b] pos) (wOp g wa wb) := PE.imp (pe_cmpR ho ha hb hm) (lf_op hl)
theorem pd_ix {r : R2} {g : D → D → Sto → KD → Prop} (hr : IxR X r) (hl : OpL r g) (ha : PD X W a wa) (hb : PD X W b wb) (hs : PlainIx b := by exact fun _ _ => rfl) : PD X W (.Subscript a b pos) (wOp g wa wb) := PE.imp (pe_ix hr ha hb hs) (lf_op hl)
def UnL (r : V → Hp → VK → Prop) (g : D → Sto → KD → Prop) : Prop :=
  ∀ (G : Addr → Prop) (dx : D) (x : V) (H : Hp) (st : Sto) (Kn : KD) (Q : VK), g dx st Kn → Hold G H st → Dn (On G st) H dx x →
    (∀ d st' v H', Kn d st' → To G H st H' st' → Dn (On G st') H' d v → Q v H') → r x H Q
def wUn (g : D → Sto → KD → Prop) (wa : WE) : WE := fun env st Kn Kx => wa env st (fun x st1 => g x st1 Kn) Kx
theorem pd_un {op : UnaryOp} {r : V → Hp → VK → Prop} {g : D → Sto → KD → Prop} (ho : UnR X (unaryOp op) r) (hl : UnL r g) (ha : PD X W a wa) : PD X W (.UnaryOp op a pos) (wUn g wa) :=
  PE.imp (pe_un ho ha) fun σ H Q ⟨G, env, st, Kn, Kx, hold, er, hw, hn, hx⟩ => ⟨G, env, st, _, Kx, hold, er, hw, fun x st1 v H1 h1 t1 d1 => hl G x v H1 st1 Kn Q h1 t1.hold d1 fun d st' v' H' k t' dn' => hn d st' v' H' k (t1.trans t') dn', hx⟩
def wChain (g g' : D → D → Sto → KD → Prop) (wa wb wc : WE) : WE := fun env st Kn Kx => wa env st (fun x s1 => wb env s1 (fun y s2 => g x y s2 fun z s3 => match z with
  | .bl true => wc env s3 (fun w s4 => g' y w s4 Kn) Kx
  | .bl false => Kn (.bl false) s3
  | _ => False) Kx) Kx
theorem pd_chain {op op' : CmpOp} {r r' : R2} {g g' : D → D → Sto → KD → Prop} (ho : OpR X (compareOp op) r) (ho' : OpR X (compareOp op') r') (hl : OpL r g) (hl' : OpL r' g') (ha : PD X W a wa) (hb : PD X W b wb) (hc : PD X W c wc)
    (hm : lastMarks [op, op'] [b, c] = false := by with_unfolding_all rfl) : PD X W (.Compare a [op, op'] [b, c] pos) (wChain g g' wa wb wc) := by
  refine PE.imp (pe_chain ho ho' ha hb hc hm) ?_
  rintro σ H Q ⟨G, env, st, Kn, Kx, hold, er, hw, hn, hx⟩
  refine ⟨G, env, st, _, Kx, hold, er, hw, fun x st1 v H1 h1 t1 d1 => ?_, hx⟩
  refine ⟨G, env, st1, _, Kx, t1.hold, er.le t1.le.g, h1, fun y st2 u H2 h2 t2 d2 => ?_, fun z st2 cls dd H2 k t2 xr => hx z st2 cls dd H2 k (t1.trans t2) xr⟩
  refine hl G x y v u H2 st2 _ _ h2 t2.hold (t2.dn d1) d2 fun z st3 v3 H3 k t3 dn3 => ?_
  split at k
  · rw [dn_bl dn3]
    refine ⟨true, rfl, ?_⟩
    rw [if_pos rfl]
    have t := (t1.trans t2).trans t3
    refine ⟨G, env, st3, _, Kx, t3.hold, er.le t.le.g, k, fun w st4 v4 H4 h4 t4 d4 => ?_, fun z st4 cls dd H4 k t4 xr => hx z st4 cls dd H4 k (t.trans t4) xr⟩
    exact hl' G y w u v4 H4 st4 Kn Q h4 t4.hold (t4.dn (t3.dn d2)) d4 fun d st' v' H' k t' dn' => hn d st' v' H' k ((t.trans t4).trans t') dn'
  · rw [dn_bl dn3]
    refine ⟨false, rfl, ?_⟩
    rw [if_neg Bool.false_ne_true]
    exact hn _ _ _ _ k ((t1.trans t2).trans t3) mk_bl
  · exact k.elim

/-! ### tests -/
def wTv (w : WE) : WT := fun env st Kn Kx => w env st (fun d st' => match d with
  | .bl b => Kn b st'
  | _ => False) Kx
theorem pdt_val (h : PD X W e we) (he : ∀ whole, isTrue e X.env whole = (do let v ← whole; standAt e.pos; holding [v] (truthy v)) := by intro _; rfl) : PDT X W e (wTv we) :=
  PT.imp (pt_val h he) fun σ H Q ⟨G, env, st, Kn, Kx, hold, er, hw, hn, hx⟩ => ⟨G, env, st, _, Kx, hold, er, hw, fun d st' v H' k t dn => by
    split at k
    · exact ⟨_, dn_bl dn, hn _ _ _ k t⟩
    · exact k.elim, hx⟩
theorem pdt_of (h : PT X e (tTest (lfE W we))) : PDT X W e (wTv we) :=
  PT.imp h fun σ H Q ⟨G, env, st, Kn, Kx, hold, er, hw, hn, hx⟩ => ⟨G, env, st, _, Kx, hold, er, hw, fun d st' v H' k t dn => by
    split at k
    · exact ⟨_, dn_bl dn, hn _ _ _ k t⟩
    · exact k.elim, hx⟩
theorem PT.tst {t t' : TE} (h : PT X e (tTest t)) (i : ∀ σ H Q, t' σ H Q → t σ H Q) : PT X e (tTest t') := PT.imp h fun σ H Q q => i _ _ _ q
theorem pdt_cmp {op : CmpOp} {r : R2} {g : D → D → Sto → KD → Prop} (ho : OpR X (compareOp op) r) (hl : OpL r g) (ha : PD X W a wa) (hb : PD X W b wb) (hm : behindInMarks op b = false) : PDT X W (.Compare a [op] [b] pos) (wTv (wOp g wa wb)) :=
  pdt_of (PT.tst (pt_cmpR ho ha hb hm) (lf_op hl))
/-- the truth of a value -/
def gTru (d : D) (st : Sto) (Kn : Bool → Sto → Prop) : Prop := match d with
  | .non => Kn false st
  | .bl b => Kn b st
  | .int i => Kn (i != 0) st
  | .str x => x.length ≤ sizeLine ∧ Kn ((x.length : Int) != 0) st
  | .lst ds => Kn (!ds.isEmpty) st
  | .tup ds => Kn (!ds.isEmpty) st
  | .ref a => match st.lookup a with
    | some (.lst ds) => Kn (!ds.isEmpty) st
    | _ => False
  | _ => False
theorem dns_empty {F : Addr → Prop} {H : Hp} {ds : List D} {vs : List V} (h : Dns F H ds vs) : (!ds.isEmpty) = !vs.isEmpty := by
  have := h.length
  cases ds <;> cases vs <;> simp_all
def wTru (w : WE) : WT := fun env st Kn Kx => w env st (fun d st' => gTru d st' Kn) Kx
theorem pdt_tru (h : PD X W e we) (he : ∀ whole, isTrue e X.env whole = (do let v ← whole; standAt e.pos; holding [v] (truthy v)) := by intro _; rfl) : PDT X W e (wTru we) :=
  PT.imp (pt_truth h he) fun σ H Q ⟨G, env, st, Kn, Kx, hold, er, hw, hn, hx⟩ => ⟨G, env, st, _, Kx, hold, er, hw, fun d st' v H' k t dn => by
    cases d with
    | non => rw [dn_non dn]; exact ⟨false, rfl, hn _ _ _ k t⟩
    | bl b => rw [dn_bl dn]; exact ⟨b, rfl, hn _ _ _ k t⟩
    | int i => rw [dn_int dn]; exact ⟨_, rfl, hn _ _ _ k t⟩
    | str x => rw [dn_str dn]; exact ⟨_, ⟨k.1, rfl⟩, hn _ _ _ k.2 t⟩
    | lst ds =>
      obtain ⟨p, xs, rfl, hp, _, r⟩ := dn_lst dn
      exact ⟨_, .inl ⟨xs, SqL.of hp, rfl⟩, hn _ _ _ (by rw [← dns_empty r]; exact k) t⟩
    | tup ds =>
      obtain ⟨p, xs, rfl, hp, _, r⟩ := dn_tup dn
      exact ⟨_, .inr (.inl ⟨xs, SqT.of hp, rfl⟩), hn _ _ _ (by rw [← dns_empty r]; exact k) t⟩
    | ref p =>
      rw [dn_ref dn]
      have k : (match st'.lookup p with | some (.lst ds) => Kn (!ds.isEmpty) st' | _ => False) := k
      split at k
      · rename_i ds l
        obtain ⟨xs, hp, r⟩ := t.hold.at l
        exact ⟨_, .inl ⟨xs, SqL.of hp, rfl⟩, hn _ _ _ (by rw [← dns_empty r]; exact k) t⟩
      · exact k.elim
    | _ => exact (show False from k).elim, hx⟩
def wNot (w : WT) : WT := fun env st Kn Kx => w env st (fun b st' => Kn (!b) st') Kx
def wAnd (w u : WT) : WT := fun env st Kn Kx => w env st (fun b st' => match b with
  | true => u env st' Kn Kx
  | false => Kn false st') Kx
def wOr (w u : WT) : WT := fun env st Kn Kx => w env st (fun b st' => match b with
  | true => Kn true st'
  | false => u env st' Kn Kx) Kx
abbrev PDW (X : Cx) (W : WX) (e : Expr) (w : WT) : Prop := PW X e (lfT W w)
variable {wt wu : WT} {rest : List Expr}
theorem pdt_not (h : PDT X W e wt) : PDT X W (.UnaryOp .Not e pos) (wNot wt) :=
  PT.imp (pt_not h) fun σ H Q ⟨G, env, st, Kn, Kx, hold, er, hw, hn, hx⟩ => ⟨G, env, st, _, Kx, hold, er, hw, fun d st' H' k t => hn _ _ _ k t, hx⟩
theorem pdw_and1 (h : PDT X W e wt) : PDW X W (.BoolOp .And [e] pos) wt := pw_and1 h
theorem pdw_or1 (h : PDT X W e wt) : PDW X W (.BoolOp .Or [e] pos) wt := pw_or1 h
theorem pdw_and (h : PDT X W a wt) (hb : PDW X W (.BoolOp .And (b :: rest) pos) wu) : PDW X W (.BoolOp .And (a :: b :: rest) pos) (wAnd wt wu) :=
  PW.imp (pw_and h hb) fun σ H Q ⟨G, env, st, Kn, Kx, hold, er, hw, hn, hx⟩ => ⟨G, env, st, _, Kx, hold, er, hw, fun d st' H' k t => by
    cases d with
    | true => rw [if_pos rfl]; exact ⟨G, env, st', Kn, Kx, t.hold, er.le t.le.g, k, fun d st2 H2 k2 t2 => hn _ _ _ k2 (t.trans t2), fun x st2 cls dd H2 k2 t2 xr => hx _ _ _ _ _ k2 (t.trans t2) xr⟩
    | false => rw [if_neg Bool.false_ne_true]; exact hn _ _ _ k t, hx⟩
theorem pdw_or (h : PDT X W a wt) (hb : PDW X W (.BoolOp .Or (b :: rest) pos) wu) : PDW X W (.BoolOp .Or (a :: b :: rest) pos) (wOr wt wu) :=
  PW.imp (pw_or h hb) fun σ H Q ⟨G, env, st, Kn, Kx, hold, er, hw, hn, hx⟩ => ⟨G, env, st, _, Kx, hold, er, hw, fun d st' H' k t => by
    cases d with
    | false => rw [if_neg Bool.false_ne_true]; exact ⟨G, env, st', Kn, Kx, t.hold, er.le t.le.g, k, fun d st2 H2 k2 t2 => hn _ _ _ k2 (t.trans t2), fun x st2 cls dd H2 k2 t2 xr => hx _ _ _ _ _ k2 (t.trans t2) xr⟩
    | true => rw [if_pos rfl]; exact hn _ _ _ k t, hx⟩
theorem pdt_w (h : PDW X W e wt) : PDT X W e wt := PW.pt h
/-! bools as values -/
def wAndV (w u : WE) : WE := fun env st Kn Kx => w env st (fun d st' => match d with
  | .bl true => u env st' Kn Kx
  | .bl false => Kn (.bl false) st'
  | _ => False) Kx
def wOrV (w u : WE) : WE := fun env st Kn Kx => w env st (fun d st' => match d with
  | .bl false => u env st' Kn Kx
  | .bl true => Kn (.bl true) st'
  | _ => False) Kx
def wNotV (w : WE) : WE := fun env st Kn Kx => w env st (fun d st' => match d with
  | .bl b => Kn (.bl (!b)) st'
  | _ => False) Kx
theorem pd_one {op} (h : PD X W a wa) : PD X W (.BoolOp op [a] pos) wa := pe_one h
theorem lfE_go {G : Addr → Prop} {env : DEnv} {st st' : Sto} {Kn : KD} {Kx : KX} {σ : L2.St} {H H' : Hp} {Q : VK} {w : WE} (er : EnvR (On G st) H env σ) (t : To G H st H' st') (k : w env st' Kn Kx)
    (hn : ∀ d st' v H', Kn d st' → To G H st H' st' → Dn (On G st') H' d v → Q v H') (hx : ∀ x st' cls dd H', Kx x st' → To G H st H' st' → XRel (On G st') H' x cls dd → W cls dd σ H') : lfE W w σ H' Q :=
  ⟨G, env, st', Kn, Kx, t.hold, er.le t.le.g, k, fun d st2 v H2 k2 t2 dn => hn _ _ _ _ k2 (t.trans t2) dn, fun x st2 cls dd H2 k2 t2 xr => hx _ _ _ _ _ k2 (t.trans t2) xr⟩
theorem pd_and (h : PD X W a wa) (hb : PD X W (.BoolOp .And (b :: rest) pos) wb) : PD X W (.BoolOp .And (a :: b :: rest) pos) (wAndV wa wb) :=
  PE.imp (pe_and h hb) fun σ H Q ⟨G, env, st, Kn, Kx, hold, er, hw, hn, hx⟩ => ⟨G, env, st, _, Kx, hold, er, hw, fun d st' v H' k t dn => by
    split at k
    · exact ⟨true, dn_bl dn, by rw [if_pos rfl]; exact lfE_go er t k hn hx⟩
    · exact ⟨false, dn_bl dn, by rw [if_neg Bool.false_ne_true]; exact hn _ _ _ _ k t mk_bl⟩
    · exact k.elim, hx⟩
theorem pd_or (h : PD X W a wa) (hb : PD X W (.BoolOp .Or (b :: rest) pos) wb) : PD X W (.BoolOp .Or (a :: b :: rest) pos) (wOrV wa wb) :=
  PE.imp (pe_or h hb) fun σ H Q ⟨G, env, st, Kn, Kx, hold, er, hw, hn, hx⟩ => ⟨G, env, st, _, Kx, hold, er, hw, fun d st' v H' k t dn => by
    split at k
    · exact ⟨false, dn_bl dn, by rw [if_neg Bool.false_ne_true]; exact lfE_go er t k hn hx⟩
    · exact ⟨true, dn_bl dn, by rw [if_pos rfl]; exact hn _ _ _ _ k t mk_bl⟩
    · exact k.elim, hx⟩
theorem pd_not (h : PD X W a wa) : PD X W (.UnaryOp .Not a pos) (wNotV wa) :=
  PE.imp (pe_not h) fun σ H Q ⟨G, env, st, Kn, Kx, hold, er, hw, hn, hx⟩ => ⟨G, env, st, _, Kx, hold, er, hw, fun d st' v H' k t dn => by
    split at k
    · exact ⟨_, dn_bl dn, hn _ _ _ _ k t mk_bl⟩
    · exact k.elim, hx⟩
def wIfE (c : WT) (w u : WE) : WE := fun env st Kn Kx => c env st (fun b st' => match b with
  | true => w env st' Kn Kx
  | false => u env st' Kn Kx) Kx
theorem pd_if (hc : PDT X W c wt) (ha : PD X W a wa) (hb : PD X W b wb) : PD X W (.IfExp c a b pos) (wIfE wt wa wb) :=
  PE.imp (pe_ifExp hc ha hb) fun σ H Q ⟨G, env, st, Kn, Kx, hold, er, hw, hn, hx⟩ => ⟨G, env, st, _, Kx, hold, er, hw, fun d st' H' k t => by
    cases d with
    | true => rw [if_pos rfl]; exact lfE_go er t k hn hx
    | false => rw [if_neg Bool.false_ne_true]; exact lfE_go er t k hn hx, hx⟩

/-! ### argument lists, displays -/
def wNil : WA := fun _ st Kn _ => Kn [] st
def wCons (w : WE) (u : WA) : WA := fun env st Kn Kx => w env st (fun d st1 => u env st1 (fun ds st2 => Kn (d :: ds) st2) Kx) Kx
variable {ws : WA}
theorem pda_nil : PDA X W [] wNil := PA.imp pa_nil fun σ H Q ⟨G, env, st, Kn, Kx, hold, er, hw, hn, hx⟩ => hn [] st [] H hw (To.refl hold) .nil
theorem pda_cons (h : PD X W e we) (r : PDA X W es ws) (hs : starEach (e :: es) X.env = (false, eval e X.env) :: starEach es X.env := by rfl) : PDA X W (e :: es) (wCons we ws) :=
  PA.imp (pa_cons h r hs) fun σ H Q ⟨G, env, st, Kn, Kx, hold, er, hw, hn, hx⟩ => ⟨G, env, st, _, Kx, hold, er, hw, fun d st1 v H1 k1 t1 d1 =>
    ⟨G, env, st1, _, Kx, t1.hold, er.le t1.le.g, k1, fun ds st2 vs H2 k2 t2 d2 => hn _ _ _ _ k2 (t1.trans t2) (.cons (t2.dn d1) d2), fun x st2 cls dd H2 k2 t2 xr => hx _ _ _ _ _ k2 (t1.trans t2) xr⟩, hx⟩
def wTup (ws : WA) : WE := fun env st Kn Kx => ws env st (fun ds st' => ds.length ≤ sizeLine ∧ Kn (.tup ds) st') Kx
def wLst (ws : WA) : WE := fun env st Kn Kx => ws env st (fun ds st' => ds.length ≤ sizeLine ∧ Kn (.lst ds) st') Kx
/-- a list that will be changed -/
def wLstC (ws : WA) : WE := fun env st Kn Kx => ws env st (fun ds st' => ds.length ≤ sizeLine ∧ ∀ p, ¬ st'.on p → Kn (.ref p) ((p, .lst ds) :: st')) Kx
theorem Hold.ntup {G : Addr → Prop} {H : Hp} {st : Sto} (h : Hold G H st) {p : Addr} (hp : H p = none) {ds : List D} {xs : List V} (r : Dns (On G st) H ds xs) : Dn (On G st) (upd H p (.tup xs)) (.tup ds) (.ref p) :=
  mk_tup upd_same (h.fresh hp) (Dns.le (le_laid hp) _ _ r)
theorem Hold.nlst {G : Addr → Prop} {H : Hp} {st : Sto} (h : Hold G H st) {p : Addr} (hp : H p = none) {ds : List D} {xs : List V} (r : Dns (On G st) H ds xs) : Dn (On G st) (upd H p (.lst xs)) (.lst ds) (.ref p) :=
  mk_lst upd_same (h.fresh hp) (Dns.le (le_laid hp) _ _ r)
theorem Hold.clst {G : Addr → Prop} {H : Hp} {st : Sto} (h : Hold G H st) {p : Addr} (hp : H p = none) {ds : List D} {xs : List V} (r : Dns (On G st) H ds xs) : To G H st (upd H p (.lst xs)) ((p, .lst ds) :: st) :=
  h.cell hp ⟨xs, upd_same, Dns.le (le_cell hp).g _ _ r⟩
theorem pd_tup {x1} (h : PDA X W es ws) : PD X W (.Tuple es x1 pos) (wTup ws) :=
  PE.imp (pe_tup h) fun σ H Q ⟨G, env, st, Kn, Kx, hold, er, hw, hn, hx⟩ => ⟨G, env, st, _, Kx, hold, er, hw, fun ds st' vs H' k t dn =>
    ⟨by rw [dn.length]; exact k.1, fun p hp => hn _ _ _ _ k.2 (t.trans (t.hold.laid hp)) (t.hold.ntup hp dn)⟩, hx⟩
theorem pd_lst (h : PDA X W es ws) : PD X W (.List es pos) (wLst ws) :=
  PE.imp (pe_lst h) fun σ H Q ⟨G, env, st, Kn, Kx, hold, er, hw, hn, hx⟩ => ⟨G, env, st, _, Kx, hold, er, hw, fun ds st' vs H' k t dn =>
    ⟨by rw [dn.length]; exact k.1, fun p hp => hn _ _ _ _ k.2 (t.trans (t.hold.laid hp)) (t.hold.nlst hp dn)⟩, hx⟩
theorem pd_lstC (h : PDA X W es ws) : PD X W (.List es pos) (wLstC ws) :=
  PE.imp (pe_lst h) fun σ H Q ⟨G, env, st, Kn, Kx, hold, er, hw, hn, hx⟩ => ⟨G, env, st, _, Kx, hold, er, hw, fun ds st' vs H' k t dn =>
    ⟨by rw [dn.length]; exact k.1, fun p hp => hn _ _ _ _ (k.2 p fun z => t.hold.fresh hp (.inl z)) (t.trans (t.hold.clst hp dn)) mk_ref⟩, hx⟩

/-! ### built-ins called by values -/
def CallL (r : List V → Hp → VK → Prop) (g : List D → Sto → KD → Prop) : Prop :=
  ∀ (G : Addr → Prop) (ds : List D) (vs : List V) (H : Hp) (st : Sto) (Kn : KD) (Q : VK), g ds st Kn → Hold G H st → Dns (On G st) H ds vs →
    (∀ d st' v H', Kn d st' → To G H st H' st' → Dn (On G st') H' d v → Q v H') → r vs H Q
def wCB (g : List D → Sto → KD → Prop) (ws : WA) : WE := fun env st Kn Kx => ws env st (fun ds st' => g ds st' Kn) Kx
theorem lf_cb {r : List V → Hp → VK → Prop} {g : List D → Sto → KD → Prop} (hl : CallL r g) : ∀ σ H Q, lfE W (wCB g ws) σ H Q → tCB r (lfA W ws) σ H Q :=
  fun σ H Q ⟨G, env, st, Kn, Kx, hold, er, hw, hn, hx⟩ => ⟨G, env, st, _, Kx, hold, er, hw, fun ds st' vs H' k t dn => hl G ds vs H' st' Kn Q k t.hold dn fun d st2 v H2 k2 t2 d2 => hn _ _ _ _ k2 (t.trans t2) d2, hx⟩
variable {x : Str} {p : Pos} {id T : String} {r : List V → Hp → VK → Prop} {g : List D → Sto → KD → Prop}
theorem pd_callB (hc : CallR X (.builtin id) r) (hl : CallL r g) (hg : Gl X x) (hm : X.mg x = none) (hv : bootBuiltins x = some (.builtin id)) (ha : PDA X W (e :: es) ws) (hn : x ≠ "__name__" := by decide) (hdb : (x == ("__debug__" : Str)) = false := by decide)
    (he : starEach (e :: es) X.env = (false, eval e X.env) :: starEach es X.env := by rfl) (hpl : (backTo pos (starEach es X.env)).any (·.1) = false := by rfl) : PD X W (.Call (.Name x p) (e :: es) [] pos) (wCB g ws) :=
  PE.imp (pe_callB hc hg hm hv ha hn hdb he hpl) (lf_cb hl)
theorem pd_callT (hc : CallR X (.type T) r) (hl : CallL r g) (hg : Gl X x) (hm : X.mg x = none) (hv : bootBuiltins x = some (.type T)) (ha : PDA X W (e :: es) ws) (hn : x ≠ "__name__" := by decide) (hdb : (x == ("__debug__" : Str)) = false := by decide)
    (he : starEach (e :: es) X.env = (false, eval e X.env) :: starEach es X.env := by rfl) (hpl : (backTo pos (starEach es X.env)).any (·.1) = false := by rfl) : PD X W (.Call (.Name x p) (e :: es) [] pos) (wCB g ws) :=
  PE.imp (pe_callTy hc hg hm hv ha hn hdb he hpl) (lf_cb hl)

/-! ### statements -/
theorem lfS_go {G : Addr → Prop} {env : DEnv} {st st' : Sto} {DD : DEnds} {Ed : Ends} {σ : L2.St} {H H' : Hp} {w : WS} (er : EnvR (On G st') H' env σ) (t : To G H st H' st') (k : w DD env st')
    (h1 : ∀ env' st' σ' H', DD.nx env' st' → To G H st H' st' → EnvR (On G st') H' env' σ' → Ed.nx σ' H')
    (h2 : ∀ d st' v H', DD.rt d st' → To G H st H' st' → Dn (On G st') H' d v → Ed.rt v H')
    (h3 : ∀ env' st' σ' H', DD.bk env' st' → To G H st H' st' → EnvR (On G st') H' env' σ' → Ed.bk σ' H')
    (h4 : ∀ env' st' σ' H', DD.ct env' st' → To G H st H' st' → EnvR (On G st') H' env' σ' → Ed.ct σ' H')
    (h5 : ∀ x env' st' cls dd σ' H', DD.ex x env' st' → To G H st H' st' → EnvR (On G st') H' env' σ' → XRel (On G st') H' x cls dd → W cls dd σ' H') : lfS W w Ed σ H' :=
  ⟨G, env, st', DD, t.hold, er, k, fun _ _ _ _ k' t' e' => h1 _ _ _ _ k' (t.trans t') e', fun _ _ _ _ k' t' e' => h2 _ _ _ _ k' (t.trans t') e', fun _ _ _ _ k' t' e' => h3 _ _ _ _ k' (t.trans t') e', fun _ _ _ _ k' t' e' => h4 _ _ _ _ k' (t.trans t') e',
    fun _ _ _ _ _ _ _ k' t' e' x' => h5 _ _ _ _ _ _ _ k' (t.trans t') e' x'⟩
def wNext : WS := fun D env st => D.nx env st
def wSeq (w u : WS) : WS := fun D env st => w { D with nx := u D } env st
def wDrop (w : WE) : WS := fun D env st => w env st (fun _ st' => D.nx env st') (fun x st' => D.ex x env st')
def wRet (w : WE) : WS := fun D env st => w env st D.rt (fun x st' => D.ex x env st')
def wRetN : WS := fun D _ st => D.rt .non st
def wIf (c : WT) (w u : WS) : WS := fun D env st => c env st (fun b st' => match b with
  | true => w D env st'
  | false => u D env st') (fun x st' => D.ex x env st')
variable {s : Stmt} {sts ss : List Stmt} {w u : WS}
theorem pds_nil : PDSs X W [] wNext := PSs.imp pss_nil fun D σ H ⟨G, env, st, DD, hold, er, hw, h1, _⟩ => h1 _ _ _ _ hw (To.refl hold) er
theorem pds_cons (h : PDS X W s w) (t : PDSs X W sts u) : PDSs X W (s :: sts) (wSeq w u) :=
  PSs.imp (pss_cons h t) fun D σ H ⟨G, env, st, DD, hold, er, hw, h1, h2, h3, h4, h5⟩ => ⟨G, env, st, _, hold, er, hw, fun env' st' σ' H' k t e => lfS_go e t k h1 h2 h3 h4 h5, h2, h3, h4, h5⟩
theorem pds_one (h : PDS X W s w) : PDSs X W [s] w := pss_one h
theorem pds_pass : PDS X W (.Pass pos) wNext := PS.imp ps_pass fun D σ H ⟨G, env, st, DD, hold, er, hw, h1, _⟩ => h1 _ _ _ _ hw (To.refl hold) er
theorem pds_doc {x j pos pos'} : PDS X W (.Expr (.Constant (.str x) j pos) pos') wNext := PS.imp ps_doc fun D σ H ⟨G, env, st, DD, hold, er, hw, h1, _⟩ => h1 _ _ _ _ hw (To.refl hold) er
theorem lfE_s {G : Addr → Prop} {env : DEnv} {st : Sto} {DD : DEnds} {σ : L2.St} {H : Hp}
    (er : EnvR (On G st) H env σ) (h5 : ∀ x env' st' cls dd σ' H', DD.ex x env' st' → To G H st H' st' → EnvR (On G st') H' env' σ' → XRel (On G st') H' x cls dd → W cls dd σ' H') :
    ∀ x st' cls dd H', DD.ex x env st' → To G H st H' st' → XRel (On G st') H' x cls dd → W cls dd σ H' := fun x st' cls dd H' k t xr => h5 _ _ _ _ _ _ _ k t (er.le t.le.g) xr
theorem pds_expr (h : PD X W e we) (hs : swapsWith e none pos.line X.env = pure false := by rfl) : PDS X W (.Expr e pos) (wDrop we) :=
  PS.imp (ps_expr h hs) fun D σ H ⟨G, env, st, DD, hold, er, hw, h1, h2, h3, h4, h5⟩ => ⟨G, env, st, _, _, hold, er, hw, fun d st' v H' k t dn => h1 _ _ _ _ k t (er.le t.le.g), lfE_s er h5⟩
theorem pds_ret (h : PD X W e we) : PDS X W (.Return (some e) pos) (wRet we) :=
  PS.imp (ps_ret h) fun D σ H ⟨G, env, st, DD, hold, er, hw, h1, h2, h3, h4, h5⟩ => ⟨G, env, st, _, _, hold, er, hw, fun d st' v H' k t dn => h2 _ _ _ _ k t dn, lfE_s er h5⟩
theorem pds_retN : PDS X W (.Return none pos) wRetN := PS.imp ps_retN fun D σ H ⟨G, env, st, DD, hold, er, hw, h1, h2, _⟩ => h2 _ _ _ _ hw (To.refl hold) mk_non
theorem pds_if (hc : PDT X W c wt) (ha : PDSs X W sts w) (hb : PDSs X W ss u) : PDS X W (.If c sts ss pos) (wIf wt w u) :=
  PS.imp (ps_if hc ha hb) fun D σ H ⟨G, env, st, DD, hold, er, hw, h1, h2, h3, h4, h5⟩ => ⟨G, env, st, _, _, hold, er, hw, fun d st' H' k t => by
    cases d with
    | true => rw [if_pos rfl]; exact lfS_go (er.le t.le.g) t k h1 h2 h3 h4 h5
    | false => rw [if_neg Bool.false_ne_true]; exact lfS_go (er.le t.le.g) t k h1 h2 h3 h4 h5, lfE_s er h5⟩

/-! ### targets -/
abbrev WG := D → DEnv → Sto → (DEnv → Sto → Prop) → (XD → DEnv → Sto → Prop) → Prop
abbrev WGs := List D → DEnv → Sto → (DEnv → Sto → Prop) → (XD → DEnv → Sto → Prop) → Prop
def lfG (W : WX) (g : WG) : TG := fun v σ H Q => ∃ (G : Addr → Prop) (d : D) (env : DEnv) (st : Sto) (Kn : DEnv → Sto → Prop) (Kx : XD → DEnv → Sto → Prop), Hold G H st ∧ EnvR (On G st) H env σ ∧ Dn (On G st) H d v ∧ g d env st Kn Kx ∧
  (∀ env' st' σ' H', Kn env' st' → To G H st H' st' → EnvR (On G st') H' env' σ' → Q σ' H') ∧ (∀ x env' st' cls dd σ' H', Kx x env' st' → To G H st H' st' → EnvR (On G st') H' env' σ' → XRel (On G st') H' x cls dd → W cls dd σ' H')
def lfGs (W : WX) (g : WGs) : TGs := fun v σ H Q => ∃ (G : Addr → Prop) (d : List D) (env : DEnv) (st : Sto) (Kn : DEnv → Sto → Prop) (Kx : XD → DEnv → Sto → Prop), Hold G H st ∧ EnvR (On G st) H env σ ∧ Dns (On G st) H d v ∧ g d env st Kn Kx ∧
  (∀ env' st' σ' H', Kn env' st' → To G H st H' st' → EnvR (On G st') H' env' σ' → Q σ' H') ∧ (∀ x env' st' cls dd σ' H', Kx x env' st' → To G H st H' st' → EnvR (On G st') H' env' σ' → XRel (On G st') H' x cls dd → W cls dd σ' H')
abbrev PDG (X : Cx) (W : WX) (e : Expr) (g : WG) : Prop := PG X e (lfG W g)
abbrev PDGs (X : Cx) (W : WX) (e : List Expr) (g : WGs) : Prop := PGs X e (lfGs W g)
theorem PG.imp {t t' : TG} (h : PG X e t) (i : ∀ v σ H Q, t' v σ H Q → t v σ H Q) : PG X e t' := by
  cases h with
  | mk h => exact ⟨by intros; first | (apply h <;> first | assumption | (apply i; assumption)) | skip⟩
theorem PGs.imp {t t' : TGs} (h : PGs X es t) (i : ∀ v σ H Q, t' v σ H Q → t v σ H Q) : PGs X es t' := by
  cases h with
  | mk h => exact ⟨by intros; first | (apply h <;> first | assumption | (apply i; assumption)) | skip⟩
def dgN (i : Nat) : WG := fun d env st Kn _ => Kn (env.set i (some d)) st
theorem pdg_name {i : Nat} {x : Str} (hN : X.N.Nodup) (hi : X.N[i]? = some x) (hx : Loc X.env.scope x) (hf : X.fn x = true ∨ X.env.scope.names.lookup x = some .local := by first | exact .inl rfl | exact .inr rfl | assumption) : PDG X W (.Name x pos) (dgN i) :=
  PG.imp (pg_name hN hi hx hf) fun v σ H Q ⟨G, d, env, st, Kn, Kx, hold, er, dn, hw, h1, _⟩ => h1 _ _ _ _ hw (To.refl hold) (er.set i dn)
def dgNil : WGs := fun ds env st Kn _ => match ds with
  | [] => Kn env st
  | _ => False
def dgCons (g : WG) (gs : WGs) : WGs := fun ds env st Kn Kx => match ds with
  | d :: r => g d env st (fun env' st' => gs r env' st' Kn Kx) Kx
  | _ => False
theorem pdgs_nil : PDGs X W [] dgNil := PGs.imp pgs_nil fun v σ H Q ⟨G, d, env, st, Kn, Kx, hold, er, dn, hw, h1, _⟩ => by
  cases d with
  | nil => exact ⟨dn.nil_inv, h1 _ _ _ _ hw (To.refl hold) er⟩
  | cons _ _ => exact (show False from hw).elim
theorem pdgs_cons {g : WG} {gs : WGs} (h : PDG X W e g) (t : PDGs X W es gs) (hs : (assignEach (e :: es) X.env).map (·.2) = assign e X.env :: (assignEach es X.env).map (·.2) := by rfl) : PDGs X W (e :: es) (dgCons g gs) := PGs.imp (pgs_cons h t hs) fun v σ H Q ⟨G, d, env, st, Kn, Kx, hold, er, dn, hw, h1, h2⟩ => by
  cases d with
  | nil => exact (show False from hw).elim
  | cons d ds =>
    obtain ⟨v0, r, rfl, d1, d2⟩ := dn.inv
    exact ⟨v0, r, rfl, G, d, env, st, _, Kx, hold, er, d1, hw, fun env' st' σ' H' k t e => ⟨G, ds, env', st', Kn, Kx, t.hold, e, t.dns d2, k, fun _ _ _ _ k2 t2 e2 => h1 _ _ _ _ k2 (t.trans t2) e2, fun _ _ _ _ _ _ _ k2 t2 e2 x2 => h2 _ _ _ _ _ _ _ k2 (t.trans t2) e2 x2⟩, h2⟩
def dgT (n : Nat) (gs : WGs) : WG := fun d env st Kn Kx => match d with
  | .tup ds => ds.length = n ∧ gs ds env st Kn Kx
  | _ => False
theorem pdg_tup {k : Nat} {gs : WGs} {n : Nat} (hc : X.calm = true) (h : PDGs X W es gs) (hn : (assignEach es X.env).length = n := by rfl) (hst : (assignEach es X.env).findIdx? (·.1) = none := by rfl) : PDG X W (.Tuple es k pos) (dgT n gs) :=
  PG.imp (pg_tup hc h hn hst) fun v σ H Q ⟨G, d, env, st, Kn, Kx, hold, er, dn, hw, h1, h2⟩ => by
    cases d with
    | tup ds =>
      obtain ⟨a, xs, rfl, ha, na, r⟩ := dn_tup dn
      exact ⟨a, xs, rfl, SqT.of ha, r.length.trans hw.1, G, ds, env, st, Kn, Kx, hold, er, r, hw.2, h1, h2⟩
    | _ => exact (show False from hw).elim
/-- o[i] = v by values -/
def SetL (r : V → V → V → Hp → (Hp → Prop) → Prop) (g : D → D → D → Sto → (Sto → Prop) → Prop) : Prop :=
  ∀ (G : Addr → Prop) (dO dI dV : D) (o i v : V) (H : Hp) (st : Sto) (Kn : Sto → Prop) (Q : Hp → Prop), g dO dI dV st Kn → Hold G H st → Dn (On G st) H dO o → Dn (On G st) H dI i → Dn (On G st) H dV v →
    (∀ st' H', Kn st' → To G H st H' st' → Q H') → r o i v H Q
def dgSub (wo wi : WE) (g : D → D → D → Sto → (Sto → Prop) → Prop) : WG := fun d env st Kn Kx => wo env st (fun o st1 => wi env st1 (fun i st2 => g o i d st2 fun st3 => Kn env st3) fun x st2 => Kx x env st2) fun x st1 => Kx x env st1
theorem pdg_sub {o i : Expr} {wo wi : WE} {r : V → V → V → Hp → (Hp → Prop) → Prop} {g : D → D → D → Sto → (Sto → Prop) → Prop} (hs : PSet X r) (hl : SetL r g) (ho : PD X W o wo) (hi : PD X W i wi)
    (ha : ∀ v, assign (.Subscript o i pos) X.env v = (do
      let ov ← holding [v] (eval o X.env)
      let iv ← holding [v, ov] (eval i X.env)
      standAt pos
      holding [v, ov, iv] (setItem ov iv v)
      release [v, ov, iv] []) := by intro _; rfl) : PDG X W (.Subscript o i pos) (dgSub wo wi g) :=
  PG.imp (pg_sub ho hi hs ha) fun v σ H Q ⟨G, d, env, st, Kn, Kx, hold, er, dn, hw, h1, h2⟩ =>
    ⟨G, env, st, _, _, hold, er, hw, fun o st1 ov H1 k1 t1 d1 => ⟨G, env, st1, _, _, t1.hold, er.le t1.le.g, k1, fun i st2 iv H2 k2 t2 d2 =>
      hl G o i d ov iv v H2 st2 _ _ k2 t2.hold (t2.dn d1) d2 (t2.dn (t1.dn dn)) fun st3 H3 k3 t3 => h1 _ _ _ _ k3 (t1.trans (t2.trans t3)) (er.le (t1.trans (t2.trans t3)).le.g),
      fun x st2 cls dd H2 k2 t2 xr => h2 _ _ _ _ _ _ _ k2 (t1.trans t2) (er.le (t1.trans t2).le.g) xr⟩, fun x st1 cls dd H1 k1 t1 xr => h2 _ _ _ _ _ _ _ k1 t1 (er.le t1.le.g) xr⟩
/-! assignments -/
def wAsg (w : WE) (g : WG) : WS := fun D env st => w env st (fun d st' => g d env st' D.nx D.ex) (fun x st' => D.ex x env st')
theorem pds_asg {tg : Expr} {g : WG} (he : PD X W e we) (hg : PDG X W tg g) (hs : swapsWithSole [tg] e pos.line X.env = pure false := by rfl) (hw : swappedStores [tg] e X.env = pure none := by rfl)
    (h1 : (assignEach [tg] X.env).map (·.2) = [assign tg X.env] := by rfl) : PDS X W (.Assign [tg] e pos) (wAsg we g) :=
  PS.imp (ps_asg he hg hs hw h1) fun D σ H ⟨G, env, st, DD, hold, er, hw, h1, h2, h3, h4, h5⟩ => ⟨G, env, st, _, _, hold, er, hw, fun d st' v H' k t dn =>
    ⟨G, d, env, st', _, _, t.hold, er.le t.le.g, dn, k, fun _ _ _ _ k2 t2 e2 => h1 _ _ _ _ k2 (t.trans t2) e2, fun _ _ _ _ _ _ _ k2 t2 e2 x2 => h5 _ _ _ _ _ _ _ k2 (t.trans t2) e2 x2⟩, lfE_s er h5⟩
theorem pds_set {i : Nat} {x : Str} {pos' : Pos} (hN : X.N.Nodup) (hi : X.N[i]? = some x) (hx : Loc X.env.scope x) (he : PD X W e we) (hs : swapsWith e (some (.Name x pos')) pos.line X.env = pure false := by rfl)
    (hf : X.fn x = true ∨ X.env.scope.names.lookup x = some .local := by first | exact .inl rfl | exact .inr rfl | assumption) : PDS X W (.Assign [.Name x pos'] e pos) (wAsg we (dgN i)) :=
  PS.imp (ps_set hN hi hx he hs hf) fun D σ H ⟨G, env, st, DD, hold, er, hw, h1, h2, h3, h4, h5⟩ => ⟨G, env, st, _, _, hold, er, hw, fun d st' v H' k t dn =>
    h1 _ _ _ _ k t ((er.le t.le.g).set i dn), lfE_s er h5⟩
def wPar (i j : Nat) (ws : WA) : WS := fun D env st => ws env st (fun ds st' => match ds with
  | [a, b] => D.nx ((env.set i (some a)).set j (some b)) st'
  | _ => False) (fun x st' => D.ex x env st')
theorem wpar_imp {i j : Nat} {ws : WA} {Ed : Ends} {σ : L2.St} {H : Hp} (h : lfS W (wPar i j ws) Ed σ H) : tPar i j (lfA W ws) Ed σ H := by
  obtain ⟨G, env, st, DD, hold, er, hw, h1, h2, h3, h4, h5⟩ := h
  refine ⟨G, env, st, _, _, hold, er, hw, fun ds st' vs H' k t dn => ?_, lfE_s er h5⟩
  split at k
  · obtain ⟨v, r, rfl, d1, dn⟩ := dn.inv
    obtain ⟨u, r, rfl, d2, dn⟩ := dn.inv
    cases dn.nil_inv
    exact ⟨v, u, rfl, h1 _ _ _ _ k t (((er.le t.le.g).set i d1).set j d2)⟩
  · exact k.elim
/-- a list that was changed changes no more -/
def wFrz (i : Nat) (w : WS) : WS := fun D env st => match env[i]? with
  | some (some (.ref a)) => match st.lookup a with
    | some (.lst ds) => w D (env.set i (some (.lst ds))) (st.less a)
    | some (.dT ks ds) => w D (env.set i (some (.dT ks ds))) (st.less a)
    | _ => False
  | _ => False
theorem pdss_frz (i : Nat) (h : PDSs X W ss w) : PDSs X W ss (wFrz i w) :=
  PSs.imp h fun D σ H ⟨G, env, st, DD, hold, er, hw, h1, h2, h3, h4, h5⟩ => by
    unfold wFrz at hw
    split at hw
    · rename_i a e
      obtain ⟨v, ev, dv⟩ := er.2 _ _ e
      have t := hold.less a
      have ng : ¬ On G (st.less a) a := fun z => z.elim (fun z => (less_on.mp z).2 rfl) fun z => by
        split at hw
        · rename_i l; exact (hold.gh a z).2 (on_of l)
        · rename_i l; exact (hold.gh a z).2 (on_of l)
        · exact hw
      have key : ∀ dd : DL.D, Dn (On G (st.less a)) H dd (.ref a) → EnvR (On G (st.less a)) H (env.set i (some dd)) σ := fun dd hd => by
        have q := (er.le t.le.g).set i (d := dd) (v := .ref a) hd
        rw [dn_ref dv] at ev
        have es : σ.set i (some (V.ref a)) = σ := by
          apply List.ext_getElem?
          intro j
          by_cases hj : j = i
          · subst hj
            rw [ev]
            exact List.getElem?_set_self (List.getElem?_eq_some_iff.mp ev).1
          · rw [List.getElem?_set_ne (Ne.symm hj)]
        rw [es] at q
        exact q
      split at hw
      · rename_i ds l
        obtain ⟨xs, hx, r⟩ := hold.at l
        exact lfS_go (key _ (mk_lst hx ng (t.dns r))) t hw h1 h2 h3 h4 h5
      · rename_i ks ds l
        obtain ⟨xs, hx, ek, r⟩ := hold.at l
        exact lfS_go (key _ (by simp only [Dn]; exact ⟨a, xs, rfl, hx, ng, ek, t.dns r⟩)) t hw h1 h2 h3 h4 h5
      · exact hw.elim
    · exact hw.elim
end
end DL

namespace DL
open PySem PySem.Spec PyProof.Rows L2
section
variable {X : Cx} {W : WX} {e a b c tg iter elt : Expr} {es ifs : List Expr} {pos p : Pos} {wa wb wc we wi : WE} {ws : WA} {sts : List Stmt} {w : WS} {g : WG}
/-! ### for -/
def forL (g : WG) (b : WS) (DD : DEnds) : List D → DEnv → Sto → Prop
  | [], env, st => DD.nx env st
  | d :: ds, env, st => g d env st (fun env1 st1 => b { DD with nx := fun e s => forL g b DD ds e s, ct := fun e s => forL g b DD ds e s, bk := DD.nx } env1 st1) DD.ex
def rngD (lo : Int) (n : Nat) : List D := (List.range n).map fun (k : Nat) => D.int (lo + (k : Int))
theorem for_turn {G : Addr → Prop} {DD : DEnds} {d : D} {ds : List D} {env : DEnv} {st st0 : Sto} {σ : L2.St} {H H0 : Hp} {x : V} {P : L2.St → Hp → Prop} {Ed : Ends} (t : To G H0 st0 H st) (er : EnvR (On G st) H env σ) (hw : forL g w DD (d :: ds) env st) (dn : Dn (On G st) H d x)
    (hP : ∀ env' st' σ' H', forL g w DD ds env' st' → To G H0 st0 H' st' → EnvR (On G st') H' env' σ' → P σ' H')
    (h1 : ∀ env' st' σ' H', DD.nx env' st' → To G H0 st0 H' st' → EnvR (On G st') H' env' σ' → Ed.nx σ' H')
    (h2 : ∀ d st' v H', DD.rt d st' → To G H0 st0 H' st' → Dn (On G st') H' d v → Ed.rt v H')
    (h5 : ∀ x env' st' cls dd σ' H', DD.ex x env' st' → To G H0 st0 H' st' → EnvR (On G st') H' env' σ' → XRel (On G st') H' x cls dd → W cls dd σ' H') :
    lfG W g x σ H fun σ2 H2 => lfS W w { Ed with nx := P, ct := P, bk := Ed.nx } σ2 H2 := by
  refine ⟨G, d, env, st, _, _, t.hold, er, dn, hw, fun env' st' σ' H' k t' e' => ?_, fun x env' st' cls dd σ' H' k t' e' xr => h5 _ _ _ _ _ _ _ k (t.trans t') e' xr⟩
  exact lfS_go (H := H0) (st := st0) e' (t.trans t') k (fun _ _ _ _ k2 t2 e2 => hP _ _ _ _ k2 t2 e2) h2 h1 (fun _ _ _ _ k2 t2 e2 => hP _ _ _ _ k2 t2 e2) h5
theorem drop_at {α : Type} {l : List α} {i : Nat} (h : i < l.length) : l.drop i = l[i] :: l.drop (i + 1) := List.drop_eq_getElem_cons h
def wForT (wi : WE) (g : WG) (b : WS) : WS := fun D env st => wi env st (fun d st' => match d with
  | .tup ds => forL g b D ds env st'
  | _ => False) fun x st' => D.ex x env st'
/-- what a loop over a tuple asks, from the tuple on -/
theorem lf_forT {K : PySem.W.Frag} {G : Addr → Prop} {ds : List D} {xs : List V} {env : DEnv} {st st1 : Sto} {DD : DEnds} {Ed : Ends} {σ : L2.St} {H H1 : Hp} {p : Addr} (t : To G H st H1 st1) (er : EnvR (On G st1) H1 env σ) (hx : H1 p = some (.tup xs)) (np : ¬ On G st1 p) (r : Dns (On G st1) H1 ds xs) (k : forL g w DD ds env st1)
    (h1 : ∀ env' st' σ' H', DD.nx env' st' → To G H st H' st' → EnvR (On G st') H' env' σ' → Ed.nx σ' H')
    (h2 : ∀ d st' v H', DD.rt d st' → To G H st H' st' → Dn (On G st') H' d v → Ed.rt v H')
    (h5 : ∀ x env' st' cls dd σ' H', DD.ex x env' st' → To G H st H' st' → EnvR (On G st') H' env' σ' → XRel (On G st') H' x cls dd → W cls dd σ' H') :
    ∃ Wt : Nat → Nat → L2.St → Hp → Prop, (∃ m, Wt 0 m σ H1) ∧ ∀ i m σ H, Wt i m σ H →
      ((Itt K p).stop i H ∧ Ed.nx σ H) ∨ ((Itt K p).go i H ∧ ∃ N : L2.St → Hp → Prop, (∀ σ' H', N σ' H' → ∃ m', m' < m ∧ Wt (i + 1) m' σ' H') ∧ ∀ x H', (Itt K p).yld i H x H' → lfG W g x σ H' fun σ2 H2 => lfS W w { Ed with nx := N, ct := N, bk := Ed.nx } σ2 H2) := by
  have hl := r.length
  refine for_tup (K := K) (a := p) (xs := xs) (fun i σ' H' => ∃ env' st', To G H1 st1 H' st' ∧ EnvR (On G st') H' env' σ' ∧ forL g w DD (ds.drop i) env' st') ⟨env, st1, To.refl t.hold, er, k⟩
      (fun i σ' H' _ ⟨env', st', t', _⟩ => SqT.of (t'.le p _ hx fun z => np (.inl z)).1) ?_ ?_
  · intro i x σ' H' hx' ⟨env', st', t', e', k'⟩
    have hi : i < ds.length := by rw [← hl]; exact (List.getElem?_eq_some_iff.mp hx').1
    rw [drop_at hi] at k'
    obtain ⟨u, hu, du⟩ := (t'.dns r).get (List.getElem?_eq_getElem hi)
    rw [hx'] at hu; cases hu
    exact for_turn t' e' k' du (fun env2 st2 σ2 H2 k2 t2 e2 => ⟨env2, st2, t2, e2, k2⟩) (fun _ _ _ _ k t' e => h1 _ _ _ _ k (t.trans t') e) (fun _ _ _ _ k t' e => h2 _ _ _ _ k (t.trans t') e) (fun _ _ _ _ _ _ _ k t' e x => h5 _ _ _ _ _ _ _ k (t.trans t') e x)
  · intro σ' H' ⟨env', st', t', e', k'⟩
    rw [hl, List.drop_length] at k'
    exact h1 _ _ _ _ k' (t.trans t') e'
theorem lf_forLs {K : PySem.W.Frag} {G : Addr → Prop} {ds : List D} {xs : List V} {env : DEnv} {st st1 : Sto} {DD : DEnds} {Ed : Ends} {σ : L2.St} {H H1 : Hp} {p : Addr} (t : To G H st H1 st1) (er : EnvR (On G st1) H1 env σ) {o : HO} (hx : H1 p = some o) (ho : ∀ H', H' p = some o → SqL K H' p xs) (np : ¬ On G st1 p) (r : Dns (On G st1) H1 ds xs) (k : forL g w DD ds env st1)
    (h1 : ∀ env' st' σ' H', DD.nx env' st' → To G H st H' st' → EnvR (On G st') H' env' σ' → Ed.nx σ' H')
    (h2 : ∀ d st' v H', DD.rt d st' → To G H st H' st' → Dn (On G st') H' d v → Ed.rt v H')
    (h5 : ∀ x env' st' cls dd σ' H', DD.ex x env' st' → To G H st H' st' → EnvR (On G st') H' env' σ' → XRel (On G st') H' x cls dd → W cls dd σ' H') :
    ∃ Wt : Nat → Nat → L2.St → Hp → Prop, (∃ m, Wt 0 m σ H1) ∧ ∀ i m σ H, Wt i m σ H →
      ((Itl K p).stop i H ∧ Ed.nx σ H) ∨ ((Itl K p).go i H ∧ ∃ N : L2.St → Hp → Prop, (∀ σ' H', N σ' H' → ∃ m', m' < m ∧ Wt (i + 1) m' σ' H') ∧ ∀ x H', (Itl K p).yld i H x H' → lfG W g x σ H' fun σ2 H2 => lfS W w { Ed with nx := N, ct := N, bk := Ed.nx } σ2 H2) := by
  have hl := r.length
  refine for_list (K := K) (a := p) (xs := xs) (fun i σ' H' => ∃ env' st', To G H1 st1 H' st' ∧ EnvR (On G st') H' env' σ' ∧ forL g w DD (ds.drop i) env' st') ⟨env, st1, To.refl t.hold, er, k⟩
      (fun i σ' H' _ ⟨env', st', t', _⟩ => ho _ (t'.le p _ hx fun z => np (.inl z)).1) ?_ ?_
  · intro i x σ' H' hx' ⟨env', st', t', e', k'⟩
    have hi : i < ds.length := by rw [← hl]; exact (List.getElem?_eq_some_iff.mp hx').1
    rw [drop_at hi] at k'
    obtain ⟨u, hu, du⟩ := (t'.dns r).get (List.getElem?_eq_getElem hi)
    rw [hx'] at hu; cases hu
    exact for_turn t' e' k' du (fun env2 st2 σ2 H2 k2 t2 e2 => ⟨env2, st2, t2, e2, k2⟩) (fun _ _ _ _ k t' e => h1 _ _ _ _ k (t.trans t') e) (fun _ _ _ _ k t' e => h2 _ _ _ _ k (t.trans t') e) (fun _ _ _ _ _ _ _ k t' e x => h5 _ _ _ _ _ _ _ k (t.trans t') e x)
  · intro σ' H' ⟨env', st', t', e', k'⟩
    rw [hl, List.drop_length] at k'
    exact h1 _ _ _ _ k' (t.trans t') e'
theorem rngD_length (lo : Int) (n : Nat) : (rngD lo n).length = n := by unfold rngD; rw [List.length_map, List.length_range]
theorem rngD_at {lo : Int} {n i : Nat} (h : i < (rngD lo n).length) : (rngD lo n)[i] = .int (lo + i) := by simp [rngD]
theorem lf_forR {G : Addr → Prop} {lo : Int} {n : Nat} {env : DEnv} {st st1 : Sto} {DD : DEnds} {Ed : Ends} {σ : L2.St} {H H1 : Hp} (t : To G H st H1 st1) (er : EnvR (On G st1) H1 env σ) (k : forL g w DD (rngD lo n) env st1)
    (h1 : ∀ env' st' σ' H', DD.nx env' st' → To G H st H' st' → EnvR (On G st') H' env' σ' → Ed.nx σ' H')
    (h2 : ∀ d st' v H', DD.rt d st' → To G H st H' st' → Dn (On G st') H' d v → Ed.rt v H')
    (h5 : ∀ x env' st' cls dd σ' H', DD.ex x env' st' → To G H st H' st' → EnvR (On G st') H' env' σ' → XRel (On G st') H' x cls dd → W cls dd σ' H') :
    ∃ Wt : Nat → Nat → L2.St → Hp → Prop, (∃ m, Wt 0 m σ H1) ∧ ∀ i m σ H, Wt i m σ H →
      ((Itr lo n).stop i H ∧ Ed.nx σ H) ∨ ((Itr lo n).go i H ∧ ∃ N : L2.St → Hp → Prop, (∀ σ' H', N σ' H' → ∃ m', m' < m ∧ Wt (i + 1) m' σ' H') ∧ ∀ x H', (Itr lo n).yld i H x H' → lfG W g x σ H' fun σ2 H2 => lfS W w { Ed with nx := N, ct := N, bk := Ed.nx } σ2 H2) := by
  refine for_range (lo := lo) (n := n) (fun i σ' H' => ∃ env' st', To G H1 st1 H' st' ∧ EnvR (On G st') H' env' σ' ∧ forL g w DD ((rngD lo n).drop i) env' st') ⟨env, st1, To.refl t.hold, er, k⟩ ?_ ?_
  · intro i σ' H' hi ⟨env', st', t', e', k'⟩
    have hi' : i < (rngD lo n).length := by rw [rngD_length]; exact hi
    rw [drop_at hi', rngD_at] at k'
    exact for_turn t' e' k' mk_int (fun env2 st2 σ2 H2 k2 t2 e2 => ⟨env2, st2, t2, e2, k2⟩) (fun _ _ _ _ k t' e => h1 _ _ _ _ k (t.trans t') e) (fun _ _ _ _ k t' e => h2 _ _ _ _ k (t.trans t') e) (fun _ _ _ _ _ _ _ k t' e x => h5 _ _ _ _ _ _ _ k (t.trans t') e x)
  · intro σ' H' ⟨env', st', t', e', k'⟩
    rw [List.drop_eq_nil_of_le (by rw [rngD_length]; exact Nat.le_refl _)] at k'
    exact h1 _ _ _ _ k' (t.trans t') e'
theorem pds_forT (hp : PassesOwn (model X.prog X.w) X.A X.env X.xe) (hc : X.calm = true) (hi : PD X W iter wi) (hg : PDG X W tg g) (hb : PDSs X W sts w) (hfs : ∀ x, foldedSetIterable iter X.env x = pure x := by intro _; rfl) : PDS X W (.For tg iter sts [] pos) (wForT wi g w) := by
  refine PS.imp (ps_for hp hc (pi_tup hi) hg hb hfs) fun Ed σ H ⟨G, env, st, DD, hold, er, hw, h1, h2, h3, h4, h5⟩ => ⟨G, env, st, _, _, hold, er, hw, fun d st1 v H1 k t dn => ?_, lfE_s er h5⟩
  split at k
  · obtain ⟨p, xs, rfl, hx, np, r⟩ := dn_tup dn
    exact ⟨p, rfl, ⟨xs, SqT.of hx⟩, lf_forT t (er.le t.le.g) hx np r k h1 h2 h5⟩
  · exact k.elim
/-- over a list, or the script -/
def wForL (wi : WE) (g : WG) (b : WS) : WS := fun D env st => wi env st (fun d st' => match d with
  | .lst ds => forL g b D ds env st'
  | .scr ns => forL g b D (ns.map DL.D.int) env st'
  | _ => False) fun x st' => D.ex x env st'
theorem pds_forL (hp : PassesOwn (model X.prog X.w) X.A X.env X.xe) (hc : X.calm = true) (hi : PD X W iter wi) (hg : PDG X W tg g) (hb : PDSs X W sts w) (hfs : ∀ x, foldedSetIterable iter X.env x = pure x := by intro _; rfl) : PDS X W (.For tg iter sts [] pos) (wForL wi g w) := by
  refine PS.imp (ps_for hp hc (pi_list hi) hg hb hfs) fun Ed σ H ⟨G, env, st, DD, hold, er, hw, h1, h2, h3, h4, h5⟩ => ⟨G, env, st, _, _, hold, er, hw, fun d st1 v H1 k t dn => ?_, lfE_s er h5⟩
  split at k
  · obtain ⟨p, xs, rfl, hx, np, r⟩ := dn_lst dn
    exact ⟨p, rfl, ⟨xs, SqL.of hx⟩, lf_forLs t (er.le t.le.g) hx (fun _ e => SqL.of e) np r k h1 h2 h5⟩
  · obtain ⟨p, o, rfl, hx, np⟩ := dn_scr dn
    exact ⟨p, rfl, ⟨_, .inl (.inr ⟨o, hx⟩)⟩, lf_forLs t (er.le t.le.g) hx (fun _ e => .inl (.inr ⟨o, e⟩)) np (Dns.ints _) k h1 h2 h5⟩
  · exact k.elim
def wForR1 (wi : WA) (g : WG) (b : WS) : WS := fun D env st => wi env st (fun ds st' => match ds with
  | [.int j] => (-(2 ^ 62) ≤ j ∧ j < 2 ^ 62) ∧ forL g b D (rngD 0 j.toNat) env st'
  | _ => False) fun x st' => D.ex x env st'
theorem pds_forR1 (hp : PassesOwn (model X.prog X.w) X.A X.env X.xe) (hc : X.calm = true) (hgr : Gl X "range") (hm : X.mg "range" = none) (ha : PDA X W [a] ws) (hg : PDG X W tg g) (hb : PDSs X W sts w) (hs : starEach [a] X.env = [(false, eval a X.env)] := by rfl)
    {cp : Pos} (hfs : ∀ x, foldedSetIterable (.Call (.Name "range" p) [a] [] cp) X.env x = pure x := by intro _; rfl) : PDS X W (.For tg (.Call (.Name "range" p) [a] [] cp) sts [] pos) (wForR1 ws g w) := by
  refine PS.imp (ps_for hp hc (pi_range1 hgr hm ha hs) hg hb hfs) fun Ed σ H ⟨G, env, st, DD, hold, er, hw, h1, h2, h3, h4, h5⟩ => ⟨G, env, st, _, _, hold, er, hw, fun d st1 v H1 k t dn => ?_, lfE_s er h5⟩
  split at k
  · obtain ⟨v, r, rfl, d1, dn⟩ := dn.inv
    cases dn.nil_inv
    rw [dn_int d1]
    exact ⟨_, rfl, k.1.1, k.1.2, lf_forR t (er.le t.le.g) k.2 h1 h2 h5⟩
  · exact k.elim
def wForR2 (wi : WA) (g : WG) (b : WS) : WS := fun D env st => wi env st (fun ds st' => match ds with
  | [.int i, .int j] => (-(2 ^ 62) ≤ i ∧ i < 2 ^ 62 ∧ -(2 ^ 62) ≤ j ∧ j < 2 ^ 62) ∧ forL g b D (rngD i (j - i).toNat) env st'
  | _ => False) fun x st' => D.ex x env st'
theorem pds_forR2 (hp : PassesOwn (model X.prog X.w) X.A X.env X.xe) (hc : X.calm = true) (hgr : Gl X "range") (hm : X.mg "range" = none) (ha : PDA X W [a, b] ws) (hg : PDG X W tg g) (hb : PDSs X W sts w) (hs : starEach [a, b] X.env = [(false, eval a X.env), (false, eval b X.env)] := by rfl)
    (hs2 : starEach [b] X.env = [(false, eval b X.env)] := by rfl) {cp : Pos} (hfs : ∀ x, foldedSetIterable (.Call (.Name "range" p) [a, b] [] cp) X.env x = pure x := by intro _; rfl) : PDS X W (.For tg (.Call (.Name "range" p) [a, b] [] cp) sts [] pos) (wForR2 ws g w) := by
  refine PS.imp (ps_for hp hc (pi_range2 hgr hm ha hs hs2) hg hb hfs) fun Ed σ H ⟨G, env, st, DD, hold, er, hw, h1, h2, h3, h4, h5⟩ => ⟨G, env, st, _, _, hold, er, hw, fun d st1 v H1 k t dn => ?_, lfE_s er h5⟩
  split at k
  · obtain ⟨v, r, rfl, d1, dn⟩ := dn.inv
    obtain ⟨v, r, rfl, d2, dn⟩ := dn.inv
    cases dn.nil_inv
    rw [dn_int d1, dn_int d2]
    exact ⟨_, _, rfl, k.1, lf_forR t (er.le t.le.g) k.2 h1 h2 h5⟩
  · exact k.elim
end
end DL

namespace DL
open PySem PySem.Spec PyProof.Rows L2
/-! ### kept from sight -/
section
variable {G : Addr → Prop} {H H' : Hp} {st : Sto} {p : Addr} {o : HO}
abbrev And1 (G : Addr → Prop) (p : Addr) : Addr → Prop := fun a => G a ∨ a = p
theorem le_ghost (hp : H p = none) : Le (On G st) (On (And1 G p) st) H (upd H p o) := fun b u hb n =>
  ⟨by rw [upd_ne (ne_of_none hb hp)]; exact hb, fun z => z.elim (fun y => n (.inl y)) fun y => y.elim (fun y => n (.inr y)) (ne_of_none hb hp)⟩
theorem Hold.ghost (h : Hold G H st) (hp : H p = none) : Hold (And1 G p) (upd H p o) st :=
  ⟨h.nd, fun q hq => (h.ok q hq).le (le_ghost hp) fun u e => by rw [upd_ne (ne_of_none e hp)]; exact e, fun b hb => hb.elim (fun hb => by
    obtain ⟨⟨u, e⟩, n⟩ := h.gh b hb
    exact ⟨⟨u, by rw [upd_ne (ne_of_none e hp)]; exact e⟩, n⟩) fun e => by
    rw [e]; exact ⟨⟨o, upd_same⟩, fun z => h.fresh hp (.inl z)⟩⟩
theorem le_unghost : Le (On (And1 G p) st) (On G st) H H := fun b u hb n => ⟨hb, fun z => n (z.elim .inl fun y => .inr (.inl y))⟩
theorem Hold.unghost (h : Hold (And1 G p) H st) : Hold G H st :=
  ⟨h.nd, fun q hq => (h.ok q hq).le le_unghost fun u e => e, fun b hb => h.gh b (.inl hb)⟩
theorem le_gwrite : Le (On (And1 G p) st) (On (And1 G p) st) H (upd H p o) := fun b u hb n =>
  ⟨by rw [upd_ne (fun z => n (.inr (.inr z)))]; exact hb, n⟩
theorem Hold.gwrite (h : Hold (And1 G p) H st) : Hold (And1 G p) (upd H p o) st :=
  ⟨h.nd, fun q hq => (h.ok q hq).le le_gwrite fun u e => by
    have ne : q.1 ≠ p := fun z => (h.gh p (.inr rfl)).2 (by rw [← z]; exact List.mem_map.mpr ⟨q, hq, rfl⟩)
    rw [upd_ne ne]; exact e, fun b hb => by
    by_cases z : b = p
    · rw [z]; exact ⟨⟨o, upd_same⟩, (h.gh p (.inr rfl)).2⟩
    · obtain ⟨⟨u, e⟩, n⟩ := h.gh b hb
      exact ⟨⟨u, by rw [upd_ne z]; exact e⟩, n⟩⟩
end
/-! ### slots forgotten -/
theorem wipe_at (σ : L2.St) : ∀ (vs : List Nat) (j : Nat), (wipe σ vs)[j]? = if j ∈ vs then (if j < σ.length then some none else none) else σ[j]?
  | [], j => by simp [wipe]
  | v :: vs, j => by
    unfold wipe
    by_cases h : j = v
    · subst h
      by_cases hl : j < σ.length
      · rw [List.getElem?_set_self (by rw [wipe_length]; exact hl)]; simp [hl]
      · rw [List.getElem?_eq_none (by rw [List.length_set, wipe_length]; omega)]; simp [hl]
    · rw [List.getElem?_set_ne (Ne.symm h), wipe_at σ vs j]
      simp [h]
theorem wipe_wipe (σ : L2.St) (vs : List Nat) : wipe (wipe σ vs) vs = wipe σ vs := by
  apply List.ext_getElem?
  intro j
  rw [wipe_at, wipe_at]
  by_cases h : j ∈ vs
  · simp [h, wipe_length]
  · simp [h]
theorem wipe_set (σ : L2.St) (vs : List Nat) {i : Nat} (hi : i ∈ vs) (o : Option V) : wipe (σ.set i o) vs = wipe σ vs := by
  apply List.ext_getElem?
  intro j
  rw [wipe_at, wipe_at, List.length_set]
  by_cases h : j ∈ vs
  · simp [h]
  · simp only [h, if_false]
    rw [List.getElem?_set_ne (fun z => h (by rw [← z]; exact hi))]
def wipeD (env : DEnv) : List Nat → DEnv
  | [] => env
  | v :: vs => (wipeD env vs).set v none
theorem EnvR.wipe {F : Addr → Prop} {H : Hp} {env : DEnv} {σ : L2.St} (h : EnvR F H env σ) : ∀ vs : List Nat, EnvR F H (wipeD env vs) (L2.wipe σ vs)
  | [] => h
  | v :: vs => (EnvR.wipe h vs).unset v none
/-! ### comprehensions -/
abbrev W0 : WX := fun _ _ _ _ => False
abbrev Tgt := D → DEnv → Option DEnv
/-- a target of a comprehension: one name, or names for the items of a tuple -/
structure TgtOk (K : PySem.W.Frag) (vs : List Nat) (g : TG) (tg : Tgt) : Prop where
  go : ∀ (F : Addr → Prop) (H : Hp) (d : D) (v : V) (env env1 : DEnv) (σ : L2.St) (Q : L2.St → Hp → Prop), EnvR F H env σ → Dn F H d v → tg d env = some env1 →
    (∀ σ1, EnvR F H env1 σ1 → L2.wipe σ1 vs = L2.wipe σ vs → Q σ1 H) → g v σ H Q
def tg1 (i : Nat) : Tgt := fun d env => some (env.set i (some d))
theorem tgt1 {K : PySem.W.Frag} {vs : List Nat} {i : Nat} (hi : i ∈ vs) : TgtOk K vs (gName i) (tg1 i) := ⟨fun F H d v env env1 σ Q er dn e q => by
  cases e
  exact q _ (er.set i dn) (wipe_set σ vs hi _)⟩
def tg2 (i j : Nat) : Tgt := fun d env => match d with
  | .tup [x, y] => some ((env.set i (some x)).set j (some y))
  | _ => none
theorem tgt2 {K : PySem.W.Frag} {vs : List Nat} {i j : Nat} (hi : i ∈ vs) (hj : j ∈ vs) : TgtOk K vs (gTup K 2 (gCons (gName i) (gCons (gName j) gNil))) (tg2 i j) := ⟨fun F H d v env env1 σ Q er dn e q => by
  unfold tg2 at e
  split at e
  · cases e
    obtain ⟨a, xs, rfl, ha, na, r⟩ := dn_tup dn
    obtain ⟨v1, r1, rfl, d1, r⟩ := r.inv
    obtain ⟨v2, r2, rfl, d2, r⟩ := r.inv
    cases r.nil_inv
    exact ⟨a, _, rfl, SqT.of ha, rfl, v1, _, rfl, v2, _, rfl, rfl, q _ ((er.set i d1).set j d2) (by rw [wipe_set _ _ hj, wipe_set _ _ hi])⟩
  · cases e⟩
def lcL (tg : Tgt) (t : WT) (el : WE) (env : DEnv) (Kn : List D → Sto → Prop) : List D → List D → Sto → Prop
  | [], acc, st => Kn acc st
  | d :: ds, acc, st => match tg d env with
    | none => False
    | some env1 => t env1 st (fun b st1 => match b with
      | true => el env1 st1 (fun x st2 => acc.length < sizeLine ∧ lcL tg t el env Kn ds (acc ++ [x]) st2) (fun _ _ => False)
      | false => lcL tg t el env Kn ds acc st1) (fun _ _ => False)
def wYes : WT := fun _ st Kn _ => Kn true st
section
variable {tg : Tgt} {t : WT} {el : WE} {g : TG} {tt : TT} {vs : List Nat} {K : PySem.W.Frag}
/-- the state ahead of a turn -/
structure LcSt (G : Addr → Prop) (tg : Tgt) (t : WT) (el : WE) (env : DEnv) (Kn : List D → Sto → Prop) (σ : L2.St) (vs : List Nat) (p : Addr) (H1 : Hp) (st1 : Sto) (H' : Hp) (ds : List D) : Prop where
  ex : ∃ (st' : Sto) (acc : List D) (us : List V), Hold (And1 G p) H' st' ∧ Le st1.on st'.on H1 H' ∧ EnvR (On (And1 G p) st') H' env (L2.wipe σ vs) ∧ H' p = some (.lst us) ∧ Dns (On (And1 G p) st') H' acc us ∧ lcL tg t el env Kn ds acc st'
theorem lc_turn {G : Addr → Prop} {env : DEnv} {Kn : List D → Sto → Prop} {σ : L2.St} {p : Addr} {H1 H : Hp} {st1 : Sto} {d : D} {ds : List D} {x : V} {N : Hp → Prop} (hp : H1 p = none) (ho : TgtOk K vs g tg) (ht : ∀ σ H Q, lfT W0 t σ H Q → tt σ H Q)
    (s : LcSt G tg t el env Kn σ vs p H1 st1 H (d :: ds)) (hd : ∀ st', Hold (And1 G p) H st' → Le st1.on st'.on H1 H → Dn (On (And1 G p) st') H d x) (hN : ∀ H', LcSt G tg t el env Kn σ vs p H1 st1 H' ds → N H') :
    g x (L2.wipe σ vs) H fun σ2 H2 => L2.wipe σ2 vs = L2.wipe σ vs ∧ tt σ2 H2 fun b H3 =>
      if b = true then lfE W0 el σ2 H3 fun y H4 => ∃ acc, H4 p = some (.lst acc) ∧ acc.length < sizeLine ∧ N (upd H4 p (.lst (acc ++ [y]))) else N H3 := by
  obtain ⟨st, acc, us, hold, le, er, hp', dn, k⟩ := s.ex
  unfold lcL at k
  split at k
  · exact k.elim
  · rename_i env1 e1
    refine ho.go _ _ d x env env1 _ _ er (hd st hold le) e1 fun σ1 er1 ew => ⟨by rw [ew, wipe_wipe], ?_⟩
    refine ht _ _ _ ⟨And1 G p, env1, st, _, _, hold, er1, k, fun b st2 H3 k2 t2 => ?_, fun _ _ _ _ _ k _ _ => k⟩
    have keep : ∀ {st2 H3}, To (And1 G p) H st H3 st2 → H3 p = some (.lst us) := fun t2 => (t2.le p _ hp' (hold.gh p (.inr rfl)).2).1
    cases b with
    | true =>
      dsimp only
      rw [if_pos rfl]
      refine ⟨And1 G p, env1, st2, _, _, t2.hold, er1.le t2.le.g, k2, fun y st3 v H4 k3 t3 dy => ?_, fun _ _ _ _ _ k _ _ => k⟩
      have t4 := t2.trans t3
      refine ⟨us, keep t4, by rw [dn.length]; exact k3.1, hN _ ⟨st3, _, _, t3.hold.gwrite, ?_, (er.le t4.le.g).le le_gwrite, upd_same, Dns.le le_gwrite _ _ ((t4.dns dn).append (.cons dy .nil)), k3.2⟩⟩
      intro b u hb n
      have z := (le.trans t4.le) b u hb n
      exact ⟨by rw [upd_ne (ne_of_none hb hp)]; exact z.1, z.2⟩
    | false =>
      dsimp only
      rw [if_neg Bool.false_ne_true]
      exact hN _ ⟨st2, acc, us, t2.hold, le.trans t2.le, er.le t2.le.g, keep t2, t2.dns dn, k2⟩
theorem lc_start {G : Addr → Prop} {env : DEnv} {Kn : List D → Sto → Prop} {σ : L2.St} {p : Addr} {H1 : Hp} {st1 : Sto} {ds : List D} (hold : Hold G H1 st1) (er : EnvR (On G st1) H1 env σ) (hp : H1 p = none) (k : lcL tg t el (wipeD env vs) Kn ds [] st1) :
    LcSt G tg t el (wipeD env vs) Kn σ vs p H1 st1 (upd H1 p (.lst [])) ds :=
  ⟨st1, [], [], hold.ghost hp, le_laid hp, (er.wipe vs).le (le_ghost hp), upd_same, .nil, k⟩
theorem lc_end {G : Addr → Prop} {env : DEnv} {Kn : List D → Sto → Prop} {σ : L2.St} {p : Addr} {H1 H' : Hp} {st1 : Sto} (hold : Hold G H1 st1) (hp : H1 p = none) (s : LcSt G tg t el env Kn σ vs p H1 st1 H' []) : ∃ acc st', Kn acc st' ∧ To G H1 st1 H' st' ∧ Dn (On G st') H' (.lst acc) (.ref p) := by
  obtain ⟨st, acc, us, h', le, er, hp', dn, k⟩ := s.ex
  refine ⟨acc, st, k, ⟨h'.unghost, le⟩, mk_lst hp' (fun z => z.elim (h'.gh p (.inr rfl)).2 fun y => ?_) (Dns.le le_unghost _ _ dn)⟩
  obtain ⟨o, e⟩ := (hold.gh p y).1
  rw [hp] at e; cases e
end
section
variable {X : Cx} {W : WX} {e a b tgE iter elt : Expr} {es ifs : List Expr} {pos p : Pos} {wi : WE} {ws : WA} {tg : Tgt} {t : WT} {el : WE} {g : TG} {tt : TT} {scope : Scope} {own : List (Str × Nat)}
/-- what a comprehension asks of its block -/
structure LcOk (X : Cx) (tgE elt : Expr) (ifs : List Expr) (scope : Scope) (own : List (Str × Nat)) (tg : Tgt) (t : WT) (el : WE) : Prop where
  ok : ∃ (g : TG) (tt : TT), BlkOk X.N X.env.scope scope own ∧ TgtOk X.K (own.map (·.2)) g tg ∧ (∀ σ H Q, lfT W0 t σ H Q → tt σ H Q) ∧
    (∀ (s : Shared) (H : Hp) (C : Addr) (cl : List (Str × Addr)) (fp : List Addr), PG (X.blk s H scope (compEnvC scope cl C X.env) fp) tgE g) ∧
    (∀ (s : Shared) (H : Hp) (C : Addr) (cl : List (Str × Addr)) (fp : List Addr), PTs (X.blk s H scope (compEnvC scope cl C X.env) fp) ifs tt) ∧
    (∀ (s : Shared) (H : Hp) (C : Addr) (cl : List (Str × Addr)) (fp : List Addr), PE (X.blk s H scope (compEnvC scope cl C X.env) fp) elt (lfE W0 el))
theorem lcOk0 (ok : BlkOk X.N X.env.scope scope own) (ho : TgtOk X.K (own.map (·.2)) g tg) (hg : ∀ (s : Shared) (H : Hp) (C : Addr) (cl : List (Str × Addr)) (fp : List Addr), PG (X.blk s H scope (compEnvC scope cl C X.env) fp) tgE g)
    (he : ∀ (s : Shared) (H : Hp) (C : Addr) (cl : List (Str × Addr)) (fp : List Addr), PD (X.blk s H scope (compEnvC scope cl C X.env) fp) W0 elt el) : LcOk X tgE elt [] scope own tg wYes el :=
  ⟨g, tYes, ok, ho, fun σ H Q ⟨G, env, st, Kn, Kx, hold, er, hw, hn, _⟩ => hn _ _ _ hw (To.refl hold), hg, fun _ _ _ _ _ => pts_nil, he⟩
theorem lcOk1 (ok : BlkOk X.N X.env.scope scope own) (ho : TgtOk X.K (own.map (·.2)) g tg) (hg : ∀ (s : Shared) (H : Hp) (C : Addr) (cl : List (Str × Addr)) (fp : List Addr), PG (X.blk s H scope (compEnvC scope cl C X.env) fp) tgE g)
    (ht : ∀ (s : Shared) (H : Hp) (C : Addr) (cl : List (Str × Addr)) (fp : List Addr), PDT (X.blk s H scope (compEnvC scope cl C X.env) fp) W0 e t)
    (he : ∀ (s : Shared) (H : Hp) (C : Addr) (cl : List (Str × Addr)) (fp : List Addr), PD (X.blk s H scope (compEnvC scope cl C X.env) fp) W0 elt el) : LcOk X tgE elt [e] scope own tg t el :=
  ⟨g, lfT W0 t, ok, ho, fun _ _ _ h => h, hg, fun _ _ _ _ _ => pts_one (ht _ _ _ _ _), he⟩
def lcGo (ds : List D) (tg : Tgt) (t : WT) (el : WE) (vs : List Nat) (env : DEnv) (st : Sto) (Kn : KD) : Prop := lcL tg t el (wipeD env vs) (fun acc st' => Kn (.lst acc) st') ds [] st
variable {G : Addr → Prop} {env : DEnv} {st1 : Sto} {Kn : KD} {σ : L2.St} {H1 : Hp} {Q : VK} {vs : List Nat} {K : PySem.W.Frag} {ds : List D}
theorem lf_lcT {q : Addr} {xs : List V} (ho : TgtOk K vs g tg) (ht : ∀ σ H Q, lfT W0 t σ H Q → tt σ H Q) (hold : Hold G H1 st1) (er : EnvR (On G st1) H1 env σ) (hx : H1 q = some (.tup xs)) (np : ¬ On G st1 q) (r : Dns (On G st1) H1 ds xs) (k : lcGo ds tg t el vs env st1 Kn)
    (hn : ∀ d st' v H', Kn d st' → To G H1 st1 H' st' → Dn (On G st') H' d v → Q v H') (Dd : Addr) (hD : H1 Dd = none) :
    ∃ Wt : Nat → Nat → Hp → Prop, (∃ m, Wt 0 m (upd H1 Dd (.lst []))) ∧ ∀ i m H, Wt i m H →
      ((Itt K q).stop i H ∧ Q (.ref Dd) H) ∨ ((Itt K q).go i H ∧ ∃ Nx : Hp → Prop, (∀ H', Nx H' → ∃ m', m' < m ∧ Wt (i + 1) m' H') ∧ ∀ x H', (Itt K q).yld i H x H' → g x (L2.wipe σ vs) H' fun σ2 H2 => L2.wipe σ2 vs = L2.wipe σ vs ∧ tt σ2 H2 fun b H3 =>
        if b = true then lfE W0 el σ2 H3 fun y H4 => ∃ acc, H4 Dd = some (.lst acc) ∧ acc.length < sizeLine ∧ Nx (upd H4 Dd (.lst (acc ++ [y]))) else Nx H3) := by
  have hl := r.length
  refine lc_tup (K := K) (a := q) (xs := xs) (fun i H' => LcSt G tg t el (wipeD env vs) (fun acc st' => Kn (.lst acc) st') σ vs Dd H1 st1 H' (ds.drop i)) (lc_start hold er hD k) (fun i H' _ s => ?_) (fun i x H' hx' s => ?_) fun H' s => ?_
  · obtain ⟨st, acc, us, h', le, _⟩ := s.ex
    exact SqT.of (le q _ hx fun z => np (.inl z)).1
  · have hi : i < ds.length := by rw [← hl]; exact (List.getElem?_eq_some_iff.mp hx').1
    rw [drop_at hi] at s
    refine lc_turn hD ho ht s (fun st' h' le => ?_) fun _ z => z
    obtain ⟨u, hu, du⟩ := r.get (List.getElem?_eq_getElem hi)
    rw [hx'] at hu; cases hu
    refine Dn.le (fun b o hb n => ?_) _ _ du
    have z := le b o hb fun y => n (.inl y)
    exact ⟨z.1, fun y => y.elim z.2 fun y => y.elim (fun y => n (.inr y)) (ne_of_none hb hD)⟩
  · rw [hl, List.drop_length] at s
    obtain ⟨acc, st', k', t', dn⟩ := lc_end hold hD s
    exact hn _ _ _ _ k' t' dn
theorem lf_lcL {q : Addr} {o : HO} {xs : List V} (ho : TgtOk K vs g tg) (ht : ∀ σ H Q, lfT W0 t σ H Q → tt σ H Q) (hold : Hold G H1 st1) (er : EnvR (On G st1) H1 env σ) (hx : H1 q = some o) (hq : ∀ H', H' q = some o → SqL K H' q xs) (np : ¬ On G st1 q) (r : Dns (On G st1) H1 ds xs) (k : lcGo ds tg t el vs env st1 Kn)
    (hn : ∀ d st' v H', Kn d st' → To G H1 st1 H' st' → Dn (On G st') H' d v → Q v H') (Dd : Addr) (hD : H1 Dd = none) :
    ∃ Wt : Nat → Nat → Hp → Prop, (∃ m, Wt 0 m (upd H1 Dd (.lst []))) ∧ ∀ i m H, Wt i m H →
      ((Itl K q).stop i H ∧ Q (.ref Dd) H) ∨ ((Itl K q).go i H ∧ ∃ Nx : Hp → Prop, (∀ H', Nx H' → ∃ m', m' < m ∧ Wt (i + 1) m' H') ∧ ∀ x H', (Itl K q).yld i H x H' → g x (L2.wipe σ vs) H' fun σ2 H2 => L2.wipe σ2 vs = L2.wipe σ vs ∧ tt σ2 H2 fun b H3 =>
        if b = true then lfE W0 el σ2 H3 fun y H4 => ∃ acc, H4 Dd = some (.lst acc) ∧ acc.length < sizeLine ∧ Nx (upd H4 Dd (.lst (acc ++ [y]))) else Nx H3) := by
  have hl := r.length
  refine lc_list (K := K) (a := q) (xs := xs) (fun i H' => LcSt G tg t el (wipeD env vs) (fun acc st' => Kn (.lst acc) st') σ vs Dd H1 st1 H' (ds.drop i)) (lc_start hold er hD k) (fun i H' _ s => ?_) (fun i x H' hx' s => ?_) fun H' s => ?_
  · obtain ⟨st, acc, us, h', le, _⟩ := s.ex
    exact hq _ (le q _ hx fun z => np (.inl z)).1
  · have hi : i < ds.length := by rw [← hl]; exact (List.getElem?_eq_some_iff.mp hx').1
    rw [drop_at hi] at s
    refine lc_turn hD ho ht s (fun st' h' le => ?_) fun _ z => z
    obtain ⟨u, hu, du⟩ := r.get (List.getElem?_eq_getElem hi)
    rw [hx'] at hu; cases hu
    refine Dn.le (fun b o hb n => ?_) _ _ du
    have z := le b o hb fun y => n (.inl y)
    exact ⟨z.1, fun y => y.elim z.2 fun y => y.elim (fun y => n (.inr y)) (ne_of_none hb hD)⟩
  · rw [hl, List.drop_length] at s
    obtain ⟨acc, st', k', t', dn⟩ := lc_end hold hD s
    exact hn _ _ _ _ k' t' dn
theorem lf_lcR {lo : Int} {n : Nat} (ho : TgtOk K vs g tg) (ht : ∀ σ H Q, lfT W0 t σ H Q → tt σ H Q) (hold : Hold G H1 st1) (er : EnvR (On G st1) H1 env σ) (k : lcGo (rngD lo n) tg t el vs env st1 Kn)
    (hn : ∀ d st' v H', Kn d st' → To G H1 st1 H' st' → Dn (On G st') H' d v → Q v H') (Dd : Addr) (hD : H1 Dd = none) :
    ∃ Wt : Nat → Nat → Hp → Prop, (∃ m, Wt 0 m (upd H1 Dd (.lst []))) ∧ ∀ i m H, Wt i m H →
      ((Itr lo n).stop i H ∧ Q (.ref Dd) H) ∨ ((Itr lo n).go i H ∧ ∃ Nx : Hp → Prop, (∀ H', Nx H' → ∃ m', m' < m ∧ Wt (i + 1) m' H') ∧ ∀ x H', (Itr lo n).yld i H x H' → g x (L2.wipe σ vs) H' fun σ2 H2 => L2.wipe σ2 vs = L2.wipe σ vs ∧ tt σ2 H2 fun b H3 =>
        if b = true then lfE W0 el σ2 H3 fun y H4 => ∃ acc, H4 Dd = some (.lst acc) ∧ acc.length < sizeLine ∧ Nx (upd H4 Dd (.lst (acc ++ [y]))) else Nx H3) := by
  refine lc_range (lo := lo) (n := n) (fun i H' => LcSt G tg t el (wipeD env vs) (fun acc st' => Kn (.lst acc) st') σ vs Dd H1 st1 H' ((rngD lo n).drop i)) (lc_start hold er hD k) (fun i H' hi s => ?_) fun H' s => ?_
  · have hi' : i < (rngD lo n).length := by rw [rngD_length]; exact hi
    rw [drop_at hi', rngD_at] at s
    exact lc_turn hD ho ht s (fun st' h' le => mk_int) fun _ z => z
  · rw [List.drop_eq_nil_of_le (by rw [rngD_length]; exact Nat.le_refl _)] at s
    obtain ⟨acc, st', k', t', dn⟩ := lc_end hold hD s
    exact hn _ _ _ _ k' t' dn
/-- the readings: over a tuple or a list; over a range -/
def wLc (wi : WE) (tg : Tgt) (t : WT) (el : WE) (vs : List Nat) : WE := fun env st Kn Kx => wi env st (fun d st' => match d with
  | .tup ds => lcGo ds tg t el vs env st' Kn
  | _ => False) Kx
def wLcL (wi : WE) (tg : Tgt) (t : WT) (el : WE) (vs : List Nat) : WE := fun env st Kn Kx => wi env st (fun d st' => match d with
  | .lst ds => lcGo ds tg t el vs env st' Kn
  | .scr ns => lcGo (ns.map D.int) tg t el vs env st' Kn
  | _ => False) Kx
def wLcR1 (wi : WA) (tg : Tgt) (t : WT) (el : WE) (vs : List Nat) : WE := fun env st Kn Kx => wi env st (fun ds st' => match ds with
  | [.int j] => (-(2 ^ 62) ≤ j ∧ j < 2 ^ 62) ∧ lcGo (rngD 0 j.toNat) tg t el vs env st' Kn
  | _ => False) Kx
def wLcR2 (wi : WA) (tg : Tgt) (t : WT) (el : WE) (vs : List Nat) : WE := fun env st Kn Kx => wi env st (fun ds st' => match ds with
  | [.int i, .int j] => (-(2 ^ 62) ≤ i ∧ i < 2 ^ 62 ∧ -(2 ^ 62) ≤ j ∧ j < 2 ^ 62) ∧ lcGo (rngD i (j - i).toNat) tg t el vs env st' Kn
  | _ => False) Kx
theorem lfw_lcT (ho : TgtOk K vs g tg) (ht : ∀ σ H Q, lfT W0 t σ H Q → tt σ H Q) : ∀ σ H Q, lfE W (wLc wi tg t el vs) σ H Q → tLc (iTup K (lfE W wi)) g tt (lfE W0 el) vs σ H Q :=
  fun σ H Q ⟨G, env, st, Kn, Kx, hold, er, hw, hn, hx⟩ => ⟨G, env, st, _, Kx, hold, er, hw, fun d st1 v H1 k t1 dn => by
    split at k
    · obtain ⟨q, xs, rfl, hq, np, r⟩ := dn_tup dn
      exact ⟨q, rfl, ⟨xs, SqT.of hq⟩, lf_lcT ho ht t1.hold (er.le t1.le.g) hq np r k fun _ _ _ _ k2 t2 d2 => hn _ _ _ _ k2 (t1.trans t2) d2⟩
    · exact k.elim, hx⟩
theorem lfw_lcL (ho : TgtOk K vs g tg) (ht : ∀ σ H Q, lfT W0 t σ H Q → tt σ H Q) : ∀ σ H Q, lfE W (wLcL wi tg t el vs) σ H Q → tLc (iList K (lfE W wi)) g tt (lfE W0 el) vs σ H Q :=
  fun σ H Q ⟨G, env, st, Kn, Kx, hold, er, hw, hn, hx⟩ => ⟨G, env, st, _, Kx, hold, er, hw, fun d st1 v H1 k t1 dn => by
    split at k
    · obtain ⟨q, xs, rfl, hq, np, r⟩ := dn_lst dn
      exact ⟨q, rfl, ⟨xs, SqL.of hq⟩, lf_lcL ho ht t1.hold (er.le t1.le.g) hq (fun _ e => SqL.of e) np r k fun _ _ _ _ k2 t2 d2 => hn _ _ _ _ k2 (t1.trans t2) d2⟩
    · obtain ⟨q, o, rfl, hq, np⟩ := dn_scr dn
      exact ⟨q, rfl, ⟨_, .inl (.inr ⟨o, hq⟩)⟩, lf_lcL ho ht t1.hold (er.le t1.le.g) hq (fun _ e => .inl (.inr ⟨o, e⟩)) np (Dns.ints _) k fun _ _ _ _ k2 t2 d2 => hn _ _ _ _ k2 (t1.trans t2) d2⟩
    · exact k.elim, hx⟩
theorem lfw_lcR1 (ho : TgtOk K vs g tg) (ht : ∀ σ H Q, lfT W0 t σ H Q → tt σ H Q) : ∀ σ H Q, lfE W (wLcR1 ws tg t el vs) σ H Q → tLc (iRng1 (lfA W ws)) g tt (lfE W0 el) vs σ H Q :=
  fun σ H Q ⟨G, env, st, Kn, Kx, hold, er, hw, hn, hx⟩ => ⟨G, env, st, _, Kx, hold, er, hw, fun d st1 v H1 k t1 dn => by
    split at k
    · obtain ⟨v, r, rfl, d1, dn⟩ := dn.inv
      cases dn.nil_inv
      rw [dn_int d1]
      exact ⟨_, rfl, k.1.1, k.1.2, lf_lcR ho ht t1.hold (er.le t1.le.g) k.2 fun _ _ _ _ k2 t2 d2 => hn _ _ _ _ k2 (t1.trans t2) d2⟩
    · exact k.elim, hx⟩
theorem lfw_lcR2 (ho : TgtOk K vs g tg) (ht : ∀ σ H Q, lfT W0 t σ H Q → tt σ H Q) : ∀ σ H Q, lfE W (wLcR2 ws tg t el vs) σ H Q → tLc (iRng2 (lfA W ws)) g tt (lfE W0 el) vs σ H Q :=
  fun σ H Q ⟨G, env, st, Kn, Kx, hold, er, hw, hn, hx⟩ => ⟨G, env, st, _, Kx, hold, er, hw, fun d st1 v H1 k t1 dn => by
    split at k
    · obtain ⟨v, r, rfl, d1, dn⟩ := dn.inv
      obtain ⟨v, r, rfl, d2, dn⟩ := dn.inv
      cases dn.nil_inv
      rw [dn_int d1, dn_int d2]
      exact ⟨_, _, rfl, k.1, lf_lcR ho ht t1.hold (er.le t1.le.g) k.2 fun _ _ _ _ k2 t2 d2 => hn _ _ _ _ k2 (t1.trans t2) d2⟩
    · exact k.elim, hx⟩
/-- as a value; and given to a name -/
theorem pd_lcT (hc : X.calm = true) (hN : X.N.Nodup) (hi : PD X W iter wi) (B : LcOk X tgE elt ifs scope own tg t el) (hs : ∀ x, foldedSetIterable iter X.env x = pure x := by intro _; rfl) : PD X W (.ListComp elt [⟨tgE, iter, ifs, 0⟩] scope pos) (wLc wi tg t el (own.map (·.2))) := by
  obtain ⟨g, tt, ok, ho, ht, hg, hts, he⟩ := B.ok
  exact PE.imp (pe_lc hc hN (pi_tup hi) ok hg hts he hs) (lfw_lcT ho ht)
theorem pd_lcL (hc : X.calm = true) (hN : X.N.Nodup) (hi : PD X W iter wi) (B : LcOk X tgE elt ifs scope own tg t el) (hs : ∀ x, foldedSetIterable iter X.env x = pure x := by intro _; rfl) : PD X W (.ListComp elt [⟨tgE, iter, ifs, 0⟩] scope pos) (wLcL wi tg t el (own.map (·.2))) := by
  obtain ⟨g, tt, ok, ho, ht, hg, hts, he⟩ := B.ok
  exact PE.imp (pe_lc hc hN (pi_list hi) ok hg hts he hs) (lfw_lcL ho ht)
theorem pd_lcR1 {cp : Pos} (hc : X.calm = true) (hN : X.N.Nodup) (hgr : Gl X "range") (hm : X.mg "range" = none) (ha : PDA X W [a] ws) (B : LcOk X tgE elt ifs scope own tg t el) (hs1 : starEach [a] X.env = [(false, eval a X.env)] := by rfl)
    (hs : ∀ x, foldedSetIterable (.Call (.Name "range" p) [a] [] cp) X.env x = pure x := by intro _; rfl) : PD X W (.ListComp elt [⟨tgE, .Call (.Name "range" p) [a] [] cp, ifs, 0⟩] scope pos) (wLcR1 ws tg t el (own.map (·.2))) := by
  obtain ⟨g, tt, ok, ho, ht, hg, hts, he⟩ := B.ok
  exact PE.imp (pe_lc hc hN (pi_range1 hgr hm ha hs1) ok hg hts he hs) (lfw_lcR1 ho ht)
theorem pd_lcR2 {cp : Pos} (hc : X.calm = true) (hN : X.N.Nodup) (hgr : Gl X "range") (hm : X.mg "range" = none) (ha : PDA X W [a, b] ws) (B : LcOk X tgE elt ifs scope own tg t el) (hs1 : starEach [a, b] X.env = [(false, eval a X.env), (false, eval b X.env)] := by rfl) (hs2 : starEach [b] X.env = [(false, eval b X.env)] := by rfl)
    (hs : ∀ x, foldedSetIterable (.Call (.Name "range" p) [a, b] [] cp) X.env x = pure x := by intro _; rfl) : PD X W (.ListComp elt [⟨tgE, .Call (.Name "range" p) [a, b] [] cp, ifs, 0⟩] scope pos) (wLcR2 ws tg t el (own.map (·.2))) := by
  obtain ⟨g, tt, ok, ho, ht, hg, hts, he⟩ := B.ok
  exact PE.imp (pe_lc hc hN (pi_range2 hgr hm ha hs1 hs2) ok hg hts he hs) (lfw_lcR2 ho ht)
end
end DL

namespace DL
open PySem PySem.Spec PyProof.Rows L2
/-! ### what a def promises, over data -/
def liftSp (n : Nat) (wf : WF) : Sp := fun vs H Q E => ∃ (G : Addr → Prop) (ds : List D) (st : Sto) (Kn : KD) (Kx : KX), Hold G H st ∧ Dns (On G st) H ds vs ∧ ds.length = n ∧ wf ds st Kn Kx ∧
  (∀ d st' v H', Kn d st' → To G H st H' st' → Dn (On G st') H' d v → Q v H') ∧ (∀ x st' cls dd H', Kx x st' → To G H st H' st' → XRel (On G st') H' x cls dd → E cls dd H')
theorem liftSp_len {n : Nat} {wf : WF} {vs : List V} {H : Hp} {Q : VK} {E : XK} (h : liftSp n wf vs H Q E) : vs.length = n := by
  obtain ⟨G, ds, st, Kn, Kx, _, dn, e, _⟩ := h
  rw [dn.length, e]
theorem liftSp_imp {n : Nat} {wf wf' : WF} (i : ∀ ds st Kn Kx, ds.length = n → wf' ds st Kn Kx → wf ds st Kn Kx) : ∀ vs H Q E, liftSp n wf' vs H Q E → liftSp n wf vs H Q E :=
  fun vs H Q E ⟨G, ds, st, Kn, Kx, hold, dn, e, w, h1, h2⟩ => ⟨G, ds, st, Kn, Kx, hold, dn, e, i _ _ _ _ e w, h1, h2⟩
abbrev FnD (P : Program) (w : World) (K : PySem.W.Frag) (mg : Str → Option Value) (base : Heap) (k : Nat) (f : Addr) (fd : FuncData) (ps : List Str) (wf : WF) : Prop := FnOk P w K mg base (L2.CX P w) k f fd ps (liftSp ps.length wf)
def startD (N : List Str) (ds : List D) : DEnv := ds.map some ++ List.replicate (N.length - ds.length) none
theorem EnvR.start {F : Addr → Prop} {H : Hp} {N : List Str} {ds : List D} {vs : List V} (h : Dns F H ds vs) : EnvR F H (startD N ds) (L2.start N vs) := by
  refine ⟨by unfold L2.start startD; simp [h.length], fun i d e => ?_⟩
  unfold startD at e
  by_cases hi : i < ds.length
  · rw [List.getElem?_append_left (by simpa using hi), List.getElem?_map, List.getElem?_eq_getElem hi] at e
    simp at e
    obtain ⟨v, h1, h2⟩ := h.get (List.getElem?_eq_getElem hi)
    refine ⟨v, ?_, by rw [← e]; exact h2⟩
    unfold L2.start
    rw [List.getElem?_append_left (by rw [List.length_map, h.length]; exact hi), List.getElem?_map, h1]
    rfl
  · rw [List.getElem?_append_right (by simpa using hi), List.getElem?_replicate] at e
    split at e <;> simp at e
/-- the ends of a def's body -/
def endsD (Kn : KD) (Kx : KX) : DEnds := { nx := fun _ st => Kn .non st, rt := Kn, ex := fun x _ st => Kx x st }
abbrev defX (P : Program) (w : World) (K : PySem.W.Frag) (mg : Str → Option Value) (base : Heap) (N : List Str) (qual : Str) (scope : Scope) (f : Addr) (cd : Value) (A : Around) (outer : List PySem.Env) (s : Shared) (H : Hp) (E : XK) : Cx := cxOf (L2.CX P w) P w K mg base N qual scope f cd A outer s H E
/-- THE RULE for a def -/
theorem fn_d {P : Program} {w : World} {K : PySem.W.Frag} {mg : Str → Option Value} {base : Heap} {x qual : Str} {params : Arguments} {body : List Stmt} {scope : Scope} {dvs : List V} {kws : List (Str × V)} {f : Addr} {fd : FuncData} {N ps : List Str} {k : Nat} {wb : WS} {wf : WF}
    (F : FunD K x qual params body scope dvs kws f fd) (S : FnScope N ps scope)
    (hbody : ∀ (cdv : Value) (A : Around) (outer : List PySem.Env) (s : Shared) (H : Hp) (E : XK), Room k (A.deeper (envOfC qual scope s.heap.objs.size f cdv)) → Takes (defX P w K mg base N qual scope f cdv A outer s H E) (fun cls d _ H => E cls d H) → PDSs (defX P w K mg base N qual scope f cdv A outer s H E) (fun cls d _ H => E cls d H) body wb)
    (hsp : ∀ ds st Kn Kx, ds.length = ps.length → wf ds st Kn Kx → wb (endsD Kn Kx) (startD N ds) st) : FnD P w K mg base (k + 1) f fd ps wf := by
  refine F.ok S (fun vs H Q E h => liftSp_len h) fun cdv A outer s H vs Q E hr h => ⟨_, hbody cdv A outer s H E hr (takes_of rfl rfl rfl rfl), ?_⟩
  obtain ⟨G, ds, st, Kn, Kx, hold, dn, e, hw, h1, h2⟩ := h
  exact ⟨G, startD N ds, st, endsD Kn Kx, hold, EnvR.start dn, hsp _ _ _ _ e hw, fun _ _ _ _ k t _ => h1 _ _ _ _ k t mk_non, fun _ _ _ _ k t d => h1 _ _ _ _ k t d, fun _ _ _ _ k _ _ => k.elim, fun _ _ _ _ k _ _ => k.elim, fun _ _ _ _ _ _ _ k t _ xr => h2 _ _ _ _ _ k t xr⟩
section
variable {X : Cx} {W : WX} {k : Nat} {f C : Addr} {fd : FuncData} {ps : List Str} {sp : Sp} {wf : WF} {x m : Str} {p pos apos : Pos} {e o : Expr} {es : List Expr} {we wo : WE} {ws wk : WA}
theorem run_fnD {pins : List (Addr × Obj)} {σ : L2.St} {H : Hp} {s : Shared} {Q : VK} {us bs : List Value} {kw : List (Str × Value)} {bv : List V} (F : FnOk X.prog X.w X.K X.mg X.base (L2.CX X.prog X.w) k f fd ps sp) (hr : Room k X.A) (tk : Takes X W) (I : Inv X pins σ H s)
    (hb : BindsTo s fd ⟨us, kw⟩ (ps.zip bs)) (r : Vals bv bs) (h : sp bv H Q (L2.WE W σ)) : wpAny (model X.prog X.w) X.A (call (.ref f) us kw) (EP X pins σ Q) X.xe s := by
  refine wpAny_call (codeAny_mono (F.run X.A X.stack s H ⟨us, kw⟩ bs bv Q (L2.WE W σ) hr I.env0 hb r h) fun r s' hq => ?_)
  cases r with
  | error e => exact passAt tk σ pins H s e s' I hq
  | ok fl =>
    cases fl with
    | ret u => exact I.after hq
    | next => exact False.elim hq
    | brk => exact False.elim hq
    | cont => exact False.elim hq
/-- a call's reading: the positional values -/
def wCall (wf : WF) (ws : WA) : WE := fun env st Kn Kx => ws env st (fun ds st' => wf ds st' Kn Kx) Kx
theorem lf_call {G : Addr → Prop} {n : Nat} {st st' : Sto} {Kn : KD} {Kx : KX} {σ : L2.St} {H H' : Hp} {Q : VK} {ds : List D} {vs : List V} (t : To G H st H' st') (dn : Dns (On G st') H' ds vs) (el : ds.length = n) (k : wf ds st' Kn Kx)
    (hn : ∀ d st' v H', Kn d st' → To G H st H' st' → Dn (On G st') H' d v → Q v H') (hx : ∀ x st' cls dd H', Kx x st' → To G H st H' st' → XRel (On G st') H' x cls dd → W cls dd σ H') : liftSp n wf vs H' Q (L2.WE W σ) :=
  ⟨G, ds, st', Kn, Kx, t.hold, dn, el, k, fun _ _ _ _ k2 t2 d2 => hn _ _ _ _ k2 (t.trans t2) d2, fun _ _ _ _ _ k2 t2 x2 => hx _ _ _ _ _ k2 (t.trans t2) x2⟩
theorem pd_call (F : FnD X.prog X.w X.K X.mg X.base k f fd ps wf) (hr : Room k X.A) (tk : Takes X W) (hg : Gl X x) (hm : X.mg x = some (.ref f)) (hk : PySem.W.keepIn X.K (.ref f) = true) (hb : Binds X.K fd ps [])
    (ha : PDA X W (e :: es) ws) (hl : (e :: es).length = ps.length := by rfl) (hdb : (x == ("__debug__" : Str)) = false := by decide) (he : starEach (e :: es) X.env = (false, eval e X.env) :: starEach es X.env := by rfl) (hpl : (backTo pos (starEach es X.env)).any (·.1) = false := by rfl) :
    PD X W (.Call (.Name x p) (e :: es) [] pos) (wCall (fun ds st Kn Kx => ds.length = ps.length ∧ wf ds st Kn Kx) ws) := by
  refine ⟨fun pins s σ H Q I ⟨G, env, st, Kn, Kx, hold, er, hw, hn, hx⟩ => ?_⟩
  refine wpAny_Call_Name_kw (ld_glob I hg hm ?_ hdb)
  have hA : wpAny (model X.prog X.w) X.A (spliced (backTo pos (starEach (e :: es) X.env))) (AP X pins σ fun vs H' => liftSp ps.length wf vs H' Q (L2.WE W σ)) X.xe s :=
    ha.run pos pins s σ H _ I ⟨G, env, st, _, Kx, hold, er, hw, fun ds st' vs H' kk t dn => lf_call t dn kk.1 kk.2 hn hx, hx⟩
  refine PySem.W.callWith_K (h₀ := X.base) I.ok.mod.kin hk (thn hA fun us s1 ⟨vs, H1, I1, r, q⟩ => ⟨I1.kIn, ?_⟩) he hpl
  have hlen : us.length = ps.length := by rw [← r.length]; exact liftSp_len q
  have b := hb s1 us I1.kIn (by rw [List.append_nil]; exact hlen)
  rw [List.append_nil] at b
  exact run_fnD F hr tk I1 b r q
theorem pd_call0 (F : FnD X.prog X.w X.K X.mg X.base k f fd ps wf) (hr : Room k X.A) (tk : Takes X W) (hg : Gl X x) (hm : X.mg x = some (.ref f)) (hk : PySem.W.keepIn X.K (.ref f) = true) (hb : Binds X.K fd ps [])
    (hl : ps = []) (hdb : (x == ("__debug__" : Str)) = false := by decide) : PD X W (.Call (.Name x p) [] [] pos) (wCall wf wNil) := by
  subst hl
  refine ⟨fun pins s σ H Q I ⟨G, env, st, Kn, Kx, hold, er, hw, hn, hx⟩ => ?_⟩
  refine wpAny_Call_Name_kw (ld_glob I hg hm ?_ hdb)
  have b := hb s [] I.kIn rfl
  exact PySem.W.callWith_K0 I.kIn hk (run_fnD (us := []) F hr tk I b .nil (lf_call (To.refl hold) .nil rfl hw hn hx))
/-! keywords: the positional values first, then the keywords' values by their places among the parameters -/
def arr {α : Type} (us ws : List α) (perm : List Nat) : List α := us ++ perm.filterMap fun i => ws[i]?
theorem arr_rel {vs zs : List V} {us ws : List Value} (r : Vals vs us) (s : Vals zs ws) (perm : List Nat) : Vals (arr vs zs perm) (arr us ws perm) := by
  unfold arr
  refine r.append ?_
  induction perm with
  | nil => exact .nil
  | cons i perm ih =>
    cases e : zs[i]? with
    | none =>
      rw [List.filterMap_cons, List.filterMap_cons, e, s.none_of e]
      exact ih
    | some z =>
      obtain ⟨u, e2, r2⟩ := s.get e
      rw [List.filterMap_cons, List.filterMap_cons, e, e2]
      exact .cons r2 ih
theorem arr_dns {F : Addr → Prop} {H : Hp} {ds es : List D} {vs us : List V} (r : Dns F H ds vs) (s : Dns F H es us) (perm : List Nat) : Dns F H (arr ds es perm) (arr vs us perm) := by
  unfold arr
  refine r.append ?_
  induction perm with
  | nil => exact .nil
  | cons i perm ih =>
    cases e : es[i]? with
    | none =>
      have e2 : us[i]? = none := by
        rw [List.getElem?_eq_none_iff] at e ⊢
        rw [s.length]; exact e
      rw [List.filterMap_cons, List.filterMap_cons, e, e2]
      exact ih
    | some z =>
      obtain ⟨u, e2, r2⟩ := s.get e
      rw [List.filterMap_cons, List.filterMap_cons, e, e2]
      exact .cons r2 ih
/-- how a call with n positional values and keywords ks binds -/
def KwB (K : PySem.W.Frag) (fd : FuncData) (ps : List Str) (n : Nat) (ks : List Str) (perm : List Nat) : Prop :=
  ∀ (s : Shared) (us ws : List Value), K.In s.heap → us.length = n → ws.length = ks.length → BindsTo s fd ⟨us, ks.zip ws⟩ (ps.zip (arr us ws perm))
theorem kwb_of {K : PySem.W.Frag} {x qual : Str} {params : Arguments} {body : List Stmt} {scope : Scope} {kws : List (Str × V)} {n : Nat} {ks : List Str} {perm : List Nat} (F : FunD K x qual params body scope [] kws f fd)
    (h : ∀ (kV doc pm : Value) (an : Option Addr) (cdv ct : Value) (us ws : List Value), us.length = n → ws.length = ks.length → bindArgs (PySem.W.fnOf x qual params body scope .none kV doc pm an cdv ct) ⟨us, ks.zip ws⟩ = pure (ps.zip (arr us ws perm))) : KwB K fd ps n ks perm := by
  obtain ⟨oc, od, dV, kV, doc, pm, an, cdv, ct, osl, rfl, lk, hcd, hD, hK⟩ := F.ex
  rcases hD with ⟨_, rfl⟩ | ⟨e, _⟩
  · exact fun s us ws _ l1 l2 => .of_eq (h kV doc pm an cdv ct us ws l1 l2)
  · exact absurd rfl e
abbrev PDK (X : Cx) (W : WX) (kws : List Keyword) (w : WA) : Prop := PK X kws (lfA W w)
variable {kws : List Keyword} {nm : Option Str} {kpos : Pos}
theorem PK.imp {t t' : TA} (h : PK X kws t) (i : ∀ σ H Q, t' σ H Q → t σ H Q) : PK X kws t' := ⟨fun pos pins s σ H Q I q => h.run pos pins s σ H Q I (i _ _ _ q)⟩
theorem pdk_nil : PDK X W [] wNil := PK.imp pk_nil fun σ H Q ⟨G, env, st, Kn, Kx, hold, er, hw, hn, hx⟩ => hn [] st [] H hw (To.refl hold) .nil
theorem pdk_cons (h : PD X W e we) (r : PDK X W kws ws) : PDK X W (⟨nm, e, kpos⟩ :: kws) (wCons we ws) :=
  PK.imp (pk_cons h r) fun σ H Q ⟨G, env, st, Kn, Kx, hold, er, hw, hn, hx⟩ => ⟨G, env, st, _, Kx, hold, er, hw, fun d st1 v H1 k1 t1 d1 =>
    ⟨G, env, st1, _, Kx, t1.hold, er.le t1.le.g, k1, fun ds st2 vs H2 k2 t2 d2 => hn _ _ _ _ k2 (t1.trans t2) (.cons (t2.dn d1) d2), fun x st2 cls dd H2 k2 t2 xr => hx _ _ _ _ _ k2 (t1.trans t2) xr⟩, hx⟩
def wCallK (n m l : Nat) (perm : List Nat) (wf : WF) (ws wk : WA) : WE := fun env st Kn Kx => ws env st (fun ds st' => wk env st' (fun es st2 => (ds.length = n ∧ es.length = m ∧ (arr ds es perm).length = l) ∧ wf (arr ds es perm) st2 Kn Kx) Kx) Kx
theorem pd_callK0 {ks : List Str} {perm : List Nat} (F : FnD X.prog X.w X.K X.mg X.base k f fd ps wf) (hr : Room k X.A) (tk : Takes X W) (hg : Gl X x) (hm : X.mg x = some (.ref f)) (hk : PySem.W.keepIn X.K (.ref f) = true) (hb : KwB X.K fd ps 0 ks perm)
    (hkw : PDK X W kws wk) (hall : (backToKw pos (keywordEach kws X.env)).all (·.1.isSome) = true := by rfl) (hks : (backToKw pos (keywordEach kws X.env)).filterMap (·.1) = ks := by rfl) (hdb : (x == ("__debug__" : Str)) = false := by decide)
    (hpl : ((backTo pos (starEach [] X.env)).any (·.1) || (backToKw pos (keywordEach kws X.env)).any (·.1.isNone)) = false := by rfl) :
    PD X W (.Call (.Name x p) [] kws pos) (wCallK 0 ks.length ps.length perm wf wNil wk) := by
  refine ⟨fun pins s σ H Q I ⟨G, env, st, Kn, Kx, hold, er, hw, hn, hx⟩ => ?_⟩
  refine wpAny_Call_Name_kw (ld_glob I hg hm ?_ hdb)
  refine PySem.W.callWith_KW0 (h₀ := X.base) I.ok.mod.kin hk hall ?_ hpl
  have hA : wpAny (model X.prog X.w) X.A (evalAll ((backToKw pos (keywordEach kws X.env)).map (·.2))) (AP X pins σ fun vs H' => vs.length = ks.length ∧ liftSp ps.length wf (arr [] vs perm) H' Q (L2.WE W σ)) X.xe s :=
    hkw.run pos pins s σ H _ I ⟨G, env, st, _, Kx, hold, er, hw, fun ds st' vs H' kk t dn => ⟨dn.length.trans kk.1.2.1, lf_call t (arr_dns .nil dn perm) kk.1.2.2 kk.2 hn hx⟩, hx⟩
  refine thn hA fun us s2 ⟨zs, H2, I2, rz, l2, q2⟩ => ⟨I2.kIn, ?_⟩
  rw [hks]
  exact run_fnD F hr tk I2 (hb s2 [] us I2.kIn rfl (rz.length.symm.trans l2)) (arr_rel .nil rz perm) q2
theorem pd_callK {n : Nat} {ks : List Str} {perm : List Nat} (F : FnD X.prog X.w X.K X.mg X.base k f fd ps wf) (hr : Room k X.A) (tk : Takes X W) (hg : Gl X x) (hm : X.mg x = some (.ref f)) (hk : PySem.W.keepIn X.K (.ref f) = true) (hb : KwB X.K fd ps n ks perm)
    (ha : PDA X W (e :: es) ws) (hkw : PDK X W kws wk) (hall : (backToKw pos (keywordEach kws X.env)).all (·.1.isSome) = true := by rfl) (hks : (backToKw pos (keywordEach kws X.env)).filterMap (·.1) = ks := by rfl) (hdb : (x == ("__debug__" : Str)) = false := by decide)
    (he : starEach (e :: es) X.env = (false, eval e X.env) :: starEach es X.env := by rfl) (hpl : ((backTo pos (starEach (e :: es) X.env)).any (·.1) || (backToKw pos (keywordEach kws X.env)).any (·.1.isNone)) = false := by rfl) :
    PD X W (.Call (.Name x p) (e :: es) kws pos) (wCallK n ks.length ps.length perm wf ws wk) := by
  refine ⟨fun pins s σ H Q I ⟨G, env, st, Kn, Kx, hold, er, hw, hn, hx⟩ => ?_⟩
  refine wpAny_Call_Name_kw (ld_glob I hg hm ?_ hdb)
  have hA : wpAny (model X.prog X.w) X.A (spliced (backTo pos (starEach (e :: es) X.env))) (AP X pins σ fun vs H' => lfA W wk σ H' fun zs H2 => vs.length = n ∧ zs.length = ks.length ∧ liftSp ps.length wf (arr vs zs perm) H2 Q (L2.WE W σ)) X.xe s :=
    ha.run pos pins s σ H _ I ⟨G, env, st, _, Kx, hold, er, hw, fun ds st1 vs H1 k1 t1 d1 => ⟨G, env, st1, _, Kx, t1.hold, er.le t1.le.g, k1, fun es st2 zs H2 k2 t2 d2 =>
      ⟨d1.length.trans k2.1.1, d2.length.trans k2.1.2.1, lf_call (t1.trans t2) (arr_dns (t2.dns d1) d2 perm) k2.1.2.2 k2.2 hn hx⟩, fun _ _ _ _ _ k2 t2 xr => hx _ _ _ _ _ k2 (t1.trans t2) xr⟩, hx⟩
  refine PySem.W.callWith_KW (h₀ := X.base) I.ok.mod.kin hk hall (thn hA fun us s1 ⟨vs, H1, I1, r, q⟩ => ?_) hpl he
  refine thn (hkw.run pos pins s1 σ H1 _ I1 q) fun ws s2 ⟨zs, H2, I2, rz, l1, l2, q2⟩ => ⟨I2.kIn, ?_⟩
  rw [hks]
  exact run_fnD F hr tk I2 (hb s2 us ws I2.kIn (r.length.symm.trans l1) (rz.length.symm.trans l2)) (arr_rel r rz perm) q2

/-! ### instances -/
theorem Fs.lookup {F : Addr → Prop} {H : Hp} : ∀ {fs : List (Str × D)} {vs : List (Str × V)}, Fs F H fs vs → ∀ f : Str, match fs.lookup f with
    | some d => ∃ v, vs.lookup f = some v ∧ Dn F H d v
    | none => vs.lookup f = none
  | [], _, h, f => by cases h; rfl
  | (g, d) :: r, _, h, f => by
    obtain ⟨v, s, rfl, h1, h2⟩ := h
    by_cases e : f = g
    · subst e
      simp only [List.lookup, beq_self_eq_true]
      exact ⟨v, rfl, h1⟩
    · have e' : (f == g) = false := by simpa using e
      simp only [List.lookup, e']
      exact Fs.lookup h2 f
theorem Fs.lookup_some {F : Addr → Prop} {H : Hp} {fs : List (Str × D)} {vs : List (Str × V)} (h : Fs F H fs vs) {f : Str} {d : D} (e : fs.lookup f = some d) : ∃ v, vs.lookup f = some v ∧ Dn F H d v := by
  have q := h.lookup f
  rw [e] at q; exact q
theorem Fs.lookup_none {F : Addr → Prop} {H : Hp} {fs : List (Str × D)} {vs : List (Str × V)} (h : Fs F H fs vs) {f : Str} (e : fs.lookup f = none) : vs.lookup f = none := by
  have q := h.lookup f
  rw [e] at q; exact q
def putD (f : Str) (d : D) : List (Str × D) → List (Str × D)
  | [] => [(f, d)]
  | (g, x) :: r => if g = f then (g, d) :: r else (g, x) :: putD f d r
theorem Fs.put {F : Addr → Prop} {H : Hp} {f : Str} {d : D} {v : V} (hd : Dn F H d v) : ∀ {fs : List (Str × D)} {vs : List (Str × V)}, Fs F H fs vs → Fs F H (putD f d fs) (putF f v vs)
  | [], _, h => by cases h; exact ⟨v, [], rfl, hd, rfl⟩
  | (g, x) :: r, _, h => by
    obtain ⟨u, s, rfl, h1, h2⟩ := h
    unfold putD putF
    by_cases e : g = f
    · rw [if_pos e, if_pos e]; exact ⟨v, s, rfl, hd, h2⟩
    · rw [if_neg e, if_neg e]; exact ⟨u, _, rfl, h1, Fs.put hd h2⟩
theorem Fs.length {F : Addr → Prop} {H : Hp} : ∀ {fs : List (Str × D)} {vs : List (Str × V)}, Fs F H fs vs → vs.length = fs.length
  | [], _, h => by cases h; rfl
  | (g, x) :: r, _, h => by
    obtain ⟨u, s, rfl, h1, h2⟩ := h
    rw [List.length_cons, List.length_cons, Fs.length h2]
def wFld (K : PySem.W.Frag) (f : Str) (w : WE) : WE := fun env st Kn Kx => w env st (fun d st' => match d with
  | .ref a => match st'.lookup a with
    | some (.ins C fs) => (Cls K C ∧ NoAttr K C f) ∧ match fs.lookup f with
      | some d => Kn d st'
      | none => False
    | _ => False
  | _ => False) Kx
theorem pd_fld {f : Str} (h : PD X W e we) (hb : attributeBase e f X.env (eval e X.env) = eval e X.env := by rfl) : PD X W (.Attribute e f pos) (wFld X.K f we) :=
  PE.imp (pe_fld h hb) fun σ H Q ⟨G, env, st, Kn, Kx, hold, er, hw, hn, hx⟩ => ⟨G, env, st, _, Kx, hold, er, hw, fun d st' v H' k t dn => by
    split at k
    · rename_i a
      split at k
      · rename_i C fs l
        obtain ⟨⟨c1, c2⟩, k⟩ := k
        split at k
        · rename_i d' e'
          obtain ⟨dx, vs, ha, hf⟩ := t.hold.at l
          obtain ⟨u, e2, d2⟩ := hf.lookup_some e'
          exact ⟨a, C, dx, vs, u, dn_ref dn, ha, c1, c2, e2, hn _ _ _ _ k t d2⟩
        · exact k.elim
      · exact k.elim
    · exact k.elim, hx⟩
/-- o.f = e -/
def wSetF (K : PySem.W.Frag) (f : Str) (wv wo : WE) : WS := fun D env st => wv env st (fun d st1 => wo env st1 (fun o st2 => match o with
  | .ref a => match st2.lookup a with
    | some (.ins C fs) => ((Cls K C ∧ NoAttr K C f) ∧ fs.length < 1000) ∧ D.nx env (st2.put a (.ins C (putD f d fs)))
    | _ => False
  | _ => False) (fun x st' => D.ex x env st')) (fun x st' => D.ex x env st')
theorem pds_setF {f : Str} {pos' : Pos} (ho : PD X W o wo) (hv : PD X W e we) (hs : swapsWith e (some (.Attribute o f pos')) pos.line X.env = pure false := by rfl) : PDS X W (.Assign [.Attribute o f pos'] e pos) (wSetF X.K f we wo) :=
  PS.imp (ps_fld ho hv hs) fun D σ H ⟨G, env, st, DD, hold, er, hw, h1, h2, h3, h4, h5⟩ => ⟨G, env, st, _, _, hold, er, hw, fun d st1 v H1 k1 t1 d1 =>
    ⟨G, env, st1, _, _, t1.hold, er.le t1.le.g, k1, fun d0 st2 u H2 k t2 d2 => by
      have t := t1.trans t2
      split at k
      · rename_i a
        split at k
        · rename_i C fs l
          obtain ⟨⟨⟨c1, c2⟩, hl⟩, k⟩ := k
          obtain ⟨dx, vs, ha, hf⟩ := t.hold.at l
          have tw := t.hold.write (o := .ins C dx (putF f v vs)) (on_of l) (c := .ins C (putD f d fs)) ⟨dx, _, upd_same, (hf.put (t2.dn d1)).le (by have q := (le_write (H := H2) (o := .ins C dx (putF f v vs)) (c := .ins C (putD f d fs)) (on_of l)).g (G := G); rw [put_On] at q; exact q)⟩
          exact ⟨a, C, dx, vs, dn_ref d2, ha, c1, c2, by rw [hf.length]; exact hl, h1 _ _ _ _ k (t.trans tw) (er.le (t.trans tw).le.g)⟩
        · exact k.elim
      · exact k.elim, fun _ _ _ _ _ k2 t2 xr => h5 _ _ _ _ _ _ _ k2 (t1.trans t2) (er.le (t1.trans t2).le.g) xr⟩, lfE_s er h5⟩
/-- o.m(e, ..) -/
def wMeth (C : Addr) (m : Str) (wf : WF) (wo : WE) (ws : WA) : WE := fun env st Kn Kx => wo env st (fun o st1 => match o with
  | .ref a => match st1.lookup a with
    | some (.ins C' fs) => (C' = C ∧ fs.lookup m = none) ∧ ws env st1 (fun ds st2 => wf (.ref a :: ds) st2 Kn Kx) Kx
    | _ => False
  | _ => False) Kx
theorem wMeth_run {C : Addr} {m : Str} {n : Nat} {wf : WF} {G : Addr → Prop} {env : DEnv} {st : Sto} {Kn : KD} {Kx : KX} {σ : L2.St} {H : Hp} {Q : VK} (hold : Hold G H st) (er : EnvR (On G st) H env σ) (hw : wMeth C m (fun ds st Kn Kx => ds.length = n ∧ wf ds st Kn Kx) wo ws env st Kn Kx)
    (hn : ∀ d st' v H', Kn d st' → To G H st H' st' → Dn (On G st') H' d v → Q v H') (hx : ∀ x st' cls dd H', Kx x st' → To G H st H' st' → XRel (On G st') H' x cls dd → W cls dd σ H') :
    lfE W wo σ H fun y H1 => ∃ a dx fs, y = .ref a ∧ H1 a = some (.ins C dx fs) ∧ fs.lookup m = none ∧ lfA W ws σ H1 fun vs H2 => liftSp n wf (.ref a :: vs) H2 Q (L2.WE W σ) := by
  refine ⟨G, env, st, _, Kx, hold, er, hw, fun d st1 v H1 k t1 d1 => ?_, hx⟩
  split at k
  · rename_i a
    split at k
    · rename_i C' fs l
      obtain ⟨⟨rfl, c2⟩, k⟩ := k
      obtain ⟨dx, vs, ha, hf⟩ := t1.hold.at l
      exact ⟨a, dx, vs, dn_ref d1, ha, hf.lookup_none c2, G, env, st1, _, Kx, t1.hold, er.le t1.le.g, k, fun ds st2 us H2 k2 t2 d2 => lf_call (t1.trans t2) (.cons mk_ref d2) k2.1 k2.2 hn hx, fun _ _ _ _ _ k2 t2 xr => hx _ _ _ _ _ k2 (t1.trans t2) xr⟩
    · exact k.elim
  · exact k.elim
theorem pd_meth {pl : Sem Bool} (c : Cls X.K C) (hm : Meth X.K C m f) (F : FnD X.prog X.w X.K X.mg X.base k f fd ps wf) (hr : Room k X.A) (tk : Takes X W) (hb : Binds X.K fd ps []) (ho : PD X W o wo) (ha : PDA X W (e :: es) ws)
    (hst : starEach (e :: es) X.env = (false, eval e X.env) :: starEach es X.env := by rfl) (hpl : (backTo pos (starEach es X.env)).any (·.1) = false := by rfl)
    (ht : eval (.Call (.Attribute o m apos) (e :: es) [] pos) X.env = (do
      let ov ← eval o X.env
      standAt apos.atName
      let (f, first) ← holding [ov] (getMethod ov m pl)
      callWith pos f first (backTo pos (starEach (e :: es) X.env)) (backToKw pos (keywordEach [] X.env))) := by rfl) :
    PD X W (.Call (.Attribute o m apos) (e :: es) [] pos) (wMeth C m (fun ds st Kn Kx => ds.length = ps.length ∧ wf ds st Kn Kx) wo ws) := by
  refine ⟨fun pins s σ H Q I ⟨G, env, st, Kn, Kx, hold, er, hw, hn, hx⟩ => ?_⟩
  refine PySem.W.methodCall_KW (pl := pl) (thn (ho.run pins s σ H _ I (wMeth_run hold er hw hn hx)) fun u s1 ⟨y, H1, I1, rx, a, dx, fs, ex, ea, l, q⟩ => ?_) ht
  subst ex
  obtain rfl : u = Value.ref a := rx
  refine getmeth_ok I1 ea c hm l ?_
  refine PySem.W.callWith_K (first := [.ref a]) (h₀ := X.base) I.ok.mod.kin hm.kp (thn (ha.run pos pins s1 σ H1 _ I1 q) fun us s2 ⟨vs, H2, I2, r, q2⟩ => ⟨I2.kIn, ?_⟩) hst hpl
  have r2 : Vals (V.ref a :: vs) (Value.ref a :: us) := .cons rfl r
  have b := hb s2 (.ref a :: us) I2.kIn (by rw [List.append_nil, ← r2.length]; exact liftSp_len q2)
  rw [List.append_nil] at b
  exact run_fnD F hr tk I2 b r2 q2
theorem pd_meth0 {pl : Sem Bool} (c : Cls X.K C) (hm : Meth X.K C m f) (F : FnD X.prog X.w X.K X.mg X.base k f fd ps wf) (hr : Room k X.A) (tk : Takes X W) (hb : Binds X.K fd ps []) (ho : PD X W o wo)
    (ht : eval (.Call (.Attribute o m apos) [] [] pos) X.env = (do
      let ov ← eval o X.env
      standAt apos.atName
      let (f, first) ← holding [ov] (getMethod ov m pl)
      callWith pos f first (backTo pos (starEach [] X.env)) (backToKw pos (keywordEach [] X.env))) := by rfl) :
    PD X W (.Call (.Attribute o m apos) [] [] pos) (wMeth C m (fun ds st Kn Kx => ds.length = ps.length ∧ wf ds st Kn Kx) wo wNil) := by
  refine ⟨fun pins s σ H Q I ⟨G, env, st, Kn, Kx, hold, er, hw, hn, hx⟩ => ?_⟩
  refine PySem.W.methodCall_KW (pl := pl) (thn (ho.run pins s σ H _ I (wMeth_run hold er hw hn hx)) fun u s1 ⟨y, H1, I1, rx, a, dx, fs, ex, ea, l, q⟩ => ?_) ht
  subst ex
  obtain rfl : u = Value.ref a := rx
  refine getmeth_ok I1 ea c hm l ?_
  obtain ⟨G2, env2, st2, Kn2, Kx2, hold2, er2, hw2, hn2, hx2⟩ := q
  have q2 := hn2 [] st2 [] H1 hw2 (To.refl hold2) .nil
  have b := hb s1 [.ref a] I1.kIn (by rw [List.append_nil]; exact liftSp_len q2)
  rw [List.append_nil] at b
  exact PySem.W.callWith_K0 (first := [.ref a]) I1.kIn hm.kp (run_fnD (us := [.ref a]) F hr tk I1 b (bv := [V.ref a]) (.cons rfl .nil) q2)
/-- C(e, ..) -/
def wMake (C : Addr) (wf : WF) (ws : WA) : WE := fun env st Kn Kx => ws env st (fun ds st1 => ∀ a, ¬ st1.on a → wf (.ref a :: ds) ((a, .ins C []) :: st1) (fun d st2 => d = .non ∧ Kn (.ref a) st2) Kx) Kx
theorem pd_make (M : Mk X.K C f) (F : FnD X.prog X.w X.K X.mg X.base k f fd ps wf) (hr : Room (k + 1) X.A) (tk : Takes X W) (hg : Gl X x) (hm : X.mg x = some (.ref C)) (hb : Binds X.K fd ps [])
    (ha : PDA X W (e :: es) ws) (hdb : (x == ("__debug__" : Str)) = false := by decide) (he : starEach (e :: es) X.env = (false, eval e X.env) :: starEach es X.env := by rfl) (hpl : (backTo pos (starEach es X.env)).any (·.1) = false := by rfl) :
    PD X W (.Call (.Name x p) (e :: es) [] pos) (wMake C (fun ds st Kn Kx => ds.length = ps.length ∧ wf ds st Kn Kx) ws) := by
  refine ⟨fun pins s σ H Q I ⟨G, env, st, Kn, Kx, hold, er, hw, hn, hx⟩ => ?_⟩
  refine wpAny_Call_Name_kw (ld_glob I hg hm ?_ hdb)
  have hA : wpAny (model X.prog X.w) X.A (spliced (backTo pos (starEach (e :: es) X.env))) (AP X pins σ fun vs H1 => ∀ a dx, H1 a = none → H1 dx = none → dx ≠ a → liftSp ps.length wf (.ref a :: vs) (upd (upd H1 dx (.own a)) a (.ins C dx [])) (fun v H2 => v = .non ∧ Q (.ref a) H2) (L2.WE W σ)) X.xe s :=
    ha.run pos pins s σ H _ I ⟨G, env, st, _, Kx, hold, er, hw, fun ds st1 vs H1 kk t dn a dx na nd ne => by
      have t1 := t.hold.laid (p := dx) (o := .own a) nd
      have na1 : upd H1 dx (.own a) a = none := by rw [upd_ne (Ne.symm ne)]; exact na
      have t2 := t1.hold.cell (p := a) (o := .ins C dx []) (c := .ins C []) na1 ⟨dx, [], upd_same, rfl⟩
      have q := kk a fun z => t.hold.fresh na (.inl z)
      refine ⟨G, _, _, _, Kx, t2.hold, .cons mk_ref ((t1.trans t2).dns dn), q.1, q.2, fun d st' v H' k2 t3 d3 => ⟨?_, hn _ _ _ _ k2.2 (t.trans ((t1.trans t2).trans t3)) mk_ref⟩, fun _ _ _ _ _ k2 t3 xr => hx _ _ _ _ _ k2 (t.trans ((t1.trans t2).trans t3)) xr⟩
      have e := k2.1
      subst e
      exact dn_non d3, hx⟩
  refine PySem.W.callWith_K (h₀ := X.base) I.ok.mod.kin M.kp (thn hA fun us s1 ⟨vs, H1, I1, r, h⟩ => ⟨I1.kIn, ?_⟩) he hpl
  have hq := h (s1.heap.objs.size + 1) s1.heap.objs.size (I1.hok.fresh (Nat.le_succ _)) (I1.hok.fresh (Nat.le_refl _)) (Nat.ne_of_lt (Nat.lt_succ_self _))
  have I2 := Inv.made (C := C) I1
  have r2 : Vals (V.ref (s1.heap.objs.size + 1) :: vs) (Value.ref (s1.heap.objs.size + 1) :: us) := .cons rfl r
  have b := hb { s1 with heap := (s1.heap.push PySem.W.emptyDict).push (PySem.W.instObj C s1.heap.objs.size) } (Value.ref (s1.heap.objs.size + 1) :: us) I2.kIn (by rw [List.append_nil, ← r2.length]; exact liftSp_len hq)
  rw [List.append_nil] at b
  refine wpAny_call (make_map (f := f) I1.kIn M.makes M.init (beq_iff_eq.mp M.fn) (codeAny_mono (F.run _ X.stack _ _ ⟨Value.ref (s1.heap.objs.size + 1) :: us, []⟩ (Value.ref (s1.heap.objs.size + 1) :: us) _ _ (L2.WE W σ) (hr.make C us []) (I2.env0.make C us []) b r2 hq) fun r s' hq' => ?_))
  cases r with
  | error e => exact passAt tk σ pins _ _ e s' I2 hq'
  | ok fl =>
    cases fl with
    | ret u =>
      obtain ⟨v, H', I3, rv, ev, q3⟩ := I2.after hq'
      subst ev
      exact ⟨rv, ⟨V.ref (s1.heap.objs.size + 1), H', I3, rfl, q3⟩⟩
    | next => exact False.elim hq'
    | brk => exact False.elim hq'
    | cont => exact False.elim hq'
end
end DL

namespace DL
open PySem PySem.Spec PyProof.Rows L2
/-! ### plain data -/
mutual
def D.py : D → Option PyData
  | .non => some .none
  | .bl b => some (.bool b)
  | .int i => some (.int i)
  | .str x => some (.str x)
  | .tup ds => match D.pys ds with
    | some l => some (.tuple l)
    | none => none
  | .lst ds => match D.pys ds with
    | some l => some (.list l)
    | none => none
  | .ty _ => none
  | .ref _ => none
  | .dT _ _ => none
  | .emp => none
  | .scr _ => none
def D.pys : List D → Option (List PyData)
  | [] => some []
  | d :: ds => match D.py d, D.pys ds with
    | some a, some b => some (a :: b)
    | _, _ => none
end
section
variable {F : Addr → Prop} {H : Hp} {K : PySem.W.Frag}
mutual
theorem D.py_dp : ∀ (d : D) (p : PyData) (v : V), d.py = some p → Dn F H d v → Dp K H v p
  | .non, p, v, e, h => by simp only [D.py] at e; cases e; rw [dn_non h]; exact .non
  | .bl b, p, v, e, h => by simp only [D.py] at e; cases e; rw [dn_bl h]; exact .bl b
  | .int i, p, v, e, h => by simp only [D.py] at e; cases e; rw [dn_int h]; exact .int i
  | .str x, p, v, e, h => by simp only [D.py] at e; cases e; rw [dn_str h]; exact .str x
  | .tup ds, p, v, e, h => by
    simp only [D.py] at e
    split at e
    · rename_i l el
      cases e
      obtain ⟨a, xs, rfl, ha, _, r⟩ := dn_tup h
      exact .tup (SqT.of ha) (D.pys_dp ds l xs el r)
    · cases e
  | .lst ds, p, v, e, h => by
    simp only [D.py] at e
    split at e
    · rename_i l el
      cases e
      obtain ⟨a, xs, rfl, ha, _, r⟩ := dn_lst h
      exact .lst (SqL.of ha) (D.pys_dp ds l xs el r)
    · cases e
  | .ty _, p, v, e, h => by simp only [D.py] at e; cases e
  | .ref _, p, v, e, h => by simp only [D.py] at e; cases e
  | .dT _ _, p, v, e, h => by simp only [D.py] at e; cases e
  | .emp, p, v, e, h => by simp only [D.py] at e; cases e
  | .scr _, p, v, e, h => by simp only [D.py] at e; cases e
theorem D.pys_dp : ∀ (ds : List D) (l : List PyData) (vs : List V), D.pys ds = some l → Dns F H ds vs → DpAll K H vs l
  | [], l, vs, e, h => by simp only [D.pys] at e; cases e; rw [h.nil_inv]; exact .nil
  | d :: ds, l, vs, e, h => by
    simp only [D.pys] at e
    split at e
    · rename_i a b ea eb
      cases e
      obtain ⟨v, r, rfl, h1, h2⟩ := h.inv
      exact .cons (D.py_dp d a v ea h1) (D.pys_dp ds b r eb h2)
    · cases e
end
end
def strsOf : List D → Option (List Str)
  | [] => some []
  | .str x :: ds => match strsOf ds with
    | some l => some (x :: l)
    | none => none
  | _ :: _ => none
theorem strsOf_eq : ∀ {ds : List D} {l : List Str}, strsOf ds = some l → ds = l.map D.str
  | [], l, e => by simp only [strsOf] at e; cases e; rfl
  | .str x :: ds, l, e => by
    simp only [strsOf] at e
    split at e
    · rename_i m em
      cases e
      rw [strsOf_eq em]; rfl
    · cases e
  | .non :: _, l, e | .bl _ :: _, l, e | .int _ :: _, l, e | .ty _ :: _, l, e | .ref _ :: _, l, e | .tup _ :: _, l, e | .lst _ :: _, l, e | .dT _ _ :: _, l, e | .emp :: _, l, e | .scr _ :: _, l, e => by simp [strsOf] at e
def blsOf : List D → Option (List Bool)
  | [] => some []
  | .bl x :: ds => match blsOf ds with
    | some l => some (x :: l)
    | none => none
  | _ :: _ => none
theorem blsOf_eq : ∀ {ds : List D} {l : List Bool}, blsOf ds = some l → ds = l.map D.bl
  | [], l, e => by simp only [blsOf] at e; cases e; rfl
  | .bl x :: ds, l, e => by
    simp only [blsOf] at e
    split at e
    · rename_i m em
      cases e
      rw [blsOf_eq em]; rfl
    · cases e
  | .non :: _, l, e | .str _ :: _, l, e | .int _ :: _, l, e | .ty _ :: _, l, e | .ref _ :: _, l, e | .tup _ :: _, l, e | .lst _ :: _, l, e | .dT _ _ :: _, l, e | .emp :: _, l, e | .scr _ :: _, l, e => by simp [blsOf] at e
theorem strsOf_map : ∀ l : List Str, strsOf (l.map D.str) = some l
  | [] => rfl
  | x :: l => by simp only [List.map_cons, strsOf, strsOf_map l]
theorem blsOf_map : ∀ l : List Bool, blsOf (l.map D.bl) = some l
  | [] => rfl
  | x :: l => by simp only [List.map_cons, blsOf, blsOf_map l]
/-- scalars -/
def D.flat : D → Option V
  | .non => some .non
  | .bl b => some (.bl b)
  | .int i => some (.int i)
  | .str x => some (.str x)
  | _ => none
def flats : List D → Option (List V)
  | [] => some []
  | d :: ds => match d.flat, flats ds with
    | some a, some b => some (a :: b)
    | _, _ => none
theorem D.flat_eq {F : Addr → Prop} {H : Hp} {d : D} {u v : V} (e : d.flat = some u) (h : Dn F H d v) : v = u ∧ flatV u = true := by
  cases d with
  | non => cases e; exact ⟨dn_non h, rfl⟩
  | bl b => cases e; exact ⟨dn_bl h, rfl⟩
  | int i => cases e; exact ⟨dn_int h, rfl⟩
  | str x => cases e; exact ⟨dn_str h, rfl⟩
  | _ => cases e
theorem flats_eq {F : Addr → Prop} {H : Hp} : ∀ {ds : List D} {us vs : List V}, flats ds = some us → Dns F H ds vs → vs = us ∧ us.all flatV = true
  | [], us, vs, e, h => by simp only [flats] at e; cases e; exact ⟨h.nil_inv, rfl⟩
  | d :: ds, us, vs, e, h => by
    simp only [flats] at e
    split at e
    · rename_i a b ea eb
      cases e
      obtain ⟨v, r, rfl, h1, h2⟩ := h.inv
      obtain ⟨e1, f1⟩ := D.flat_eq ea h1
      obtain ⟨e2, f2⟩ := flats_eq eb h2
      rw [e1, e2]
      exact ⟨rfl, by rw [List.all_cons, f1, f2]; rfl⟩
    · cases e

/-! ### operators -/
def gI2 (C : Int → Int → Prop) (f : Int → Int → D) : D → D → Sto → KD → Prop := fun dx dy st Kn => match dx, dy with
  | .int i, .int j => C i j ∧ Kn (f i j) st
  | _, _ => False
theorem opl_rI {C : Int → Int → Prop} {f : Int → Int → D} {g : Int → Int → V} (e : ∀ i j F H, Dn F H (f i j) (g i j)) : OpL (rI C g) (gI2 C f) := fun G dx dy x y H st Kn Q h hold d1 d2 k => by
  unfold gI2 at h
  split at h
  · exact ⟨_, _, dn_int d1, dn_int d2, h.1, k _ _ _ _ h.2 (To.refl hold) (e _ _ _ _)⟩
  · exact h.elim
def gI20 (f : Int → Int → D) : D → D → Sto → KD → Prop := fun dx dy st Kn => match dx, dy with
  | .int i, .int j => Kn (f i j) st
  | _, _ => False
theorem opl_rI0 {f : Int → Int → D} {g : Int → Int → V} (e : ∀ i j F H, Dn F H (f i j) (g i j)) : OpL (rI0 g) (gI20 f) := fun G dx dy x y H st Kn Q h hold d1 d2 k => by
  unfold gI20 at h
  split at h
  · exact ⟨_, _, dn_int d1, dn_int d2, k _ _ _ _ h (To.refl hold) (e _ _ _ _)⟩
  · exact h.elim
def gAdd : D → D → Sto → KD → Prop := fun dx dy st Kn => match dx, dy with
  | .int i, .int j => Kn (.int (i + j)) st
  | .str x, .str y => x.length + y.length ≤ sizeLine ∧ Kn (.str (x ++ y)) st
  | .lst xs, .lst ys => xs.length + ys.length ≤ sizeLine ∧ Kn (.lst (xs ++ ys)) st
  | .tup xs, .tup ys => xs.length + ys.length ≤ sizeLine ∧ Kn (.tup (xs ++ ys)) st
  | _, _ => False
abbrev gSub := gI20 fun i j => .int (i - j)
abbrev gFdiv := gI2 CDiv fun i j => .int (i / j)
abbrev gMod := gI2 (fun _ j => 0 < j) fun i j => .int (i % j)
abbrev gPow := gI2 CPow fun i j => .int (i ^ j.toNat)
abbrev gLt := gI20 fun i j => .bl (decide (i < j))
abbrev gLe := gI20 fun i j => .bl (decide (i ≤ j))
abbrev gGt := gI20 fun i j => .bl (decide (j < i))
abbrev gGe := gI20 fun i j => .bl (decide (j ≤ i))
def gMul : D → D → Sto → KD → Prop := fun dx dy st Kn => match dx, dy with
  | .int i, .int j => CMul i j ∧ Kn (.int (i * j)) st
  | .lst xs, .int k => (-(2 ^ 63) ≤ k ∧ k < 2 ^ 63 ∧ xs.length * k.toNat ≤ sizeLine) ∧ Kn (.lst (List.replicate k.toNat xs).flatten) st
  | _, _ => False
section
variable {X : Cx}
abbrev rAddX (X : Cx) : R2 := fun x y H Q => (rI0 (fun i j => .int (i + j)) x y H Q) ∨ (∃ i j, x = .str i ∧ y = .str j ∧ i.length + j.length ≤ sizeLine ∧ Q (.str (i ++ j)) H) ∨ rCat x y H Q ∨ rCatA X.K x y H Q
theorem op_addX : OpR X (binaryOp .Add) (rAddX X) := op_add.or (op_add_str.or (op_cat.or op_catA))
theorem opl_add : OpL (rAddX X) gAdd := fun G dx dy x y H st Kn Q h hold d1 d2 k => by
  unfold gAdd at h
  split at h
  · exact .inl ⟨_, _, dn_int d1, dn_int d2, k _ _ _ _ h (To.refl hold) mk_int⟩
  · exact .inr (.inl ⟨_, _, dn_str d1, dn_str d2, h.1, k _ _ _ _ h.2 (To.refl hold) mk_str⟩)
  · obtain ⟨a, xs, rfl, ha, na, r⟩ := dn_lst d1
    obtain ⟨b, ys, rfl, hb, nb, s⟩ := dn_lst d2
    exact .inr (.inr (.inl ⟨a, b, xs, ys, rfl, rfl, ha, hb, by rw [r.length, s.length]; exact h.1, fun p hp => k _ _ _ _ h.2 (hold.laid hp) (hold.nlst hp (r.append s))⟩))
  · rename_i xs' ys'
    obtain ⟨a, xs, rfl, ha, na, r⟩ := dn_tup d1
    obtain ⟨b, ys, rfl, hb, nb, s⟩ := dn_tup d2
    refine .inr (.inr (.inr ⟨a, b, xs, ys, rfl, rfl, SqT.of ha, SqT.of hb, by rw [r.length, s.length]; exact h.1, fun e => ?_, fun _ e => ?_, fun _ _ p hp => k _ _ _ _ h.2 (hold.laid hp) (hold.ntup hp (r.append s))⟩))
    · have e' : xs' = [] := by have := r.length; rw [e] at this; cases xs' with | nil => rfl | cons _ _ => cases this
      rw [e', List.nil_append] at h
      exact k _ _ _ _ h.2 (To.refl hold) (mk_tup hb nb s)
    · have e' : ys' = [] := by have := s.length; rw [e] at this; cases ys' with | nil => rfl | cons _ _ => cases this
      rw [e', List.append_nil] at h
      exact k _ _ _ _ h.2 (To.refl hold) (mk_tup ha na r)
  · exact h.elim
abbrev rMulX : R2 := fun x y H Q => rI CMul (fun i j => .int (i * j)) x y H Q ∨ rRep x y H Q
theorem op_mulXX : OpR X (binaryOp .Mult) rMulX := op_mul.or op_rep
theorem opl_mul : OpL rMulX gMul := fun G dx dy x y H st Kn Q h hold d1 d2 k => by
  unfold gMul at h
  split at h
  · exact .inl ⟨_, _, dn_int d1, dn_int d2, h.1, k _ _ _ _ h.2 (To.refl hold) mk_int⟩
  · obtain ⟨a, xs, rfl, ha, na, r⟩ := dn_lst d1
    exact .inr ⟨a, _, xs, rfl, dn_int d2, ha, h.1.1, h.1.2.1, by rw [r.length]; exact h.1.2.2, fun p hp => k _ _ _ _ h.2 (hold.laid hp) (hold.nlst hp (r.rep _))⟩
  · exact h.elim
/-! comparisons -/
def gEq : D → D → Sto → KD → Prop := fun dx dy st Kn => match dx.py, dy.py with
  | some p, some q => (SeqAt.shaped p = true ∧ SeqAt.shaped q = true) ∧ Kn (.bl (PyData.eqv p q)) st
  | _, _ => False
def gNe : D → D → Sto → KD → Prop := fun dx dy st Kn => match dx.py, dy.py with
  | some p, some q => (SeqAt.shaped p = true ∧ SeqAt.shaped q = true) ∧ Kn (.bl (!PyData.eqv p q)) st
  | _, _ => False
theorem opl_eq {K : PySem.W.Frag} : OpL (rEqD K) gEq := fun G dx dy x y H st Kn Q h hold d1 d2 k => by
  unfold gEq at h
  split at h
  · rename_i p q e1 e2
    exact ⟨p, q, D.py_dp dx p x e1 d1, D.py_dp dy q y e2 d2, h.1.1, h.1.2, k _ _ _ _ h.2 (To.refl hold) mk_bl⟩
  · exact h.elim
theorem opl_ne {K : PySem.W.Frag} : OpL (rNeD K) gNe := fun G dx dy x y H st Kn Q h hold d1 d2 k => by
  unfold gNe at h
  split at h
  · rename_i p q e1 e2
    exact ⟨p, q, D.py_dp dx p x e1 d1, D.py_dp dy q y e2 d2, h.1.1, h.1.2, k _ _ _ _ h.2 (To.refl hold) mk_bl⟩
  · exact h.elim
def D.isNon : D → Bool
  | .non => true
  | _ => false
theorem D.isNon_eq {F : Addr → Prop} {H : Hp} {d : D} {v : V} (h : Dn F H d v) : decide (v = V.non) = d.isNon := by
  cases d with
  | non => rw [dn_non h]; rfl
  | bl b => rw [dn_bl h]; rfl
  | int i => rw [dn_int h]; rfl
  | str x => rw [dn_str h]; rfl
  | ty n => rw [dn_ty h]; rfl
  | ref a => rw [dn_ref h]; rfl
  | tup ds => obtain ⟨a, xs, rfl, _⟩ := dn_tup h; rfl
  | lst ds => obtain ⟨a, xs, rfl, _⟩ := dn_lst h; rfl
  | dT ks ds => simp only [Dn] at h; obtain ⟨a, xs, rfl, _⟩ := h; rfl
  | emp => simp only [Dn] at h; obtain ⟨a, rfl, _⟩ := h; rfl
  | scr ns => obtain ⟨a, o, rfl, _⟩ := dn_scr h; rfl
def gIsN : D → D → Sto → KD → Prop := fun dx dy st Kn => match dy with
  | .non => Kn (.bl dx.isNon) st
  | _ => False
def gNotN : D → D → Sto → KD → Prop := fun dx dy st Kn => match dy with
  | .non => Kn (.bl (!dx.isNon)) st
  | _ => False
theorem opl_isN : OpL (fun x y H Q => y = .non ∧ Q (.bl (decide (x = .non))) H) gIsN := fun G dx dy x y H st Kn Q h hold d1 d2 k => by
  unfold gIsN at h
  split at h
  · exact ⟨dn_non d2, by rw [D.isNon_eq d1]; exact k _ _ _ _ h (To.refl hold) mk_bl⟩
  · exact h.elim
theorem opl_notN : OpL (fun x y H Q => y = .non ∧ Q (.bl (!decide (x = .non))) H) gNotN := fun G dx dy x y H st Kn Q h hold d1 d2 k => by
  unfold gNotN at h
  split at h
  · exact ⟨dn_non d2, by rw [D.isNon_eq d1]; exact k _ _ _ _ h (To.refl hold) mk_bl⟩
  · exact h.elim
def gIn (neg : Bool) : D → D → Sto → KD → Prop := fun dx dy st Kn => match dy with
  | .lst ds => match dx.flat, flats ds with
    | some u, some us => Kn (.bl (if neg then !inV u us else inV u us)) st
    | _, _ => False
  | .tup ds => match dx.flat, flats ds with
    | some u, some us => Kn (.bl (if neg then !inV u us else inV u us)) st
    | _, _ => False
  | _ => False
theorem opl_in {K : PySem.W.Frag} {neg : Bool} : OpL (rIn K neg) (gIn neg) := fun G dx dy x y H st Kn Q h hold d1 d2 k => by
  unfold gIn at h
  split at h
  · obtain ⟨a, xs, rfl, ha, na, r⟩ := dn_lst d2
    split at h
    · rename_i u us e1 e2
      obtain ⟨rfl, f1⟩ := D.flat_eq e1 d1
      obtain ⟨rfl, f2⟩ := flats_eq e2 r
      exact ⟨a, _, rfl, .inl (SqL.of ha), f1, f2, k _ _ _ _ h (To.refl hold) mk_bl⟩
    · exact h.elim
  · obtain ⟨a, xs, rfl, ha, na, r⟩ := dn_tup d2
    split at h
    · rename_i u us e1 e2
      obtain ⟨rfl, f1⟩ := D.flat_eq e1 d1
      obtain ⟨rfl, f2⟩ := flats_eq e2 r
      exact ⟨a, _, rfl, .inr (SqT.of ha), f1, f2, k _ _ _ _ h (To.refl hold) mk_bl⟩
    · exact h.elim
  · exact h.elim
/-! items -/
def gIx : D → D → Sto → KD → Prop := fun dx dy st Kn => match dx, dy with
  | .tup ds, .int i => match atI ds i with
    | some d => Kn d st
    | none => False
  | .lst ds, .int i => match atI ds i with
    | some d => Kn d st
    | none => False
  | .scr ns, .int i => match atI ns i with
    | some n => Kn (.int n) st
    | none => False
  | .ref a, .int i => match st.lookup a with
    | some (.lst ds) => match atI ds i with
      | some d => Kn d st
      | none => False
    | _ => False
  | .str z, .int i => z.length ≤ sizeLine ∧ match atI z.cps.toList i with
    | some c => Kn (.str ⟨#[c]⟩) st
    | none => False
  | _, _ => False
theorem Dns.atI {F : Addr → Prop} {H : Hp} {ds : List D} {vs : List V} {i : Int} {d : D} (h : Dns F H ds vs) (e : L2.atI ds i = some d) : ∃ v, L2.atI vs i = some v ∧ Dn F H d v := by
  unfold L2.atI at e ⊢
  rw [h.length]
  cases q : ixN ds.length i with
  | none => rw [q] at e; cases e
  | some j =>
    rw [q] at e
    exact h.get (i := j) e
theorem atI_map {α β : Type} {f : α → β} {xs : List α} {i : Int} {a : α} (e : L2.atI xs i = some a) : L2.atI (xs.map f) i = some (f a) := by
  unfold L2.atI at e ⊢
  rw [List.length_map]
  cases q : ixN xs.length i with
  | none => rw [q] at e; cases e
  | some j =>
    rw [q] at e
    have e : xs[j]? = some a := e
    show (xs.map f)[j]? = _
    rw [List.getElem?_map, e]; rfl
theorem opl_ix {K : PySem.W.Frag} : OpL (rIx K) gIx := fun G dx dy x y H st Kn Q h hold d1 d2 k => by
  unfold gIx at h
  split at h
  · obtain ⟨a, xs, rfl, ha, na, r⟩ := dn_tup d1
    split at h
    · rename_i d e
      obtain ⟨v, e2, dv⟩ := r.atI e
      exact .inr (.inl ⟨a, xs, _, v, rfl, dn_int d2, SqT.of ha, e2, k _ _ _ _ h (To.refl hold) dv⟩)
    · exact h.elim
  · obtain ⟨a, xs, rfl, ha, na, r⟩ := dn_lst d1
    split at h
    · rename_i d e
      obtain ⟨v, e2, dv⟩ := r.atI e
      exact .inl ⟨a, xs, _, v, rfl, dn_int d2, SqL.of ha, e2, k _ _ _ _ h (To.refl hold) dv⟩
    · exact h.elim
  · obtain ⟨a, o, rfl, ha, na⟩ := dn_scr d1
    split at h
    · rename_i n e
      exact .inl ⟨a, _, _, .int n, rfl, dn_int d2, .inl (.inr ⟨o, ha⟩), atI_map e, k _ _ _ _ h (To.refl hold) mk_int⟩
    · exact h.elim
  · rename_i a i
    split at h
    · rename_i ds l
      obtain ⟨xs, hp, r⟩ := hold.at l
      split at h
      · rename_i d e
        obtain ⟨v, e2, dv⟩ := r.atI e
        exact .inl ⟨a, xs, _, v, dn_ref d1, dn_int d2, SqL.of hp, e2, k _ _ _ _ h (To.refl hold) dv⟩
      · exact h.elim
    · exact h.elim
  · obtain ⟨hz, h⟩ := h
    split at h
    · rename_i c e
      exact .inr (.inr ⟨_, _, c, dn_str d1, dn_int d2, hz, e, k _ _ _ _ h (To.refl hold) mk_str⟩)
    · exact h.elim
  · exact h.elim
/-! o[i] = v in a list that changes -/
def gSetL : D → D → D → Sto → (Sto → Prop) → Prop := fun dO dI dV st Kn => match dO, dI with
  | .ref a, .int k => match st.lookup a with
    | some (.lst ds) => match ixN ds.length k with
      | some j => Kn (st.put a (.lst (ds.set j dV)))
      | none => False
    | _ => False
  | _, _ => False
theorem setl_list : SetL rSetL gSetL := fun G dO dI dV o i v H st Kn Q h hold d1 d2 d3 k => by
  unfold gSetL at h
  split at h
  · rename_i a kk
    split at h
    · rename_i ds l
      obtain ⟨xs, hp, r⟩ := hold.at l
      split at h
      · rename_i j e
        have tw := hold.write (o := .lst (xs.set j v)) (on_of l) (c := .lst (ds.set j dV)) ⟨_, upd_same, Dns.le (by have q := (le_write (H := H) (o := .lst (xs.set j v)) (c := .lst (ds.set j dV)) (on_of l)).g (G := G); rw [put_On] at q; exact q) _ _ (r.set j d3)⟩
        exact ⟨a, xs, kk, j, dn_ref d1, dn_int d2, hp, by rw [r.length]; exact e, k _ _ h tw⟩
      · exact h.elim
    · exact h.elim
  · exact h.elim
end
end DL

namespace DL
open PySem PySem.Spec PyProof.Rows L2
section
variable {X : Cx} {W : WX} {e o : Expr} {es : List Expr} {pos : Pos} {we wo : WE} {ws : WA}
/-! ### slices -/
abbrev WO := DEnv → Sto → (Option Int → Sto → Prop) → KX → Prop
def lfO (W : WX) (w : WO) : TO := fun σ H Q => ∃ (G : Addr → Prop) (env : DEnv) (st : Sto) (Kn : Option Int → Sto → Prop) (Kx : KX), Hold G H st ∧ EnvR (On G st) H env σ ∧ w env st Kn Kx ∧
  (∀ d st' H', Kn d st' → To G H st H' st' → Q d H') ∧ (∀ x st' cls dd H', Kx x st' → To G H st H' st' → XRel (On G st') H' x cls dd → W cls dd σ H')
abbrev PDO (X : Cx) (W : WX) (e : Option Expr) (w : WO) : Prop := PO X e (lfO W w)
theorem PO.imp {e : Option Expr} {t t' : TO} (h : PO X e t) (i : ∀ σ H Q, t' σ H Q → t σ H Q) : PO X e t' := by
  cases h with
  | mk h => exact ⟨by intros; first | (apply h <;> first | assumption | (apply i; assumption)) | skip⟩
def wNoPart : WO := fun _ st Kn _ => Kn none st
def wPart (w : WE) : WO := fun env st Kn Kx => w env st (fun d st' => match d with
  | .int i => Kn (some i) st'
  | _ => False) Kx
theorem pdo_none : PDO X W none wNoPart := PO.imp po_none fun σ H Q ⟨G, env, st, Kn, Kx, hold, er, hw, hn, hx⟩ => hn _ _ _ hw (To.refl hold)
theorem pdo_some (h : PD X W e we) : PDO X W (some e) (wPart we) := PO.imp (po_some h) fun σ H Q ⟨G, env, st, Kn, Kx, hold, er, hw, hn, hx⟩ => ⟨G, env, st, _, Kx, hold, er, hw, fun d st' v H' k t dn => by
  split at k
  · exact ⟨_, dn_int dn, hn _ _ _ k t⟩
  · exact k.elim, hx⟩
def cutD {α : Type} (xs : List α) (lo hi : Option Int) : List α := (xs.drop (HT.sIx xs.length 0 lo)).take (HT.sIx xs.length xs.length hi - HT.sIx xs.length 0 lo)
theorem Dns.cut {F : Addr → Prop} {H : Hp} {ds : List D} {vs : List V} (h : Dns F H ds vs) (lo hi : Option Int) : Dns F H (cutD ds lo hi) (cutV vs lo hi) := by
  unfold cutD cutV
  rw [h.length]
  exact (h.drop _).take _
theorem cut_map {α β : Type} (f : α → β) (xs : List α) (lo hi : Option Int) : cutD (xs.map f) lo hi = (cutD xs lo hi).map f := by
  unfold cutD
  rw [List.length_map, List.map_take, List.map_drop]
def gSl : D → Option Int → Option Int → Sto → KD → Prop := fun dx lo hi st Kn => match dx with
  | .lst ds => Kn (.lst (cutD ds lo hi)) st
  | .tup ds => Kn (.tup (cutD ds lo hi)) st
  | .scr ns => Kn (.lst (cutD (ns.map D.int) lo hi)) st
  | _ => False
abbrev rSlX (X : Cx) : V → Option Int → Option Int → Hp → VK → Prop := fun x lo hi H Q => rSlL X.K x lo hi H Q ∨ rSlA X.K x lo hi H Q
theorem cutD_all {α : Type} {xs : List α} {lo hi : Option Int} (h : HT.sIx xs.length 0 lo = 0 ∧ HT.sIx xs.length xs.length hi = xs.length) : cutD xs lo hi = xs := by
  unfold cutD
  rw [h.1, h.2]; simp
def wSl (w : WE) (wl wh : WO) : WE := fun env st Kn Kx => w env st (fun d st1 => wl env st1 (fun lo st2 => wh env st2 (fun hi st3 => gSl d lo hi st3 Kn) Kx) Kx) Kx
theorem pd_slice {lo hi : Option Expr} {wl wh : WO} {p2 : Pos} (he : PD X W e we) (hl : PDO X W lo wl) (hh : PDO X W hi wh) : PD X W (.Subscript e (.Slice lo hi none p2) pos) (wSl we wl wh) :=
  PE.imp (pe_slice (sl_list.or sl_tupA) he hl hh) fun σ H Q ⟨G, env, st, Kn, Kx, hold, er, hw, hn, hx⟩ => ⟨G, env, st, _, Kx, hold, er, hw, fun d st1 v H1 k1 t1 d1 =>
    ⟨G, env, st1, _, Kx, t1.hold, er.le t1.le.g, k1, fun lo st2 H2 k2 t2 => ⟨G, env, st2, _, Kx, t2.hold, er.le (t1.trans t2).le.g, k2, fun hi st3 H3 k3 t3 => by
      have t := (t1.trans t2).trans t3
      have d3 := (t2.trans t3).dn d1
      unfold gSl at k3
      split at k3
      · obtain ⟨a, xs, rfl, ha, na, r⟩ := dn_lst d3
        exact .inl ⟨a, xs, rfl, SqL.of ha, fun p hp => hn _ _ _ _ k3 (t.trans (t3.hold.laid hp)) (t3.hold.nlst hp (r.cut _ _))⟩
      · rename_i ds
        obtain ⟨a, xs, rfl, ha, na, r⟩ := dn_tup d3
        refine .inr ⟨a, xs, rfl, SqT.of ha, fun hw => ?_, fun _ p hp => hn _ _ _ _ k3 (t.trans (t3.hold.laid hp)) (t3.hold.ntup hp (r.cut _ _))⟩
        rw [r.length] at hw
        have k4 := hn _ _ (.ref a) H3 k3 t (by rw [cutD_all hw]; exact mk_tup ha na r)
        exact k4
      · rename_i ns
        obtain ⟨a, ob, rfl, ha, na⟩ := dn_scr d3
        exact .inl ⟨a, _, rfl, .inl (.inr ⟨ob, ha⟩), fun p hp => hn _ _ _ _ k3 (t.trans (t3.hold.laid hp)) (t3.hold.nlst hp ((Dns.ints ns).cut _ _))⟩
      · exact k3.elim, fun _ _ _ _ _ k2 t2' xr => hx _ _ _ _ _ k2 ((t1.trans t2).trans t2') xr⟩, fun _ _ _ _ _ k2 t2 xr => hx _ _ _ _ _ k2 (t1.trans t2) xr⟩, hx⟩
/-! ### built-ins -/
def gLen : List D → Sto → KD → Prop := fun ds st Kn => match ds with
  | [.lst xs] => Kn (.int xs.length) st
  | [.tup xs] => Kn (.int xs.length) st
  | [.scr xs] => Kn (.int xs.length) st
  | [.str x] => x.length ≤ sizeLine ∧ Kn (.int x.length) st
  | [.ref a] => match st.lookup a with
    | some (.lst xs) => Kn (.int xs.length) st
    | _ => False
  | _ => False
theorem calll_len : CallL (fun xs H Q => ∃ x n, xs = [x] ∧ LenV X.K x H n ∧ Q (.int n) H) gLen := fun G ds vs H st Kn Q h hold dn k => by
  unfold gLen at h
  split at h
  · obtain ⟨v, r, rfl, d1, dn⟩ := dn.inv
    cases dn.nil_inv
    obtain ⟨a, xs, rfl, ha, na, r⟩ := dn_lst d1
    exact ⟨_, _, rfl, .inl ⟨xs, SqL.of ha, r.length.symm⟩, k _ _ _ _ h (To.refl hold) mk_int⟩
  · obtain ⟨v, r, rfl, d1, dn⟩ := dn.inv
    cases dn.nil_inv
    obtain ⟨a, xs, rfl, ha, na, r⟩ := dn_tup d1
    exact ⟨_, _, rfl, .inr ⟨xs, SqT.of ha, r.length.symm⟩, k _ _ _ _ h (To.refl hold) mk_int⟩
  · obtain ⟨v, r, rfl, d1, dn⟩ := dn.inv
    cases dn.nil_inv
    obtain ⟨a, ob, rfl, ha, na⟩ := dn_scr d1
    exact ⟨_, _, rfl, .inl ⟨_, .inl (.inr ⟨ob, ha⟩), (List.length_map ..).symm⟩, k _ _ _ _ h (To.refl hold) mk_int⟩
  · obtain ⟨v, r, rfl, d1, dn⟩ := dn.inv
    cases dn.nil_inv
    rw [dn_str d1]
    exact ⟨_, _, rfl, ⟨h.1, rfl⟩, k _ _ _ _ h.2 (To.refl hold) mk_int⟩
  · obtain ⟨v, r, rfl, d1, dn⟩ := dn.inv
    cases dn.nil_inv
    rw [dn_ref d1]
    split at h
    · rename_i a xs l
      obtain ⟨vs, hp, r⟩ := hold.at l
      exact ⟨_, _, rfl, .inl ⟨vs, SqL.of hp, r.length.symm⟩, k _ _ _ _ h (To.refl hold) mk_int⟩
    · exact h.elim
  · exact h.elim
/-- one int in -/
def g1I (C : Int → Prop) (f : Int → D) : List D → Sto → KD → Prop := fun ds st Kn => match ds with
  | [.int i] => C i ∧ Kn (f i) st
  | _ => False
def gInt : List D → Sto → KD → Prop := fun ds st Kn => match ds with
  | [.int i] => Kn (.int i) st
  | [.bl b] => Kn (.int (if b then 1 else 0)) st
  | _ => False
theorem calll_int : CallL (fun xs H Q => (∃ i, xs = [.int i] ∧ Q (.int i) H) ∨ ∃ k, xs = [.bl k] ∧ Q (.int (if k then 1 else 0)) H) gInt := fun G ds vs H st Kn Q h hold dn k => by
  unfold gInt at h
  split at h
  · obtain ⟨v, r, rfl, d1, dn⟩ := dn.inv
    cases dn.nil_inv
    exact .inl ⟨_, by rw [dn_int d1], k _ _ _ _ h (To.refl hold) mk_int⟩
  · obtain ⟨v, r, rfl, d1, dn⟩ := dn.inv
    cases dn.nil_inv
    exact .inr ⟨_, by rw [dn_bl d1], k _ _ _ _ h (To.refl hold) mk_int⟩
  · exact h.elim
theorem calll_str : CallL (fun xs H Q => ∃ i : Int, xs = [.int i] ∧ i.natAbs.log2 < 1920 ∧ Q (.str (toString i)) H) (g1I (fun i => i.natAbs.log2 < 1920) fun i => .str (toString i)) := fun G ds vs H st Kn Q h hold dn k => by
  unfold g1I at h
  split at h
  · obtain ⟨v, r, rfl, d1, dn⟩ := dn.inv
    cases dn.nil_inv
    exact ⟨_, by rw [dn_int d1], h.1, k _ _ _ _ h.2 (To.refl hold) mk_str⟩
  · exact h.elim
theorem calll_abs : CallL (fun xs H Q => ∃ i : Int, xs = [.int i] ∧ Q (.int (if i < 0 then -i else i)) H) (g1I (fun _ => True) fun i => .int (if i < 0 then -i else i)) := fun G ds vs H st Kn Q h hold dn k => by
  unfold g1I at h
  split at h
  · obtain ⟨v, r, rfl, d1, dn⟩ := dn.inv
    cases dn.nil_inv
    exact ⟨_, by rw [dn_int d1], k _ _ _ _ h.2 (To.refl hold) mk_int⟩
  · exact h.elim
def g2I (f : Int → Int → D) : List D → Sto → KD → Prop := fun ds st Kn => match ds with
  | [.int i, .int j] => Kn (f i j) st
  | _ => False
theorem calll_2I {f : Int → Int → D} {g : Int → Int → V} (e : ∀ i j F H, Dn F H (f i j) (g i j)) : CallL (fun xs H Q => ∃ i j, xs = [.int i, .int j] ∧ Q (g i j) H) (g2I f) := fun G ds vs H st Kn Q h hold dn k => by
  unfold g2I at h
  split at h
  · obtain ⟨v, r, rfl, d1, dn⟩ := dn.inv
    obtain ⟨v, r, rfl, d2, dn⟩ := dn.inv
    cases dn.nil_inv
    exact ⟨_, _, by rw [dn_int d1, dn_int d2], k _ _ _ _ h (To.refl hold) (e _ _ _ _)⟩
  · exact h.elim
abbrev gMax2 := g2I fun i j => .int (if j > i then j else i)
abbrev gMin2 := g2I fun i j => .int (if j < i then j else i)
def gDivmod : List D → Sto → KD → Prop := fun ds st Kn => match ds with
  | [.int i, .int j] => CDiv i j ∧ Kn (.tup [.int (i / j), .int (i % j)]) st
  | _ => False
theorem calll_divmod : CallL (fun xs H Q => ∃ i j, xs = [.int i, .int j] ∧ CDiv i j ∧ ∀ p, H p = none → Q (.ref p) (upd H p (.tup [.int (i / j), .int (i % j)]))) gDivmod := fun G ds vs H st Kn Q h hold dn k => by
  unfold gDivmod at h
  split at h
  · obtain ⟨v, r, rfl, d1, dn⟩ := dn.inv
    obtain ⟨v, r, rfl, d2, dn⟩ := dn.inv
    cases dn.nil_inv
    exact ⟨_, _, by rw [dn_int d1, dn_int d2], h.1, fun p hp => k _ _ _ _ h.2 (hold.laid hp) (hold.ntup hp (.cons mk_int (.cons mk_int .nil)))⟩
  · exact h.elim
def gTupOf : List D → Sto → KD → Prop := fun ds st Kn => match ds with
  | [.lst xs] => Kn (.tup xs) st
  | [.tup xs] => Kn (.tup xs) st
  | [.ref a] => match st.lookup a with
    | some (.lst xs) => Kn (.tup xs) st
    | _ => False
  | _ => False
theorem calll_tupOf : CallL (fun xs H Q => ∃ p ys, xs = [.ref p] ∧ ((SqL X.K H p ys ∧ ∀ l, H l = none → Q (.ref l) (upd H l (.tup ys))) ∨ (SqT X.K H p ys ∧ Q (.ref p) H))) gTupOf := fun G ds vs H st Kn Q h hold dn k => by
  unfold gTupOf at h
  split at h
  · obtain ⟨v, r, rfl, d1, dn⟩ := dn.inv
    cases dn.nil_inv
    obtain ⟨a, xs, rfl, ha, na, r⟩ := dn_lst d1
    exact ⟨a, xs, rfl, .inl ⟨SqL.of ha, fun p hp => k _ _ _ _ h (hold.laid hp) (hold.ntup hp r)⟩⟩
  · obtain ⟨v, r, rfl, d1, dn⟩ := dn.inv
    cases dn.nil_inv
    obtain ⟨a, xs, rfl, ha, na, r⟩ := dn_tup d1
    exact ⟨a, xs, rfl, .inr ⟨SqT.of ha, k _ _ _ _ h (To.refl hold) (mk_tup ha na r)⟩⟩
  · rename_i a
    obtain ⟨v, r, rfl, d1, dn⟩ := dn.inv
    cases dn.nil_inv
    rw [dn_ref d1]
    split at h
    · rename_i xs l
      obtain ⟨vs, hp, r⟩ := hold.at l
      exact ⟨a, vs, rfl, .inl ⟨SqL.of hp, fun p hp => k _ _ _ _ h (hold.laid hp) (hold.ntup hp r)⟩⟩
    · exact h.elim
  · exact h.elim
def gAll (f : List Bool → Bool) : List D → Sto → KD → Prop := fun ds st Kn => match ds with
  | [.lst xs] => match blsOf xs with
    | some bs => Kn (.bl (f bs)) st
    | none => False
  | _ => False
theorem calll_all : CallL (rAll X.K) (gAll fun bs => bs.all id) := fun G ds vs H st Kn Q h hold dn k => by
  unfold gAll at h
  split at h
  · obtain ⟨v, r, rfl, d1, dn⟩ := dn.inv
    cases dn.nil_inv
    obtain ⟨a, xs, rfl, ha, na, r⟩ := dn_lst d1
    split at h
    · rename_i bs e
      rw [blsOf_eq e] at r
      have e2 := r.bls_inv
      subst e2
      exact ⟨a, bs, rfl, SqL.of ha, k _ _ _ _ h (To.refl hold) mk_bl⟩
    · exact h.elim
  · exact h.elim
/-! isinstance -/
/-- what K says of an own class whose instances are asked after -/
structure InsTy (K : PySem.W.Frag) (C : Addr) : Prop where
  cl : Cls K C
  ha : PySem.W.findIn K (.ref C) "__class__" = some (some (.builtin "object.__class__"))
  hn : PySem.W.specialIn K (.builtin "object.__class__") "__get__" = some (some (.builtin "getset_descriptor.__get__"))
  tk : PySem.W.takesIn K (.builtin "object.__class__") = some true
  mr : PySem.W.mroIn K C (.type "object") = some true
def TyD (K : PySem.W.Frag) (st : Sto) : D → Value → Prop
  | .non, t => t = .type "NoneType"
  | .bl _, t => t = .type "bool"
  | .int _, t => t = .type "int"
  | .str _, t => t = .type "str"
  | .tup _, t => t = .type "tuple"
  | .lst _, t => t = .type "list"
  | .dT _ _, t => t = .type "dict"
  | .emp, t => t = .type "dict"
  | .scr _, t => t = .type "list"
  | .ty _, _ => False
  | .ref a, t => match st.lookup a with
    | some (.lst _) => t = .type "list"
    | some (.dT _ _) => t = .type "dict"
    | some (.ins C _) => t = .ref C ∧ InsTy K C
    | none => False
theorem tyD_x {G : Addr → Prop} {H : Hp} {st : Sto} {d : D} {v : V} {t : Value} (hold : Hold G H st) (dn : Dn (On G st) H d v) (h : TyD X.K st d t) : TyX X.K H v t := by
  cases d with
  | non => rw [dn_non dn, show t = _ from h]; exact .base .non
  | bl b => rw [dn_bl dn, show t = _ from h]; exact .base (.bl b)
  | int i => rw [dn_int dn, show t = _ from h]; exact .base (.int i)
  | str x => rw [dn_str dn, show t = _ from h]; exact .base (.str x)
  | tup ds => obtain ⟨a, xs, rfl, ha, _⟩ := dn_tup dn; rw [show t = _ from h]; exact .base (.tup ha)
  | lst ds => obtain ⟨a, xs, rfl, ha, _⟩ := dn_lst dn; rw [show t = _ from h]; exact .base (.lst ha)
  | dT ks ds => simp only [Dn] at dn; obtain ⟨a, xs, rfl, ha, _⟩ := dn; rw [show t = _ from h]; exact .base (.dT ha)
  | emp => simp only [Dn] at dn; obtain ⟨a, rfl, ha, _⟩ := dn; rw [show t = _ from h]; exact .base (.dK ha)
  | scr ns => obtain ⟨a, o, rfl, ha, _⟩ := dn_scr dn; rw [show t = _ from h]; exact .base (.frz ha)
  | ty n => exact (show False from h).elim
  | ref a =>
    rw [dn_ref dn]
    have h : (match st.lookup a with
      | some (.lst _) => t = .type "list"
      | some (.dT _ _) => t = .type "dict"
      | some (.ins C _) => t = .ref C ∧ InsTy X.K C
      | none => False) := h
    split at h
    · rename_i ds l
      obtain ⟨xs, hp, _⟩ := hold.at l
      rw [h]; exact .base (.lst hp)
    · rename_i ks ds l
      obtain ⟨xs, hp, _⟩ := hold.at l
      rw [h]; exact .base (.dT hp)
    · rename_i C fs l
      obtain ⟨dx, vs, hp, _⟩ := hold.at l
      obtain ⟨rfl, T⟩ := h
      exact .base (.ins hp T.cl T.ha T.hn T.tk T.mr)
    · exact h.elim
def ClsD : D → Value → Prop
  | .ty n, u => u = .type n
  | .ref C, u => u = .ref C
  | _, _ => False
def gIsi (K : PySem.W.Frag) : List D → Sto → KD → Prop := fun ds st Kn => match ds with
  | [x, c] => ∃ (t u : Value) (b : Bool), TyD K st x t ∧ ClsD c u ∧ PySem.W.kitOne K t u = some b ∧ Kn (.bl b) st
  | _ => False
theorem calll_isi : CallL (rIsi X.K) (gIsi X.K) := fun G ds vs H st Kn Q h hold dn k => by
  unfold gIsi at h
  split at h
  · rename_i x c
    obtain ⟨v1, r, rfl, d1, dn⟩ := dn.inv
    obtain ⟨v2, r, rfl, d2, dn⟩ := dn.inv
    cases dn.nil_inv
    obtain ⟨t, u, b, ht, hc, hk, h⟩ := h
    refine ⟨v1, v2, t, u, b, rfl, ?_, tyD_x hold d1 ht, hk, k _ _ _ _ h (To.refl hold) mk_bl⟩
    cases c with
    | ty n => rw [dn_ty d2, show u = _ from hc]; exact .ty n
    | ref a => rw [dn_ref d2, show u = _ from hc]; exact .own a
    | _ => exact (show False from hc).elim
  · exact h.elim
/-! ### methods of built-in types -/
def gJoin : D → D → Sto → KD → Prop := fun dx dy st Kn => match dx, dy with
  | .str a, .lst ds => match strsOf ds with
    | some ys => (ys.map (·.length)).sum + ys.length * a.length ≤ 16777216 ∧ Kn (.str (Txt.join a ys)) st
    | none => False
  | .str a, .ref p => match st.lookup p with
    | some (.lst ds) => match strsOf ds with
      | some ys => (ys.map (·.length)).sum + ys.length * a.length ≤ 16777216 ∧ Kn (.str (Txt.join a ys)) st
      | none => False
    | _ => False
  | _, _ => False
def wJoin (wo we : WE) : WE := fun env st Kn Kx => wo env st (fun d st1 => (∃ a, d = .str a) ∧ we env st1 (fun y st2 => gJoin d y st2 Kn) Kx) Kx
theorem pd_join {apos : Pos} (ho : PD X W o wo) (he : PD X W e we) (hs : starEach [e] X.env = [(false, eval e X.env)] := by rfl) (hbase : attributeBase o "join" X.env (eval o X.env) = eval o X.env := by rfl) (hline : (apos.endLine == pos.line) = true := by rfl) :
    PD X W (.Call (.Attribute o "join" apos) [e] [] pos) (wJoin wo we) :=
  PE.imp (pe_join ho he hs hbase hline) fun σ H Q ⟨G, env, st, Kn, Kx, hold, er, hw, hn, hx⟩ => ⟨G, env, st, _, Kx, hold, er, hw, fun d st1 v H1 k1 t1 d1 => by
    obtain ⟨⟨a, rfl⟩, k1⟩ := k1
    refine ⟨⟨a, dn_str d1⟩, G, env, st1, _, Kx, t1.hold, er.le t1.le.g, k1, fun y st2 u H2 k2 t2 d2 => ?_, fun _ _ _ _ _ k2 t2 xr => hx _ _ _ _ _ k2 (t1.trans t2) xr⟩
    unfold gJoin at k2
    split at k2
    · rename_i b ds e1
      cases e1
      obtain ⟨p, xs, rfl, hp, np, r⟩ := dn_lst d2
      split at k2
      · rename_i ys ey
        rw [strsOf_eq ey] at r
        have e2 := r.strs_inv
        subst e2
        exact ⟨_, p, ys, dn_str d1, rfl, .inl (SqL.of hp), k2.1, hn _ _ _ _ k2.2 (t1.trans t2) mk_str⟩
      · exact k2.elim
    · rename_i b p e1
      cases e1
      split at k2
      · rename_i ds l
        obtain ⟨vs, hp, r⟩ := t2.hold.at l
        split at k2
        · rename_i ys ey
          rw [strsOf_eq ey] at r
          have e2 := r.strs_inv
          subst e2
          exact ⟨_, p, ys, dn_str d1, by rw [dn_ref d2], .inl (SqL.of hp), k2.1, hn _ _ _ _ k2.2 (t1.trans t2) mk_str⟩
        · exact k2.elim
      · exact k2.elim
    · exact k2.elim, hx⟩
end
end DL

/-! set(list of ints), sorted(set(list of ints)); the walk of the call is that of the library's set(tuple), turned to lists -/
namespace L2
open PySem PySem.Spec PyProof.Rows Calls
/-- a set just made -/
abbrev nob (w : World) : Obj := { cls := .type "set", dict := none, data := .set #[] 0 (.fresh 0 0 (!w.params.followText "set-order")) }
section
variable {P : Program} {w : World} {A : Around} {E : Value → Shared → Prop} {s : Shared}
theorem set_listI {l : Addr} {items : Array Value} (ns : List Int) {Q : Value → Shared → Prop} (hh : A.handled = none) (hl : s.heap.IsList l items) (hit : IntsAre items.toList ns) (hb : ns.length + 1 < scanBound)
    (h : ∀ (h' : Heap) (tk c : Nat), SetR w h' s.heap.objs.size (fun j => decide (j ∈ ns)) c → c ≤ ns.length → (∀ b o, s.heap.get? b = some o → h'.get? b = some o) → Q (.ref s.heap.objs.size) { s with heap := h', toks := tk }) :
    wpAny (model P w) A (call (.type "set") [.ref l]) Q E s := by
  have qj : items.size = ns.length := by
    have q := IntsAre.length hit
    rw [Array.length_toList] at q
    exact q
  obtain ⟨c, tl, qi⟩ := F.called_set.mro
  have qg := F.called_set.made
  have qh := F.called_set.sub
  refine wpAny_call (codeAny_of_tree ?_)
  show wpAny _ _ (callAny (.type "set") _) _ _ _
  refine wpAny_pure ⟨Code.quiet_builtin _ (by decide +kernel), codeAny_builtin F.entry_type_call ?_⟩
  rw [Around.under_plain (weight_type_call_type "set" [.ref l] []) rfl]
  have h1 := F.called_set.notType
  have h2 := F.called_set.canCreate
  have qs := F.typeCall_set_1 (.ref l)
  repeat (any_goals (first | assumption | wp_step))

  refine codeAny_mono (code_set_led1 (.ref l) (E := E) (Q₁ := fun obj s₁ => obj = .ref s.heap.objs.size ∧ s₁ = { s with heap := s.heap.push (nob w) }) ⟨rfl, rfl⟩) fun r s₁ hr => ?_
  cases r with
  | error e => exact hr
  | ok fl =>
    cases fl with
    | ret obj =>
      obtain ⟨rfl, rfl⟩ := hr
      have hS : (s.heap.push (nob w)).get? s.heap.objs.size = some (nob w) := Heap.get?_push_size _ rfl
      have hT : Shared.TypeIs { s with heap := s.heap.push (nob w) } (.ref s.heap.objs.size) "set" := ⟨_, hS, rfl⟩
      have qr := F.called_set.init.lookup
      have qq := F.called_set.init.bind (.ref s.heap.objs.size)
      repeat (any_goals (first | assumption | wp_step))

      refine codeAny_mono (codeAny_call_builtin (R := wants (fun r s₂ => r = .none ∧ ∃ h' tk c, s₂ = { s with heap := h', toks := tk } ∧ SetR w h' s.heap.objs.size (fun j => decide (j ∈ ns)) c ∧ c ≤ ns.length ∧
          (∀ b o, s.heap.get? b = some o → h'.get? b = some o)) E) F.called_set.init.plain F.entry_set_init (check_set_init_1 hT ?_)) fun r₂ s₂ qo => ?_
      · obtain ⟨ol, qx, qz, nl, qy⟩ := hl
        obtain ⟨ocls, odict, odata, oslots⟩ := ol
        simp only at qz qy
        subst qz; subst qy
        have qm : (s.heap.push (nob w)).get? l = some { cls := .type "list", dict := odict, data := .seq items nl, slots := oslots } := Heap.get?_push_of_some _ qx
        have qk := F.sub_list_set
        have ql := F.sub_list_frozenset
        have hne : (Value.type "list" == Value.type "dict") = false := by decide
        have qt : (s.heap.push (nob w)).IsList l items := ⟨_, qm, rfl, nl, rfl⟩
        unfold Builtin.«set.__init__» noKeywords Builtin.Frozenset.updateFrom
        generalize qp : pyIter = PI
        wp_walk
        subst qp

        refine wpAny_pyIter_list qt ?_
        refine wpAny_bind (wpAny_runValue ?_)
        have qc : l < s.heap.objs.size := Heap.lt_size qx
        have qn : A.in1.in1.in1.handled = none := by simp [hh]
        have qd : (s.heap.push (nob w)).objs.size = s.heap.objs.size + 1 := Heap.size_push ..
        have qa : l ≠ (s.heap.push (nob w)).objs.size := by
          rw [Heap.size_push]; exact Nat.ne_of_lt (Nat.lt_succ_of_lt qc)
        have qb : s.heap.objs.size ∉ [(s.heap.push (nob w)).objs.size, l] := by
          rw [Heap.size_push]; simp only [List.mem_cons, List.mem_singleton, List.not_mem_nil, or_false, not_or]
          exact ⟨Nat.ne_of_lt (Nat.lt_succ_self _), Nat.ne_of_gt qc⟩
        have qe : ∀ (i : Nat) (v : Value), items[i]? = some v → ∃ k t, ns[i]? = some k ∧ v = .int k t := fun i v hv => by
          have hi : i < ns.length := by rw [← qj]; exact (Array.getElem?_eq_some_iff.mp hv).1
          obtain ⟨t, e⟩ := PyProof.Rows.IntsAre.int_at hit i v (by rw [Array.getElem?_toList]; exact hv)
          refine ⟨ns[i], t, List.getElem?_eq_getElem hi, ?_⟩
          rw [e, List.getD_eq_getElem?_getD, List.getElem?_eq_getElem hi] <;> rfl
        refine set_update_ints ((Walks.list qn _ l qa items).toS) s.heap.objs.size
          qb ns qj hb qe (items.size - 0) 0 _ (by omega) (Nat.zero_le _)
          ⟨⟨_, Heap.get?_push_size _ rfl, rfl, rfl⟩, (qt.push _)⟩ ?hS0 ?hR
        case hS0 =>
          have qf : ((s.heap.push (nob w)).push { cls := .type "list_iterator", data := .fields #[.ref l, .int 0 0] }).get? s.heap.objs.size
              = some (nob w) := Heap.get?_push_of_some _ hS
          exact ⟨0, Nat.le_refl 0, setR_new_at qf⟩
        case hR =>
          intro s' c' hm rb ra
          obtain ⟨h', g2, d', tk', os'⟩ := s'
          have eg : g2 = s.gens := hm.gens
          have ed : d' = s.drawn := hm.drawn
          have eo : os' = s.os := hm.os
          subst eg; subst ed; subst eo
          show wpAny _ _ _ _ _ _
          refine wpAny_pure ?_
          show wpAny _ _ (ret Value.none) _ _ _
          rw [qj] at rb
          refine wpAny_pure ⟨rfl, h', tk', c', rfl, ra, rb, fun b o e => ?_⟩
          have qu : b < s.heap.objs.size := Heap.lt_size e
          have qv : b ≠ s.heap.objs.size := Nat.ne_of_lt qu
          have qw : b ≠ (s.heap.push (nob w)).objs.size := by
            rw [Heap.size_push]; exact Nat.ne_of_lt (Nat.lt_succ_of_lt qu)
          exact hm.heap b o (by simp only [List.mem_cons, List.mem_singleton, List.not_mem_nil, or_false, not_or]; exact ⟨qv, qw⟩) (Heap.get?_push_of_some _ (Heap.get?_push_of_some _ e))

      · cases r₂ with
        | error e => exact qo
        | ok fl₂ =>
          cases fl₂ with
          | ret r =>
            obtain ⟨rfl, h', tk, c', rfl, ra, rb, rc⟩ := qo
            repeat (any_goals (first | assumption | wp_step))
            exact h _ _ _ ra rb rc
          | _ => exact qo.elim
    | _ => exact hr.elim


end
end L2
namespace L2
open PySem PySem.Spec PyProof.Rows
section
variable {X : Cx}
/-- set(l), l a list of ints -/
def rSetOfL (K : PySem.W.Frag) (w : World) : List V → Hp → VK → Prop := fun xs H Q => ∃ (a : Addr) (ns : List Int), xs = [.ref a] ∧ SqL K H a (ns.map V.int) ∧ ns.length ≤ 1000 ∧
  ∀ (p : Addr) (n : Nat), n ≤ ns.length → H p = none → Q (.ref p) (upd H p (SetO w p (fun j => decide (j ∈ ns)) n))
theorem cr_setOfL (hc : X.calm = true) : CallR X (.type "set") (rSetOfL X.K X.w) := by
  intro pins s σ H xs us Q I r h
  obtain ⟨a, ns, rfl, hq, hl, q⟩ := h
  rw [Vals.ref1 r]
  obtain ⟨its, rv, pt, hz⟩ := I.list hq
  have hi : IntsAre its.toArray.toList ns := ints_of_vals rv
  refine set_listI ns (I.ok.hd hc) pt.isList hi (by unfold scanBound; omega) fun h' tk c R1 hcn k => ?_
  exact ⟨.ref _, upd H s.heap.objs.size (SetO X.w s.heap.objs.size (fun j => decide (j ∈ ns)) c), I.laid (t' := tk) k (Nat.le_refl _) (setO_new R1), rfl, q _ _ hcn (I.hok.fresh (Nat.le_refl _))⟩
end
end L2
namespace DL
open PySem PySem.Spec PyProof.Rows L2
def D.toI : D → Option Int
  | .int i => some i
  | _ => none
def intsOf : List D → Option (List Int)
  | [] => some []
  | .int i :: r => match intsOf r with
    | some l => some (i :: l)
    | none => none
  | _ :: _ => none
theorem intsOf_eq : ∀ {ds : List D} {ns : List Int}, intsOf ds = some ns → ds = ns.map D.int
  | [], _, h => by cases h; rfl
  | .int i :: r, ns, h => by
    simp only [intsOf] at h
    cases e : intsOf r with
    | none => rw [e] at h; cases h
    | some l => rw [e] at h; cases h; rw [intsOf_eq e]; rfl
  | .non :: _, _, h | .bl _ :: _, _, h | .str _ :: _, _, h | .ty _ :: _, _, h | .ref _ :: _, _, h | .tup _ :: _, _, h | .lst _ :: _, _, h | .dT _ _ :: _, _, h | .emp :: _, _, h | .scr _ :: _, _, h => by simp [intsOf] at h
theorem intsOf_map : ∀ ns : List Int, intsOf (ns.map D.int) = some ns
  | [] => rfl
  | n :: ns => by rw [List.map_cons]; simp only [intsOf, intsOf_map ns]
section
variable {X : Cx} {W : WX} {e : Expr} {we : WE} {pos p p2 pos2 : Pos}
/-- sorted(set(l)) -/
def gSortSet : D → Sto → KD → Prop := fun d st Kn => match d with
  | .lst ds => match intsOf ds with
    | some ns => ns.length < 64 ∧ ∀ ms : List Int, ms.Pairwise (· < ·) → (∀ k, k ∈ ms ↔ k ∈ ns) → ms.length ≤ ns.length → Kn (.lst (ms.map D.int)) st
    | none => False
  | _ => False
def wSortSet (w : WE) : WE := fun env st Kn Kx => w env st (fun d st' => gSortSet d st' Kn) Kx
theorem pd_sortSet (hc : X.calm = true) (hg : Gl X "sorted") (hm : X.mg "sorted" = none) (hg2 : Gl X "set") (hm2 : X.mg "set" = none) (he : PD X W e we)
    (hs : starEach [Expr.Call (.Name "set" p2) [e] [] pos2] X.env = (false, eval (.Call (.Name "set" p2) [e] [] pos2) X.env) :: starEach [] X.env := by rfl) (hs2 : starEach [e] X.env = (false, eval e X.env) :: starEach [] X.env := by rfl) :
    PD X W (.Call (.Name "sorted" p) [.Call (.Name "set" p2) [e] [] pos2] [] pos) (wSortSet we) := by
  have h1 := pe_callTy (X := X) (p := p2) (pos := pos2) (cr_setOfL hc) hg2 hm2 PyProof.Rows.boot_set (pa_cons he pa_nil hs2) (by decide) (by decide) hs2 rfl
  have h2 := pe_callB (X := X) (p := p) (pos := pos) (cr_sortedSet hc) hg hm (by rfl) (pa_cons h1 pa_nil hs) (by decide) (by decide) hs rfl
  refine PE.imp h2 fun σ H Q ⟨G, env, st, Kn, Kx, hold, er, hw, hn, hx⟩ => ?_
  refine ⟨G, env, st, _, Kx, hold, er, hw, fun d st1 v H1 k t dn => ?_, hx⟩
  unfold gSortSet at k
  split at k
  · rename_i ds
    split at k
    · rename_i ns en
      rw [intsOf_eq en] at dn
      obtain ⟨a, xs, rfl, ha, na, r⟩ := dn_lst dn
      have e2 := r.ints_inv
      subst e2
      refine ⟨a, ns, rfl, SqL.of ha, by have := k.1; omega, fun b n hn' hb => ?_⟩
      have t1 := t.hold.laid (o := SetO X.w b (fun j => decide (j ∈ ns)) n) hb
      refine ⟨b, _, n, rfl, upd_same, by have := k.1; omega, fun ms q pw hm' hl hq => ?_⟩
      have t2 := t1.hold.laid (o := .lst (ms.map V.int)) hq
      refine hn _ _ _ _ (k.2 ms pw (fun j => by rw [hm' j, decide_eq_true_eq]) (by omega)) (t.trans (t1.trans t2)) ?_
      exact t1.hold.nlst hq (Dns.ints ms)
    · exact k.elim
  · exact k.elim
end
end DL

/-! enumerate over a tuple -/
namespace PySem
open Sem (wp)
theorem meets_enumT (l : Addr) (items : Array Value) (n : Nat) (dct : Option Addr) (sl : Array (Option Value)) :
    Meets (Builtin.«enumerate.__new__» ⟨[.type "enumerate", .ref l], []⟩) (fun _ R s => s.heap.get? l = some { cls := .type "tuple", dict := dct, data := .seq items n, slots := sl } ∧
      R (.ok (.ret (.ref (s.heap.push { cls := .type "tuple_iterator", data := .fields #[.ref l, .int 0 0] }).objs.size)))
        { s with heap := (s.heap.push { cls := .type "tuple_iterator", data := .fields #[.ref l, .int 0 0] }).push { cls := .type "enumerate", data := .fields #[.none, .bool false, .ref s.heap.objs.size, rawInt 0, .none, .none] } }) :=
  .of_wp fun prog w A R s h => by
    obtain ⟨hp, g, d, tk, os⟩ := s; obtain ⟨hl, h⟩ := h
    have q1 := sub_enumerate
    have q2 : Heap.IsTuple (Shared.heap ⟨hp, g, d, tk, os⟩) l items := ⟨_, hl, rfl, n, rfl⟩
    wp_walk using AutoSeq1.wpAny_loadPart' hl
    refine wpAny_stack_any fun st => wpAny_pure ?_
    split
    · rename_i c _ _ _ _ _
      cases (c == Value.type "enumerate") <;> (wp_walk using AutoSeq1.wpAny_loadPart' hl, wpAny_pyIter_tuple q2; exact ⟨_, rfl, h⟩)
    · wp_walk using AutoSeq1.wpAny_loadPart' hl, wpAny_pyIter_tuple q2
      exact ⟨_, rfl, h⟩
section
variable {prog : Program} {w : World} {A : Around} {E : Value → Shared → Prop} {s : Shared}
theorem call_enumT {l : Addr} {items : Array Value} {Q : Value → Shared → Prop} (hL : s.heap.IsTuple l items)
    (h : ∀ h', IsEnum h' (s.heap.objs.size + 1) s.heap.objs.size 0 .none → h'.IsTupleIter s.heap.objs.size l 0 → h'.objs.size = s.heap.objs.size + 2 →
      (∀ b o, s.heap.get? b = some o → h'.get? b = some o) → Q (.ref (s.heap.objs.size + 1)) { s with heap := h' }) :
    wpAny (model prog w) A (call (.type "enumerate") [.ref l]) Q E s := by
  obtain ⟨⟨c, dct, dt, sl⟩, hl, hc, n, hd⟩ := hL
  replace hc : c = .type "tuple" := hc
  replace hd : dt = .seq items n := hd
  subst hc hd
  refine callType_new F.called_enumerate (by decide) (F.typeCall_enumerate_1 _) (F.newCall_enumerate_1 _) (fun obj => F.args_object_init_2 obj _) F.entry_enumerate_new (meets_enumT l items n dct sl) ⟨hl, ?_⟩
  have hz : (s.heap.push { cls := .type "tuple_iterator", data := .fields #[.ref l, .int 0 0] }).objs.size = s.heap.objs.size + 1 := Heap.size_push ..
  show _ ∧ _
  rw [hz]
  have he : IsEnum ((s.heap.push { cls := .type "tuple_iterator", data := .fields #[.ref l, .int 0 0] }).push
      { cls := .type "enumerate", data := .fields #[.none, .bool false, .ref s.heap.objs.size, rawInt 0, .none, .none] }) (s.heap.objs.size + 1) s.heap.objs.size 0 .none := by
    have q := Heap.get?_push_size (s.heap.push { cls := .type "tuple_iterator", data := .fields #[.ref l, .int 0 0] }) (o := { cls := .type "enumerate", data := .fields #[.none, .bool false, .ref s.heap.objs.size, rawInt 0, .none, .none] }) rfl
    rw [hz] at q; exact q
  exact ⟨⟨_, he, rfl⟩, h _ he ⟨_, Heap.get?_push_of_some _ (Heap.get?_push_size _ rfl), rfl, rfl⟩ (by rw [Heap.size_push, hz]) fun b o x => Heap.get?_push_of_some _ (Heap.get?_push_of_some _ x)⟩
end
end PySem
namespace L2
open PySem PySem.Spec PyProof.Rows
def IteT (K : PySem.W.Frag) (a : Addr) : It :=
  ⟨fun i H => ∃ (xs : List V) (x : V), SqT K H a xs ∧ xs[i]? = some x, fun i H v H' => ∃ T x, v = .ref T ∧ H T = none ∧ H' = upd H T (.tup [.int (i : Nat), x]) ∧ ∀ xs, SqT K H a xs → xs[i]? = some x, fun i H => ∃ xs : List V, SqT K H a xs ∧ xs.length = i⟩
theorem turn_enumT {P : Program} {w : World} {K : PySem.W.Frag} {elts : List Expr} {kk : Nat} {tpos : Pos} (a e it : Addr) (hai : a ≠ it) (hae : a ≠ e) :
    Turn P w K (.Tuple elts kk tpos) (IteT K a) [e, it] e (fun i h => (∃ old, IsEnum h e it ((i : Nat) : Int) old) ∧ h.IsTupleIter it a i ∧ e ≠ it) where
  mem := by simp
  obj := fun i h st b hb => by
    obtain ⟨⟨old, he⟩, ⟨o, ho, hc, hd⟩, _⟩ := st
    rcases (show b = e ∨ b = it by simpa using hb) with z | z
    · rw [z]; exact ⟨_, he, fun v q => nomatch q⟩
    · rw [z]; exact ⟨o, ho, fun v q => by rw [hd] at q; cases q⟩
  keep := fun i h h' st k => let ⟨⟨old, he⟩, hi, hne⟩ := st; ⟨⟨old, k e (by simp) _ he⟩, hi.at fun o q => k it (by simp) o q, hne⟩
  item := by
    intro X hP hw hK hc i pins s σ H E I hf st hg
    subst hP hw hK
    obtain ⟨⟨old, he⟩, hit, hne⟩ := st
    obtain ⟨xs, x, hq, hx⟩ := hg
    obtain ⟨its, rv, p, hz⟩ := I.tuple hq
    obtain ⟨u, hu, ru⟩ := rv.get hx
    have hel : e < s.heap.objs.size := Heap.lt_size he
    have hil : it < s.heap.objs.size := by obtain ⟨_, q, _⟩ := hit; exact Heap.lt_size q
    have hlt : i < its.toArray.size := by
      have q := (List.getElem?_eq_some_iff.mp hu).1
      simpa using q
    refine wpAny_pyNext_enum_itemD (Draws.tuple (by simp [I.ok.hd hc]) it a hai its.toArray) he ⟨hit, (show s.heap.IsTuple a its.toArray from p)⟩ hlt hne (by simp [hne, Ne.symm hae]) fun u' h' tk hP ho hst hT hsz hk => ?_
    obtain ⟨hit', _⟩ := hst
    have eu : u' = u := by
      have q : its[i]? = some u' := by simpa using hP
      rw [hu] at q; exact (Option.some.inj q).symm
    subst eu
    refine ⟨_, rfl, wpAny_letOwnedTupleGo_enum (s := { s with heap := h', toks := tk + 1 }) ho fun h'' he' sb => ?_⟩
    have hT2 : h''.get? s.heap.objs.size = some { cls := .type "tuple", data := .seq #[.int i tk, u'] } := (sb.2 _ (Nat.ne_of_gt hel)).trans hT
    have new : ObjOk X.prog X.w (upd H s.heap.objs.size (.tup [.int (i : Nat), x])) h'' s.heap.objs.size (.tup [.int (i : Nat), x]) :=
      ⟨by show 2 ≤ sizeLine; decide, [.int i tk, u'], .cons ⟨_, rfl⟩ (.cons ru .nil), ⟨_, hT2, rfl, _, rfl⟩⟩
    have I1 : Inv X pins σ (upd H s.heap.objs.size (.tup [.int (i : Nat), x])) { s with heap := h'', toks := tk + 1 } :=
      I.turnedNew (ch := [e, it]) (fun b ob hb q => (sb.2 b (fun z => hb (by simp [z]))).trans (hk b ob (fun z => hb (by simp [z])) (fun z => hb (by simp [z])) q)) hf (Nat.le_refl _) new
    refine ⟨.ref s.heap.objs.size, _, I1, rfl, ⟨_, x, rfl, I.hok.fresh (Nat.le_refl _), rfl, fun ys hy => ?_⟩, ⟨⟨u', ?_⟩, hit'.at fun o q => (sb.2 it (Ne.symm hne)).trans q, hne⟩, fun b hb => ?_⟩
    · have e2 : ys = xs := by
        rcases hy with hy | hy <;> rcases hq with hq | hq
        all_goals (first | (rw [hy] at hq; cases hq; rfl) | skip)
        all_goals exact I.tuple_inj (by first | exact .inl hy | exact .inr hy) (by first | exact .inl hq | exact .inr hq)
      rw [e2]; exact hx
    · rw [show ((i + 1 : Nat) : Int) = (i : Int) + 1 by omega]; exact he'
    · have hb' : b < s.heap.objs.size := by
        rcases (show b = e ∨ b = it by simpa using hb) with z | z <;> rw [z] <;> assumption
      rw [upd_ne (Nat.ne_of_lt hb')]
      exact (hf b hb).1
  done := by
    intro X hP hw hK hc i pins s σ H E I hf st hg
    subst hP hw hK
    obtain ⟨⟨old, he⟩, hit, hne⟩ := st
    obtain ⟨xs, hq, hx⟩ := hg
    obtain ⟨its, rv, p, hz⟩ := I.tuple hq
    obtain ⟨f0, f1, f2, f3, f4, f5⟩ := hf it (by simp)
    have hl : i = its.toArray.size := by
      have q := rv.length
      simp; omega
    subst hl
    exact wpAny_pyNext_enum_endD (Draws.tuple (by simp [I.ok.hd hc]) it a hai its.toArray) he ⟨hit, (show s.heap.IsTuple a its.toArray from p)⟩ fun h' eb => ⟨rfl, I.turned (t' := s.toks) (fun b o hb q => eb b o hb q) f0 f1 f3 f4 f5⟩
  self := fun A i s Q E st h => let ⟨⟨_, he⟩, _⟩ := st; wpAny_pyIter_enum he h
def iEnumT (K : PySem.W.Frag) (ta : TA) : TI := fun σ H R => ta σ H fun vs H1 => ∃ a xs, vs = [.ref a] ∧ ((SqT K H1 a xs ∧ R (IteT K a) H1) ∨ (SqL K H1 a xs ∧ R (Ite K a) H1))
theorem pi_enumT {X : Cx} {e : Expr} {ta : TA} {p pos tpos : Pos} {elts : List Expr} {kk : Nat} (hg : Gl X "enumerate") (hm : X.mg "enumerate" = none) (ha : PA X [e] ta) (hs : starEach [e] X.env = [(false, eval e X.env)] := by rfl) :
    PI X (.Tuple elts kk tpos) (.Call (.Name "enumerate" p) [e] [] pos) (iEnumT X.K ta) := by
  refine ⟨fun pins s σ H R I h => ?_⟩
  refine Call_ (ld_blt I hg hm boot_enumerate (PyProof.Rows.callWith_type1 (thn (ha.run pos pins s σ H _ I h) fun us s1 ⟨vs, H1, I1, r1, q1⟩ => ?_) hs rfl))
  obtain ⟨a, xs, ex, q⟩ := q1
  subst ex
  cases r1 with
  | cons r rr =>
    cases rr
    cases r
    have own : ∀ b, b ∈ [s1.heap.objs.size + 1, s1.heap.objs.size] → s1.heap.objs.size ≤ b := fun b hb => by
      rcases (show b = s1.heap.objs.size + 1 ∨ b = s1.heap.objs.size by simpa using hb) with z | z
      · rw [z]; exact Nat.le_add_right _ _
      · rw [z]; exact Nat.le_refl _
    rcases q with ⟨hq, q⟩ | ⟨hq, q⟩
    · obtain ⟨its, rv, pt, hz⟩ := I1.tuple hq
      have hlt : a < s1.heap.objs.size := by obtain ⟨o, ho, _⟩ := (show s1.heap.IsTuple a its.toArray from pt); exact Heap.lt_size ho
      refine call_enumT (show s1.heap.IsTuple a its.toArray from pt) fun h' he hit hsz hk => wpAny_pyIter_enum he ?_
      have I2 : Inv X pins σ H1 { s1 with heap := h' } := I1.kept (t' := s1.toks) hk
      exact ⟨s1.heap.objs.size + 1, [s1.heap.objs.size + 1, s1.heap.objs.size], _, _, H1, rfl, I2, turn_enumT a (s1.heap.objs.size + 1) s1.heap.objs.size (Nat.ne_of_lt hlt) (Nat.ne_of_lt (Nat.lt_succ_of_lt hlt)), ⟨⟨.none, he⟩, hit, Nat.succ_ne_self _⟩, fun b hb => I1.fpOk (own b hb) (I1.hok.fresh (own b hb)), q⟩
    · obtain ⟨its, rv, p', hz⟩ := I1.list hq
      refine call_enumerate_list p'.isList fun h' he hit hsz hk => wpAny_pyIter_enum he ?_
      have I2 : Inv X pins σ H1 { s1 with heap := h' } := I1.kept (t' := s1.toks) hk
      exact ⟨s1.heap.objs.size + 1, [s1.heap.objs.size + 1, s1.heap.objs.size], _, _, H1, rfl, I2, turn_enum a (s1.heap.objs.size + 1) s1.heap.objs.size, ⟨⟨.none, he⟩, hit, Nat.succ_ne_self _⟩, fun b hb => I1.fpOk (own b hb) (I1.hok.fresh (own b hb)), q⟩
end L2
namespace DL
open PySem PySem.Spec PyProof.Rows L2
/-! ### any iterator over data -/
/-- J gives the things ds, one by one, whatever is laid or changed in sight of F meanwhile -/
structure ItD (J : It) (F : Addr → Prop) (H1 : Hp) (ds : List D) : Prop where
  go : ∀ i H' F', Le F F' H1 H' → i < ds.length → J.go i H'
  stop : ∀ H' F', Le F F' H1 H' → J.stop ds.length H'
  yld : ∀ i x H' H'' F', Le F F' H1 H' → (h : i < ds.length) → J.yld i H' x H'' → (H'' = H' ∧ Dn F' H' ds[i] x) ∨ ∃ p o, H' p = none ∧ H'' = upd H' p o ∧ (¬ F' p → Dn F' H'' ds[i] x)
section
variable {X : Cx} {W : WX} {e a b c tg iter elt : Expr} {es ifs : List Expr} {pos p : Pos} {wa wb wc we wi : WE} {ws : WA} {sts : List Stmt} {w : WS} {g : WG}
theorem lf_forJ {J : It} {G : Addr → Prop} {ds : List D} {env : DEnv} {st st1 : Sto} {DD : DEnds} {Ed : Ends} {σ : L2.St} {H H1 : Hp} (hJ : ItD J (On G st1) H1 ds) (t : To G H st H1 st1) (er : EnvR (On G st1) H1 env σ) (k : forL g w DD ds env st1)
    (h1 : ∀ env' st' σ' H', DD.nx env' st' → To G H st H' st' → EnvR (On G st') H' env' σ' → Ed.nx σ' H')
    (h2 : ∀ d st' v H', DD.rt d st' → To G H st H' st' → Dn (On G st') H' d v → Ed.rt v H')
    (h5 : ∀ x env' st' cls dd σ' H', DD.ex x env' st' → To G H st H' st' → EnvR (On G st') H' env' σ' → XRel (On G st') H' x cls dd → W cls dd σ' H') :
    ∃ Wt : Nat → Nat → L2.St → Hp → Prop, (∃ m, Wt 0 m σ H1) ∧ ∀ i m σ H, Wt i m σ H →
      (J.stop i H ∧ Ed.nx σ H) ∨ (J.go i H ∧ ∃ N : L2.St → Hp → Prop, (∀ σ' H', N σ' H' → ∃ m', m' < m ∧ Wt (i + 1) m' σ' H') ∧ ∀ x H', J.yld i H x H' → lfG W g x σ H' fun σ2 H2 => lfS W w { Ed with nx := N, ct := N, bk := Ed.nx } σ2 H2) := by
  refine ⟨fun i m σ' H' => m = ds.length - i ∧ i ≤ ds.length ∧ ∃ env' st', To G H1 st1 H' st' ∧ EnvR (On G st') H' env' σ' ∧ forL g w DD (ds.drop i) env' st', ⟨ds.length, by simp, Nat.zero_le _, env, st1, To.refl t.hold, er, k⟩, ?_⟩
  rintro i m σ' H' ⟨rfl, hi, env', st', t', e', k'⟩
  by_cases hlt : i < ds.length
  · refine .inr ⟨hJ.go i H' _ t'.le.g hlt, fun σ2 H2 => ∃ env' st', To G H1 st1 H2 st' ∧ EnvR (On G st') H2 env' σ2 ∧ forL g w DD (ds.drop (i + 1)) env' st', fun σ2 H2 q => ⟨ds.length - (i + 1), by omega, rfl, hlt, q⟩, fun x H'' y => ?_⟩
    rw [drop_at hlt] at k'
    rcases hJ.yld i x H' H'' _ t'.le.g hlt y with ⟨rfl, dn⟩ | ⟨q, o, hq, rfl, dn⟩
    · exact for_turn t' e' k' dn (fun env2 st2 σ2 H2 k2 t2 e2 => ⟨env2, st2, t2, e2, k2⟩) (fun _ _ _ _ k t' e => h1 _ _ _ _ k (t.trans t') e) (fun _ _ _ _ k t' e => h2 _ _ _ _ k (t.trans t') e) (fun _ _ _ _ _ _ _ k t' e x => h5 _ _ _ _ _ _ _ k (t.trans t') e x)
    · have tl := t'.hold.laid (o := o) hq
      exact for_turn (t'.trans tl) (e'.le tl.le.g) k' (dn (t'.hold.fresh hq)) (fun env2 st2 σ2 H2 k2 t2 e2 => ⟨env2, st2, t2, e2, k2⟩) (fun _ _ _ _ k t' e => h1 _ _ _ _ k (t.trans t') e) (fun _ _ _ _ k t' e => h2 _ _ _ _ k (t.trans t') e) (fun _ _ _ _ _ _ _ k t' e x => h5 _ _ _ _ _ _ _ k (t.trans t') e x)
  · have e : i = ds.length := by omega
    subst e
    rw [List.drop_length] at k'
    exact .inl ⟨hJ.stop H' _ t'.le.g, h1 _ _ _ _ k' (t.trans t') e'⟩
variable {K0 : PySem.W.Frag}
section
variable {tg : Tgt} {t : WT} {el : WE} {g : TG} {tt : TT} {vs : List Nat} {K : PySem.W.Frag}
theorem lc_turn1 {G : Addr → Prop} {env : DEnv} {Kn : List D → Sto → Prop} {σ : L2.St} {p : Addr} {H1 H : Hp} {st1 : Sto} {d : D} {ds : List D} {x : V} {N : Hp → Prop} (hp : H1 p = none) (ho : TgtOk K vs g tg) (ht : ∀ σ H Q, lfT W0 t σ H Q → tt σ H Q)
    {st : Sto} {acc : List D} {us : List V} (hold : Hold (And1 G p) H st) (le : Le st1.on st.on H1 H) (er : EnvR (On (And1 G p) st) H env (L2.wipe σ vs)) (hp' : H p = some (.lst us)) (dn : Dns (On (And1 G p) st) H acc us) (k : lcL tg t el env Kn (d :: ds) acc st) (hd : Dn (On (And1 G p) st) H d x) (hN : ∀ H', LcSt G tg t el env Kn σ vs p H1 st1 H' ds → N H') :
    g x (L2.wipe σ vs) H fun σ2 H2 => L2.wipe σ2 vs = L2.wipe σ vs ∧ tt σ2 H2 fun b H3 =>
      if b = true then lfE W0 el σ2 H3 fun y H4 => ∃ acc, H4 p = some (.lst acc) ∧ acc.length < sizeLine ∧ N (upd H4 p (.lst (acc ++ [y]))) else N H3 := by
  unfold lcL at k
  split at k
  · exact k.elim
  · rename_i env1 e1
    refine ho.go _ _ d x env env1 _ _ er hd e1 fun σ1 er1 ew => ⟨by rw [ew, wipe_wipe], ?_⟩
    refine ht _ _ _ ⟨And1 G p, env1, st, _, _, hold, er1, k, fun b st2 H3 k2 t2 => ?_, fun _ _ _ _ _ k _ _ => k⟩
    have keep : ∀ {st2 H3}, To (And1 G p) H st H3 st2 → H3 p = some (.lst us) := fun t2 => (t2.le p _ hp' (hold.gh p (.inr rfl)).2).1
    cases b with
    | true =>
      dsimp only
      rw [if_pos rfl]
      refine ⟨And1 G p, env1, st2, _, _, t2.hold, er1.le t2.le.g, k2, fun y st3 v H4 k3 t3 dy => ?_, fun _ _ _ _ _ k _ _ => k⟩
      have t4 := t2.trans t3
      refine ⟨us, keep t4, by rw [dn.length]; exact k3.1, hN _ ⟨st3, _, _, t3.hold.gwrite, ?_, (er.le t4.le.g).le le_gwrite, upd_same, Dns.le le_gwrite _ _ ((t4.dns dn).append (.cons dy .nil)), k3.2⟩⟩
      intro b u hb n
      have z := (le.trans t4.le) b u hb n
      exact ⟨by rw [upd_ne (ne_of_none hb hp)]; exact z.1, z.2⟩
    | false =>
      dsimp only
      rw [if_neg Bool.false_ne_true]
      exact hN _ ⟨st2, acc, us, t2.hold, le.trans t2.le, er.le t2.le.g, keep t2, t2.dns dn, k2⟩
end
theorem lf_lcJ {J : It} {tg : Tgt} {t : WT} {el : WE} {g : TG} {tt : TT} {G : Addr → Prop} {env : DEnv} {st1 : Sto} {Kn : KD} {σ : L2.St} {H1 : Hp} {Q : VK} {vs : List Nat} {K : PySem.W.Frag} {ds : List D} (hJ : ItD J (On G st1) H1 ds)
    (ho : TgtOk K vs g tg) (ht : ∀ σ H Q, lfT W0 t σ H Q → tt σ H Q) (hold : Hold G H1 st1) (er : EnvR (On G st1) H1 env σ) (k : lcGo ds tg t el vs env st1 Kn)
    (hn : ∀ d st' v H', Kn d st' → To G H1 st1 H' st' → Dn (On G st') H' d v → Q v H') (Dd : Addr) (hD : H1 Dd = none) :
    ∃ Wt : Nat → Nat → Hp → Prop, (∃ m, Wt 0 m (upd H1 Dd (.lst []))) ∧ ∀ i m H, Wt i m H →
      (J.stop i H ∧ Q (.ref Dd) H) ∨ (J.go i H ∧ ∃ Nx : Hp → Prop, (∀ H', Nx H' → ∃ m', m' < m ∧ Wt (i + 1) m' H') ∧ ∀ x H', J.yld i H x H' → g x (L2.wipe σ vs) H' fun σ2 H2 => L2.wipe σ2 vs = L2.wipe σ vs ∧ tt σ2 H2 fun b H3 =>
        if b = true then lfE W0 el σ2 H3 fun y H4 => ∃ acc, H4 Dd = some (.lst acc) ∧ acc.length < sizeLine ∧ Nx (upd H4 Dd (.lst (acc ++ [y]))) else Nx H3) := by
  refine ⟨fun i m H' => m = ds.length - i ∧ i ≤ ds.length ∧ LcSt G tg t el (wipeD env vs) (fun acc st' => Kn (.lst acc) st') σ vs Dd H1 st1 H' (ds.drop i), ⟨ds.length, by simp, Nat.zero_le _, lc_start hold er hD k⟩, ?_⟩
  rintro i m H' ⟨rfl, hi, s⟩
  have lg : ∀ {st' : Sto} {H' : Hp}, Le st1.on st'.on H1 H' → Le (On G st1) (On (And1 G Dd) st') H1 H' := fun le b o hb n => by
    have z := le b o hb fun y => n (.inl y)
    exact ⟨z.1, fun y => y.elim z.2 fun y => y.elim (fun y => n (.inr y)) (ne_of_none hb hD)⟩
  obtain ⟨st', acc, us, h', le, e', hp', dna, k'⟩ := id s.ex
  by_cases hlt : i < ds.length
  · refine .inr ⟨hJ.go i H' _ (lg le) hlt, fun H2 => LcSt G tg t el (wipeD env vs) (fun acc st' => Kn (.lst acc) st') σ vs Dd H1 st1 H2 (ds.drop (i + 1)), fun H2 q => ⟨ds.length - (i + 1), by omega, rfl, hlt, q⟩, fun x H'' y => ?_⟩
    rw [drop_at hlt] at s k'
    rcases hJ.yld i x H' H'' _ (lg le) hlt y with ⟨rfl, dn⟩ | ⟨q, o, hq, rfl, dn⟩
    · exact lc_turn1 hD ho ht h' le e' hp' dna k' dn fun _ z => z
    · have tl := h'.laid (o := o) hq
      exact lc_turn1 hD ho ht tl.hold (le.trans tl.le) (e'.le tl.le.g) (tl.le Dd _ hp' (h'.gh Dd (.inr rfl)).2).1 (tl.dns dna) k' (dn (h'.fresh hq)) fun _ z => z
  · have e : i = ds.length := by omega
    subst e
    rw [List.drop_length] at s
    obtain ⟨acc, st', k', t', dn⟩ := lc_end hold hD s
    exact .inl ⟨hJ.stop H' _ (lg le), hn _ _ _ _ k' t' dn⟩

/-! enumerate -/
def enumD : Nat → List D → List D
  | _, [] => []
  | i, d :: ds => .tup [.int (i : Int), d] :: enumD (i + 1) ds
theorem enumD_length : ∀ (ds : List D) (i : Nat), (enumD i ds).length = ds.length
  | [], _ => rfl
  | d :: ds, i => by unfold enumD; rw [List.length_cons, List.length_cons, enumD_length ds]
theorem enumD_at : ∀ (ds : List D) (k i : Nat) (h : i < ds.length) (h' : i < (enumD k ds).length), (enumD k ds)[i] = .tup [.int ((k + i : Nat) : Int), ds[i]]
  | d :: ds, k, 0, h, h' => by simp [enumD]
  | d :: ds, k, i + 1, h, h' => by
    have q := enumD_at ds (k + 1) i (by simpa using h) (by rw [enumD_length]; simpa using h)
    simp only [enumD, List.getElem_cons_succ]
    rw [q]; simp; omega
theorem itD_enumT {K : PySem.W.Frag} {F : Addr → Prop} {H1 : Hp} {ds : List D} {xs : List V} {a : Addr} (ha : H1 a = some (.tup xs)) (na : ¬ F a) (r : Dns F H1 ds xs) : ItD (IteT K a) F H1 (enumD 0 ds) := by
  have hl := r.length
  have hq : ∀ {H' F'}, Le F F' H1 H' → SqT K H' a xs := fun le => SqT.of (le a _ ha na).1
  refine ⟨fun i H' F' le h => ?_, fun H' F' le => ⟨xs, hq le, by rw [enumD_length]; exact hl⟩, fun i x H' H'' F' le h y => ?_⟩
  · rw [enumD_length] at h
    exact ⟨xs, xs[i]'(by omega), hq le, List.getElem?_eq_getElem _⟩
  · obtain ⟨T, v, rfl, hT, rfl, hv⟩ := y
    have h' : i < ds.length := by rw [enumD_length] at h; exact h
    have hx := hv xs (hq le)
    obtain ⟨u, e1, e2⟩ := r.get (List.getElem?_eq_getElem h')
    rw [hx] at e1; cases e1
    refine .inr ⟨T, _, hT, rfl, fun nT => ?_⟩
    rw [enumD_at ds 0 i h' h, Nat.zero_add]
    have dx := Dn.le le _ _ e2
    exact mk_tup upd_same nT (Dns.le (le_laid hT) _ _ (.cons mk_int (.cons dx .nil)))
theorem itD_enumL {K : PySem.W.Frag} {F : Addr → Prop} {H1 : Hp} {ds : List D} {xs : List V} {a : Addr} {o : HO} (ha : H1 a = some o) (ho : ∀ H', H' a = some o → SqL K H' a xs) (inj : ∀ H', H' a = some o → ∀ ys, SqL K H' a ys → True) (na : ¬ F a) (r : Dns F H1 ds xs) : ItD (Ite K a) F H1 (enumD 0 ds) := by
  have hl := r.length
  have hq : ∀ {H' F'}, Le F F' H1 H' → SqL K H' a xs := fun le => ho _ (le a _ ha na).1
  refine ⟨fun i H' F' le h => ?_, fun H' F' le => ⟨xs, hq le, by rw [enumD_length]; exact Nat.le_of_eq hl⟩, fun i x H' H'' F' le h y => ?_⟩
  · rw [enumD_length] at h
    exact ⟨xs, xs[i]'(by omega), hq le, List.getElem?_eq_getElem _⟩
  · obtain ⟨T, v, rfl, hT, rfl, hv⟩ := y
    have h' : i < ds.length := by rw [enumD_length] at h; exact h
    have hx := hv xs (hq le)
    obtain ⟨u, e1, e2⟩ := r.get (List.getElem?_eq_getElem h')
    rw [hx] at e1; cases e1
    refine .inr ⟨T, _, hT, rfl, fun nT => ?_⟩
    rw [enumD_at ds 0 i h' h, Nat.zero_add]
    have dx := Dn.le le _ _ e2
    exact mk_tup upd_same nT (Dns.le (le_laid hT) _ _ (.cons mk_int (.cons dx .nil)))
/-- what enumerate is given -/
def enumOf : List D → Option (List D)
  | [.tup ds] => some (enumD 0 ds)
  | [.lst ds] => some (enumD 0 ds)
  | _ => none
theorem enumOf_it {K : PySem.W.Frag} {F : Addr → Prop} {H1 : Hp} {ds es : List D} {vs : List V} (h : enumOf ds = some es) (dn : Dns F H1 ds vs) : ∃ a xs, vs = [.ref a] ∧ ((SqT K H1 a xs ∧ ItD (IteT K a) F H1 es) ∨ (SqL K H1 a xs ∧ ItD (Ite K a) F H1 es)) := by
  unfold enumOf at h
  split at h
  · cases h
    obtain ⟨v, r, rfl, d1, dn⟩ := dn.inv
    cases dn.nil_inv
    obtain ⟨a, xs, rfl, ha, na, r⟩ := dn_tup d1
    exact ⟨a, xs, rfl, .inl ⟨SqT.of ha, itD_enumT ha na r⟩⟩
  · cases h
    obtain ⟨v, r, rfl, d1, dn⟩ := dn.inv
    cases dn.nil_inv
    obtain ⟨a, xs, rfl, ha, na, r⟩ := dn_lst d1
    exact ⟨a, xs, rfl, .inr ⟨SqL.of ha, itD_enumL ha (fun _ e => SqL.of e) (fun _ _ _ _ => trivial) na r⟩⟩
  · cases h
def wForE (wi : WA) (g : WG) (b : WS) : WS := fun D env st => wi env st (fun ds st' => match enumOf ds with
  | some es => forL g b D es env st'
  | none => False) fun x st' => D.ex x env st'
theorem pds_forE {elts : List Expr} {kk : Nat} {tpos ep : Pos} (hp : PassesOwn (model X.prog X.w) X.A X.env X.xe) (hc : X.calm = true) (hgr : Gl X "enumerate") (hm : X.mg "enumerate" = none) (ha : PDA X W [a] ws) (hg : PDG X W (.Tuple elts kk tpos) g) (hb : PDSs X W sts w) (hs : starEach [a] X.env = [(false, eval a X.env)] := by rfl)
    (hfs : ∀ x, foldedSetIterable (.Call (.Name "enumerate" p) [a] [] ep) X.env x = pure x := by intro _; rfl) : PDS X W (.For (.Tuple elts kk tpos) (.Call (.Name "enumerate" p) [a] [] ep) sts [] pos) (wForE ws g w) := by
  refine PS.imp (ps_for hp hc (pi_enumT hgr hm ha hs) hg hb hfs) fun Ed σ H ⟨G, env, st, DD, hold, er, hw, h1, h2, h3, h4, h5⟩ => ⟨G, env, st, _, _, hold, er, hw, fun d st1 v H1 k t dn => ?_, lfE_s er h5⟩
  split at k
  · rename_i es ee
    obtain ⟨q, xs, rfl, z⟩ := enumOf_it (K := X.K) ee dn
    rcases z with ⟨sq, J⟩ | ⟨sq, J⟩
    · exact ⟨q, xs, rfl, .inl ⟨sq, lf_forJ J t (er.le t.le.g) k h1 h2 h5⟩⟩
    · exact ⟨q, xs, rfl, .inr ⟨sq, lf_forJ J t (er.le t.le.g) k h1 h2 h5⟩⟩
  · exact k.elim
def wLcE (wi : WA) (tg : Tgt) (t : WT) (el : WE) (vs : List Nat) : WE := fun env st Kn Kx => wi env st (fun ds st' => match enumOf ds with
  | some es => lcGo es tg t el vs env st' Kn
  | none => False) Kx
theorem lfw_lcE {tg' : Tgt} {t : WT} {el : WE} {g : TG} {tt : TT} {vs : List Nat} (ho : TgtOk X.K vs g tg') (ht : ∀ σ H Q, lfT W0 t σ H Q → tt σ H Q) : ∀ σ H Q, lfE W (wLcE ws tg' t el vs) σ H Q → tLc (iEnumT X.K (lfA W ws)) g tt (lfE W0 el) vs σ H Q := by
  refine fun σ H Q ⟨G, env, st, Kn, Kx, hold, er, hw, hn, hx⟩ => ⟨G, env, st, _, Kx, hold, er, hw, fun d st1 v H1 k t1 dn => ?_, hx⟩
  split at k
  · rename_i es ee
    obtain ⟨q, xs, rfl, z⟩ := enumOf_it (K := X.K) ee dn
    rcases z with ⟨sq, J⟩ | ⟨sq, J⟩
    · exact ⟨q, xs, rfl, .inl ⟨sq, lf_lcJ J ho ht t1.hold (er.le t1.le.g) k fun _ _ _ _ k2 t2 d2 => hn _ _ _ _ k2 (t1.trans t2) d2⟩⟩
    · exact ⟨q, xs, rfl, .inr ⟨sq, lf_lcJ J ho ht t1.hold (er.le t1.le.g) k fun _ _ _ _ k2 t2 d2 => hn _ _ _ _ k2 (t1.trans t2) d2⟩⟩
  · exact k.elim
theorem pd_lcE {scope : Scope} {own : List (Str × Nat)} {tg' : Tgt} {t : WT} {el : WE} {elts : List Expr} {kk : Nat} {tpos ep : Pos} (hc : X.calm = true) (hN : X.N.Nodup) (hgr : Gl X "enumerate") (hm : X.mg "enumerate" = none) (ha : PDA X W [a] ws) (B : LcOk X (.Tuple elts kk tpos) elt ifs scope own tg' t el)
    (hs1 : starEach [a] X.env = [(false, eval a X.env)] := by rfl) (hs : ∀ x, foldedSetIterable (.Call (.Name "enumerate" p) [a] [] ep) X.env x = pure x := by intro _; rfl) :
    PD X W (.ListComp elt [⟨.Tuple elts kk tpos, .Call (.Name "enumerate" p) [a] [] ep, ifs, 0⟩] scope pos) (wLcE ws tg' t el (own.map (·.2))) := by
  obtain ⟨g, tt, ok, ho, ht, hg, hts, he⟩ := B.ok
  exact PE.imp (pe_lc hc hN (pi_enumT hgr hm ha hs1) ok hg hts he hs) (lfw_lcE ho ht)
/-! range by a step of -1 -/
def downD (i : Int) (n : Nat) : List D := (List.range n).map fun (k : Nat) => D.int (i + (k : Int) * (-1))
theorem itD_down {F : Addr → Prop} {H1 : Hp} (i : Int) (n : Nat) : ItD (Itc i (-1) n) F H1 (downD i n) := by
  have hl : (downD i n).length = n := by unfold downD; rw [List.length_map, List.length_range]
  refine ⟨fun k H' F' le h => by rw [hl] at h; exact h, fun H' F' le => by rw [hl]; exact Nat.le_refl _, fun k x H' H'' F' le h y => ?_⟩
  obtain ⟨rfl, rfl⟩ := y
  refine .inl ⟨rfl, ?_⟩
  have e : (downD i n)[k] = .int (i + (k : Int) * (-1)) := by unfold downD; simp
  rw [e]; exact mk_int
def wForR3 (wi : WA) (g : WG) (b : WS) : WS := fun D env st => wi env st (fun ds st' => match ds with
  | [.int i, .int j, .int c] => (c = -1 ∧ -(2 ^ 62) ≤ i ∧ i < 2 ^ 62 ∧ -(2 ^ 62) ≤ j ∧ j < 2 ^ 62) ∧ forL g b D (downD i (i - j).toNat) env st'
  | _ => False) fun x st' => D.ex x env st'
theorem pds_forR3 (hp : PassesOwn (model X.prog X.w) X.A X.env X.xe) (hc : X.calm = true) (hgr : Gl X "range") (hm : X.mg "range" = none) (ha : PDA X W [a, b, c] ws) (hg : PDG X W tg g) (hb : PDSs X W sts w)
    {cp : Pos} (hs : starEach [a, b, c] X.env = (false, eval a X.env) :: starEach [b, c] X.env := by rfl) (hpl : (backTo cp (starEach [b, c] X.env)).any (·.1) = false := by rfl)
    (hfs : ∀ x, foldedSetIterable (.Call (.Name "range" p) [a, b, c] [] cp) X.env x = pure x := by intro _; rfl) : PDS X W (.For tg (.Call (.Name "range" p) [a, b, c] [] cp) sts [] pos) (wForR3 ws g w) := by
  refine PS.imp (ps_for hp hc (pi_range3 hgr hm ha hs hpl) hg hb hfs) fun Ed σ H ⟨G, env, st, DD, hold, er, hw, h1, h2, h3, h4, h5⟩ => ⟨G, env, st, _, _, hold, er, hw, fun d st1 v H1 k t dn => ?_, lfE_s er h5⟩
  split at k
  · obtain ⟨v, r, rfl, d1, dn⟩ := dn.inv
    obtain ⟨v, r, rfl, d2, dn⟩ := dn.inv
    obtain ⟨v, r, rfl, d3, dn⟩ := dn.inv
    cases dn.nil_inv
    rw [dn_int d1, dn_int d2, dn_int d3]
    obtain ⟨⟨rfl, a1, a2, a3, a4⟩, k⟩ := k
    exact ⟨_, _, _, _, rfl, RgC.neg a1 a2 a3 a4, lf_forJ (itD_down _ _) t (er.le t.le.g) k h1 h2 h5⟩
  · exact k.elim
/-! while -/
/-- a while loop: a word Pv and a measure μ -/
def wWhile (c : WT) (b : WS) : WS := fun D env st => ∃ W : Nat → DEnv → Sto → Prop, (∃ m, W m env st) ∧ ∀ m env st, W m env st →
  c env st (fun t st1 => match t with
    | true => b { D with nx := fun e s => ∃ m', m' < m ∧ W m' e s, ct := fun e s => ∃ m', m' < m ∧ W m' e s, bk := D.nx } env st1
    | false => D.nx env st1) fun x st' => D.ex x env st'
variable {tc : WT}
theorem pds_while (hp : PassesOwn (model X.prog X.w) X.A X.env X.xe) (hc : PDT X W c tc) (hb : PDSs X W sts w) : PDS X W (.While c sts [] pos) (wWhile tc w) := by
  refine PS.imp (ps_while hp hc hb) fun Ed σ H ⟨G, env, st, DD, hold, er, hw, h1, h2, h3, h4, h5⟩ => ?_
  obtain ⟨Wt, ⟨m0, w0⟩, turn⟩ := hw
  refine ⟨fun m σ' H' => ∃ env' st', To G H st H' st' ∧ EnvR (On G st') H' env' σ' ∧ Wt m env' st', ⟨m0, env, st, To.refl hold, er, w0⟩, ?_⟩
  rintro m σ' H' ⟨env', st', t, e', w'⟩
  refine ⟨G, env', st', _, _, t.hold, e', turn m env' st' w', fun b st2 H2 k t2 => ?_, fun x st2 cls dd H2 k t2 xr => h5 _ _ _ _ _ _ _ k (t.trans t2) (e'.le t2.le.g) xr⟩
  cases b with
  | true =>
    dsimp only
    rw [if_pos rfl]
    refine ⟨fun σ2 H2 => ∃ env2 st2, To G H st H2 st2 ∧ EnvR (On G st2) H2 env2 σ2 ∧ ∃ m', m' < m ∧ Wt m' env2 st2, fun σ2 H2 ⟨env2, st2, t2, e2, m', l, w2⟩ => ⟨m', l, env2, st2, t2, e2, w2⟩, ?_⟩
    exact lfS_go (H := H) (st := st) (e'.le t2.le.g) (t.trans t2) k (fun _ _ _ _ k t e => ⟨_, _, t, e, k⟩) h2 h1 (fun _ _ _ _ k t e => ⟨_, _, t, e, k⟩) h5
  | false =>
    dsimp only
    rw [if_neg Bool.false_ne_true]
    exact h1 _ _ _ _ k (t.trans t2) (e'.le t2.le.g)
/-- a statement that is never reached -/
theorem pds_never {s : Stmt} : PDS X W s (fun _ _ _ => False) := ⟨fun pins s σ H D I h => by
  obtain ⟨_, _, _, _, _, _, z, _⟩ := h
  exact z.elim⟩
theorem pd_never {e : Expr} : PD X W e (fun _ _ _ _ => False) := ⟨fun pins s σ H D I h => by
  obtain ⟨_, _, _, _, _, _, _, z, _⟩ := h
  exact z.elim⟩
end
end DL

namespace L2
open PySem PySem.Spec PyProof.Rows
section
variable {prog : Program} {w : World} {A : Around} {E : Value → Shared → Prop} {s : Shared} {K : PySem.W.Frag} {a C f : Addr} {ox : Obj} {od : Option Obj}
/-- a special method of the class's own that is a def -/
theorem special_def {name : Str} {args : List Value} {Q : Option Value → Shared → Prop} (X : K.In s.heap) (I : PySem.W.InstAt s.heap a ox C od) (hf : PySem.W.findIn K (.ref C) name = some (some (.ref f))) (ht : PySem.W.typeIn K (.ref f) = some (.type "function"))
    (hc : wpAny (model prog w) A (call (.ref f) (.ref a :: args)) (fun v s' => Q (some v) s') E s) : wpAny (model prog w) A (callSpecial? (.ref a) name args) Q E s := by
  unfold callSpecial? specialOf
  refine wpAny_bind (wpAny_bind (I.type.here ((PySem.W.looks_findIn X hf).here ?_)))
  refine wpAny_holding (wpAny_bind ((PySem.W.bind_fn X (.ref a) ht).here ?_))
  exact wpAny_bind (wpAny_mono hc (fun v s' h => wpAny_pure h) fun _ _ z => z)
theorem special_none {name : Str} {args : List Value} {Q : Option Value → Shared → Prop} (X : K.In s.heap) (I : PySem.W.InstAt s.heap a ox C od) (hf : PySem.W.findIn K (.ref C) name = some none) (h : Q none s) : wpAny (model prog w) A (callSpecial? (.ref a) name args) Q E s := by
  unfold callSpecial? specialOf
  exact wpAny_bind (wpAny_bind (I.type.here ((PySem.W.looks_findIn X hf).here (wpAny_pure h))))
/-- the body of len(x), x an instance with an own __len__ -/
theorem len_of_def {Q : Value → Shared → Prop} (X : K.In s.heap) (I : PySem.W.InstAt s.heap a ox C od) (hf : PySem.W.findIn K (.ref C) "__len__" = some (some (.ref f))) (ht : PySem.W.typeIn K (.ref f) = some (.type "function"))
    (hc : wpAny (model prog w) A (call (.ref f) [.ref a]) (fun v s' => ∃ n u, v = .int n u ∧ 0 ≤ n ∧ n < 2 ^ 63 ∧ Q (.int n s'.toks) { s' with toks := s'.toks + 1 }) E s) :
    wpAny (model prog w) A (Builtin.«len» ⟨[.ref a], []⟩) (fun fin s' => ∃ r, fin = .done (.ret r) ∧ Q r s') E s := by
  unfold Builtin.«len»
  refine wpAny_bind (m := oneArg "len" _) (wpAny_pure ?_)
  refine wpAny_bind (m := callSpecial? (.ref a) (Str.ofString "__len__")) (special_def X I hf ht (wpAny_mono hc (fun r s' hr => ?_) fun _ _ y => y))
  obtain ⟨n, u, rfl, h0, h1, hq⟩ := hr
  refine wpAny_bind (wpAny_holding (wpAny_pure (wpAny_bind (wpAny_letGo ?_))))
  show wpAny _ _ (if n < 0 then _ else _) _ _ _
  rw [if_neg (by omega)]
  show wpAny _ _ (if n ≥ 2 ^ 63 then _ else _) _ _ _
  rw [if_neg (by omega)]
  exact wpAny_bind (wpAny_mkInt (wpAny_pure ⟨_, rfl, hq⟩))
theorem truthy_of_def {Q : Bool → Shared → Prop} (X : K.In s.heap) (I : PySem.W.InstAt s.heap a ox C od) (hb : PySem.W.findIn K (.ref C) "__bool__" = some none) (hf : PySem.W.findIn K (.ref C) "__len__" = some (some (.ref f))) (ht : PySem.W.typeIn K (.ref f) = some (.type "function"))
    (hc : wpAny (model prog w) A.in1 (call (.ref f) [.ref a]) (fun v s' => ∃ n u, v = .int n u ∧ 0 ≤ n ∧ n < 2 ^ 63 ∧ Q (n != 0) { s' with toks := s'.toks + 1 }) E s) :
    wpAny (model prog w) A (truthy (.ref a)) Q E s := by
  have key : wpAny (model prog w) A (runValue (.builtin "len" ⟨[.ref a], []⟩)) (fun r s' => ∃ n u, r = .int n u ∧ Q (n != 0) s') E s := by
    refine wpAny_runValue (codeAny_builtin entry_len ?_)
    rw [Around.under_plainId plain_len _]
    refine wpAny_mono (len_of_def (Q := fun r s' => ∃ n u, r = .int n u ∧ Q (n != 0) s') X I hf ht (wpAny_mono hc (fun v s' h => ?_) fun _ _ y => y)) (fun fin s' h' => by obtain ⟨r, rfl, hq⟩ := h'; exact hq) fun _ _ e => e
    obtain ⟨n, u, e, h0, h1, q⟩ := h
    exact ⟨n, u, e, h0, h1, n, _, rfl, q⟩
  have hsp : ∀ {Q' : Option Value → Shared → Prop}, Q' (some (.ref f)) s → wpAny (model prog w) A (specialOf (.ref a) "__len__") Q' E s := fun q => by
    unfold specialOf
    exact wpAny_bind (I.type.here ((PySem.W.looks_findIn X hf).here q))
  have fin : ∀ (r : Value) (s' : Shared), (∃ n u, r = .int n u ∧ Q (n != 0) s') → wpAny (model prog w) A (match r with
      | .int n _ => pure (n != 0)
      | _ => unsupported "internal:truth.len") Q E s' := fun r s' h => by
    obtain ⟨n, u, rfl, q⟩ := h
    exact wpAny_pure q
  unfold truthy
  first
    | refine wpAny_bind (special_none (name := Str.ofString "__bool__") X I hb ?_)
    | refine wpAny_bind (wpAny_pure (wpAny_bind (special_none (name := Str.ofString "__bool__") X I hb ?_)))
  first
    | refine wpAny_bind (hsp ?_)
    | refine wpAny_bind (wpAny_pure (wpAny_bind (hsp ?_)))
  first
    | exact wpAny_bind (wpAny_mono key (fun r s' h' => fin r s' h') fun _ _ e => e)
    | exact wpAny_bind (wpAny_pure (wpAny_bind (wpAny_mono key (fun r s' h' => fin r s' h') fun _ _ e => e)))
end
/-- o.f = .. as a target among others -/
def gFld (K : PySem.W.Frag) (f : Str) (to : TE) : TG := fun v σ H Q => to σ H fun x H1 => ∃ a C dx fs, x = .ref a ∧ H1 a = some (.ins C dx fs) ∧ Cls K C ∧ NoAttr K C f ∧ fs.length < 1000 ∧ Q σ (upd H1 a (.ins C dx (putF f v fs)))
theorem pg_fld {X : Cx} {o : Expr} {to : TE} {f : Str} {pos : Pos} (ho : PE X o to)
    (ha : ∀ v, assign (.Attribute o f pos) X.env v = (do
      let ov ← holding [v] (eval o X.env)
      standAt pos.atName
      holding [v, ov] (setAttr ov f v)
      release [v, ov] []) := by intro _; rfl) : PG X (.Attribute o f pos) (gFld X.K f to) := by
  refine ⟨fun pins s σ H v u Q I r h => ?_⟩
  rw [ha]
  refine wpAny_bind (wpAny_holding (thn (ho.run pins s σ H _ I h) fun ov s1 ⟨x, H1, I1, r1, a, C, dx, fs, ex, ea, c, n, l, q⟩ => ?_))
  subst ex
  obtain rfl : ov = Value.ref a := r1
  refine wpAny_bind (wpAny_standAt (wpAny_bind (wpAny_holding (setattr_ok I1 ea c n l r fun s2 I2 => ?_))))
  exact wpAny_release ⟨σ, _, I2, q⟩
end L2
namespace DL
open PySem PySem.Spec PyProof.Rows L2
section
variable {X : Cx} {W : WX} {k : Nat} {f C : Addr} {fd : FuncData} {ps : List Str} {wf : WF} {x m : Str} {p pos apos : Pos} {e o : Expr} {es : List Expr} {we wo : WE} {ws : WA}
/-! attribute targets -/
def dgFld (K : PySem.W.Frag) (f : Str) (wo : WE) : WG := fun d env st Kn Kx => wo env st (fun o st2 => match o with
  | .ref a => match st2.lookup a with
    | some (.ins C fs) => ((Cls K C ∧ NoAttr K C f) ∧ fs.length < 1000) ∧ Kn env (st2.put a (.ins C (putD f d fs)))
    | _ => False
  | _ => False) fun x st' => Kx x env st'
theorem pdg_fld {f : Str} (ho : PD X W o wo)
    (ha : ∀ v, assign (.Attribute o f pos) X.env v = (do
      let ov ← holding [v] (eval o X.env)
      standAt pos.atName
      holding [v, ov] (setAttr ov f v)
      release [v, ov] []) := by intro _; rfl) : PDG X W (.Attribute o f pos) (dgFld X.K f wo) :=
  PG.imp (pg_fld ho ha) fun v σ H Q ⟨G, d, env, st, Kn, Kx, hold, er, dn, hw, h1, h2⟩ => ⟨G, env, st, _, _, hold, er, hw, fun d0 st2 u H2 k t d2 => by
    split at k
    · rename_i a
      split at k
      · rename_i C fs l
        obtain ⟨⟨⟨c1, c2⟩, hl⟩, k⟩ := k
        obtain ⟨dx, vs, ha, hf⟩ := t.hold.at l
        have tw := t.hold.write (o := .ins C dx (putF f v vs)) (on_of l) (c := .ins C (putD f d fs)) ⟨dx, _, upd_same, (hf.put (t.dn dn)).le (by have q := (le_write (H := H2) (o := .ins C dx (putF f v vs)) (c := .ins C (putD f d fs)) (on_of l)).g (G := G); rw [put_On] at q; exact q)⟩
        exact ⟨a, C, dx, vs, dn_ref d2, ha, c1, c2, by rw [hf.length]; exact hl, h1 _ _ _ _ k (t.trans tw) (er.le (t.trans tw).le.g)⟩
      · exact k.elim
    · exact k.elim, fun x st1 cls dd H1 k1 t1 xr => h2 _ _ _ _ _ _ _ k1 t1 (er.le t1.le.g) xr⟩
/-! a starred item -/
def wStar (w : WE) (ws : WA) : WA := fun env st Kn Kx => w env st (fun d st1 => match d with
  | .tup ds => ws env st1 (fun es st2 => Kn (ds ++ es) st2) Kx
  | .lst ds => ws env st1 (fun es st2 => Kn (ds ++ es) st2) Kx
  | _ => False) Kx
theorem pda_star (h : PD X W e we) (r : PDA X W es ws) (hs : starEach (.Starred e p :: es) X.env = (true, eval e X.env) :: starEach es X.env := by rfl) : PDA X W (.Starred e p :: es) (wStar we ws) :=
  PA.imp (StX.pa_star h r hs) fun σ H Q ⟨G, env, st, Kn, Kx, hold, er, hw, hn, hx⟩ => ⟨G, env, st, _, Kx, hold, er, hw, fun d st1 v H1 k1 t1 d1 => by
    split at k1
    · obtain ⟨a, xs, rfl, ha, na, r⟩ := dn_tup d1
      exact ⟨a, xs, rfl, .inl (SqT.of ha), G, env, st1, _, Kx, t1.hold, er.le t1.le.g, k1, fun ds st2 vs H2 k2 t2 d2 => hn _ _ _ _ k2 (t1.trans t2) ((t2.dns r).append d2), fun _ _ _ _ _ k2 t2 xr => hx _ _ _ _ _ k2 (t1.trans t2) xr⟩
    · obtain ⟨a, xs, rfl, ha, na, r⟩ := dn_lst d1
      exact ⟨a, xs, rfl, .inr (SqL.of ha), G, env, st1, _, Kx, t1.hold, er.le t1.le.g, k1, fun ds st2 vs H2 k2 t2 d2 => hn _ _ _ _ k2 (t1.trans t2) ((t2.dns r).append d2), fun _ _ _ _ _ k2 t2 xr => hx _ _ _ _ _ k2 (t1.trans t2) xr⟩
    · exact k1.elim, hx⟩
/-! len(x) and the truth of x by an own __len__ -/
structure LenC (K : PySem.W.Frag) (C f : Addr) : Prop where
  len : PySem.W.findIn K (.ref C) "__len__" = some (some (.ref f))
  fn : PySem.W.typeIn K (.ref f) = some (.type "function")
  nob : PySem.W.findIn K (.ref C) "__bool__" = some none
theorem run_lenD {A : Around} {pins : List (Addr × Obj)} {σ : L2.St} {H : Hp} {s : Shared} {a : Addr} {sp : Sp} {R : Value → Shared → Prop} {Q : VK} (F : FnOk X.prog X.w X.K X.mg X.base (L2.CX X.prog X.w) k f fd ps sp) (hr : Room k A) (hA : A.frames = X.A.frames) (tk : Takes X W) (I : Inv X pins σ H s) (hb : Binds X.K fd ps [])
    (h : sp [.ref a] H Q (L2.WE W σ)) (hR : ∀ v u H' s', Inv X pins σ H' s' → RelV v u → Q v H' → R u s') : wpAny (model X.prog X.w) A (call (.ref f) [.ref a]) R X.xe s := by
  have e0 : Env0 X.prog X.w X.K X.mg X.base A X.stack s H := by
    have e := I.env0
    exact ⟨by rw [hA]; exact e.frames, e.mod, e.bs, e.bsz, e.funs, e.frf, e.hok, e.bare⟩
  have hl := F.len _ _ _ _ h
  have b := hb s [.ref a] I.kIn (by rw [List.append_nil]; exact hl)
  rw [List.append_nil] at b
  refine wpAny_call (codeAny_mono (F.run A X.stack s H ⟨[.ref a], []⟩ [.ref a] [.ref a] Q (L2.WE W σ) hr e0 b (.cons rfl .nil) h) fun r s' hq => ?_)
  cases r with
  | error e => exact passAt tk σ pins H s e s' I hq
  | ok fl =>
    cases fl with
    | ret u =>
      obtain ⟨v, H', I', rv, q⟩ := I.after hq
      exact hR _ _ _ _ I' rv q
    | next => exact False.elim hq
    | brk => exact False.elim hq
    | cont => exact False.elim hq
def wLenO (C : Addr) (wf : WF) (ws : WA) : WE := fun env st Kn Kx => ws env st (fun ds st1 => match ds with
  | [.ref a] => match st1.lookup a with
    | some (.ins C' _) => C' = C ∧ wf [.ref a] st1 (fun r st2 => match r with
      | .int n => (0 ≤ n ∧ n < 2 ^ 63) ∧ Kn (.int n) st2
      | _ => False) Kx
    | _ => False
  | _ => False) Kx
def wTruO (C : Addr) (wf : WF) (w : WE) : WT := fun env st Kn Kx => w env st (fun d st1 => match d with
  | .ref a => match st1.lookup a with
    | some (.ins C' _) => C' = C ∧ wf [.ref a] st1 (fun r st2 => match r with
      | .int n => (0 ≤ n ∧ n < 2 ^ 63) ∧ Kn (n != 0) st2
      | _ => False) Kx
    | _ => False
  | _ => False) Kx
theorem pd_lenO (L : LenC X.K C f) (F : FnD X.prog X.w X.K X.mg X.base k f fd ps wf) (hl1 : ps.length = 1) (hr : Room (k + 1) X.A) (tk : Takes X W) (hb : Binds X.K fd ps []) (hg : Gl X "len") (hm : X.mg "len" = none) (ha : PDA X W [e] ws) (hs : starEach [e] X.env = (false, eval e X.env) :: starEach [] X.env := by rfl) :
    PD X W (.Call (.Name "len" p) [e] [] pos) (wLenO C wf ws) := by
  refine ⟨fun pins s σ H Q I ⟨G, env, st, Kn, Kx, hold, er, hw, hn, hx⟩ => ?_⟩
  refine wpAny_Call_Name_kw (ld_blt I hg hm (by rfl : bootBuiltins "len" = some (.builtin "len")) ?_ (by decide) (by decide))
  have hA : wpAny (model X.prog X.w) X.A (spliced (backTo pos (starEach [e] X.env))) (AP X pins σ fun vs H1 => ∃ a dx fs, vs = [.ref a] ∧ H1 a = some (.ins C dx fs) ∧ liftSp ps.length wf [.ref a] H1 (fun v H' => ∃ n : Int, v = .int n ∧ 0 ≤ n ∧ n < 2 ^ 63 ∧ Q (.int n) H') (L2.WE W σ)) X.xe s :=
    ha.run pos pins s σ H _ I ⟨G, env, st, _, Kx, hold, er, hw, fun ds st1 vs H1 kk t dn => by
      split at kk
      · rename_i a
        obtain ⟨v, r, rfl, d1, dn⟩ := dn.inv
        cases dn.nil_inv
        split at kk
        · rename_i C' fs l
          obtain ⟨rfl, kk⟩ := kk
          obtain ⟨dx, vs, ha, hf⟩ := t.hold.at l
          refine ⟨a, dx, vs, by rw [dn_ref d1], ha, G, [.ref a], st1, _, Kx, t.hold, .cons mk_ref .nil, hl1.symm, kk, fun d st2 v H2 k2 t2 d2 => ?_, fun _ _ _ _ _ k2 t2 x2 => hx _ _ _ _ _ k2 (t.trans t2) x2⟩
          split at k2
          · exact ⟨_, dn_int d2, k2.1.1, k2.1.2, hn _ _ _ _ k2.2 (t.trans t2) mk_int⟩
          · exact k2.elim
        · exact kk.elim
      · exact kk.elim, hx⟩
  refine PyProof.Rows.callWith_builtin1 (thn hA fun us s1 ⟨vs, H1, I1, r1, a, dx, fs, ev, ha1, q⟩ => ?_) hs rfl
  subst ev
  rw [Vals.ref1 r1]
  obtain ⟨mA, O, _⟩ := ins_get I1.hok ha1
  obtain ⟨od, J, _⟩ := O.look
  refine Calls.call_function_entry kind_len plain_len entry_len (args_len1 _) ?_
  refine len_of_def I1.kIn J L.len L.fn (run_lenD F hr.in1 rfl tk I1 hb q fun v u H' s' I' rv ⟨n, ev, h0, h1, q2⟩ => ?_)
  subst ev
  obtain ⟨t', rfl⟩ := rv
  exact ⟨n, t', rfl, h0, h1, .int n, H', I'.tok _, ⟨_, rfl⟩, q2⟩
theorem pdt_truO (L : LenC X.K C f) (F : FnD X.prog X.w X.K X.mg X.base k f fd ps wf) (hl1 : ps.length = 1) (hr : Room (k + 1) X.A) (tk : Takes X W) (hb : Binds X.K fd ps []) (he : PD X W e we)
    (hi : ∀ whole, isTrue e X.env whole = (do let v ← whole; standAt e.pos; holding [v] (truthy v)) := by intro _; rfl) : PDT X W e (wTruO C wf we) := by
  refine ⟨fun pins s σ H Q I ⟨G, env, st, Kn, Kx, hold, er, hw, hn, hx⟩ => ?_⟩
  have hA : wpAny (model X.prog X.w) X.A (eval e X.env) (EP X pins σ fun v H1 => ∃ a dx fs, v = .ref a ∧ H1 a = some (.ins C dx fs) ∧ liftSp ps.length wf [.ref a] H1 (fun v H' => ∃ n : Int, v = .int n ∧ 0 ≤ n ∧ n < 2 ^ 63 ∧ Q (n != 0) H') (L2.WE W σ)) X.xe s :=
    he.run pins s σ H _ I ⟨G, env, st, _, Kx, hold, er, hw, fun d st1 v H1 kk t dn => by
      split at kk
      · rename_i a
        split at kk
        · rename_i C' fs l
          obtain ⟨rfl, kk⟩ := kk
          obtain ⟨dx, vs, ha, hf⟩ := t.hold.at l
          refine ⟨a, dx, vs, dn_ref dn, ha, G, [.ref a], st1, _, Kx, t.hold, .cons mk_ref .nil, hl1.symm, kk, fun d st2 v H2 k2 t2 d2 => ?_, fun _ _ _ _ _ k2 t2 x2 => hx _ _ _ _ _ k2 (t.trans t2) x2⟩
          split at k2
          · exact ⟨_, dn_int d2, k2.1.1, k2.1.2, hn _ _ _ k2.2 (t.trans t2)⟩
          · exact k2.elim
        · exact kk.elim
      · exact kk.elim, hx⟩
  refine isTrue_plain (thn hA fun v s1 ⟨y, H1, I1, r1, a, dx, fs, ev, ha1, q⟩ => ?_) (hi _)
  subst ev
  obtain rfl : v = Value.ref a := r1
  obtain ⟨mA, O, _⟩ := ins_get I1.hok ha1
  obtain ⟨od, J, _⟩ := O.look
  refine truthy_of_def I1.kIn J L.nob L.len L.fn (run_lenD F hr.in1 rfl tk I1 hb q fun v u H' s' I' rv ⟨n, ev, h0, h1, q2⟩ => ?_)
  subst ev
  obtain ⟨t', rfl⟩ := rv
  exact ⟨n, t', rfl, h0, h1, H', I'.tok _, q2⟩
/-! tuple * n, list(x), values -/
def gMulT : D → D → Sto → KD → Prop := fun x y st Kn => match x, y with
  | .tup ds, .int k => 0 ≤ k ∧ ds.length * k.toNat ≤ sizeLine ∧ Kn (.tup (List.replicate k.toNat ds).flatten) st
  | _, _ => False
end
end DL

namespace L2
open PySem PySem.Spec PyProof.Rows
theorem tuple_mul_one (l : Addr) (items : Array Value) (n : Nat) (dd : Option Addr) (sl : Array (Option Value)) (u : Tok) (hi : items.isEmpty = false) :
    Meets (Builtin.«tuple.__mul__» ⟨[.ref l, .int 1 u], []⟩) (fun _ R s => s.heap.get? l = some { cls := .type "tuple", dict := dd, data := .seq items n, slots := sl } ∧ R (.ok (.ret (Value.ref l))) s) :=
  .of_wp fun prog w A R s h => by
    obtain ⟨hp, g, d, tk, os⟩ := s
    obtain ⟨hl, h⟩ := h
    have f1 := AutoSeq1.idx_int
    wp_walk using AutoSeq1.wpAny_loadPart' hl
    exact ⟨_, rfl, h⟩
section
variable {X : Cx}
def rRepT1 (K : PySem.W.Frag) : R2 := fun x y H Q => ∃ l xs, x = .ref l ∧ y = .int 1 ∧ SqT K H l xs ∧ xs ≠ [] ∧ Q (.ref l) H
theorem op_repT1 : OpR X (binaryOp .Mult) (rRepT1 X.K) := by
  intro pins s σ H x y v u Q I rx ry h
  obtain ⟨l, xs, rfl, rfl, hT, hne, q⟩ := h
  cases rx
  obtain ⟨t, rfl⟩ := ry
  obtain ⟨its, r, ⟨⟨cls, dd, data, sl⟩, ho, hc, n, hd⟩, hs⟩ := I.tuple hT
  simp only at hc hd
  subst hc hd
  have hi : its.toArray.isEmpty = false := by
    cases its with
    | nil => exact absurd (List.eq_nil_of_length_eq_zero r.length) hne
    | cons a b => rfl
  exact wpAny_binaryOp_repeat_ref (T := "tuple") (U := "int") (by decide) ⟨_, ho, rfl⟩ (fun s' => typeIs_int s' 1 t) noFill_tuple_mul F.fills_int_mul F.slot_int_rmul repeat_tuple F.slot_int_index.lookup
    (call_meets F.slot_int_rmul (typeIs_int s 1 t) F.entry_int_rmul (F.args_int_rmul_2 _ _) (int_rmul_tuple 1 t l its.toArray n dd sl)
      ⟨ho, rfl, ⟨_, ho, rfl⟩, call_meets F.slot_tuple_mul ⟨_, ho, rfl⟩ F.entry_tuple_mul (F.args_tuple_mul_2 _ _) (tuple_mul_one l its.toArray n dd sl t hi) ⟨ho, ⟨.ref l, H, I, rfl, q⟩⟩⟩)
end
end L2
namespace DL
open PySem PySem.Spec PyProof.Rows L2
section
variable {X : Cx}
def gMulTup : D → D → Sto → KD → Prop := fun x y st Kn => match x, y with
  | .tup ds, .int k => (ds ≠ [] ∧ ds.length ≤ 1000 ∧ 1 ≤ k ∧ k ≤ 1000) ∧ Kn (.tup (List.replicate k.toNat ds).flatten) st
  | _, _ => False
theorem op_mulTup : OpR X (binaryOp .Mult) (fun x y H Q => rRepT X.K x y H Q ∨ rRepT1 X.K x y H Q) := op_repT.or op_repT1
theorem opl_mulTup : OpL (fun x y H Q => rRepT X.K x y H Q ∨ rRepT1 X.K x y H Q) gMulTup := fun G d1 d2 v1 v2 H st Kn Q h hold n1 n2 k => by
  unfold gMulTup at h
  split at h
  · obtain ⟨⟨hne, hz, h1, h2⟩, h⟩ := h
    rename_i ds j
    obtain ⟨a, xs, rfl, ha, na, r⟩ := dn_tup n1
    rw [dn_int n2]
    have hx : xs ≠ [] := fun z => hne (by subst z; exact List.eq_nil_of_length_eq_zero r.length.symm)
    by_cases e : j = 1
    · subst e
      refine .inr ⟨a, xs, rfl, rfl, SqT.of ha, hx, k _ _ _ _ h (To.refl hold) ?_⟩
      have e : (List.replicate (1 : Int).toNat ds).flatten = ds := by simp
      rw [e]; exact mk_tup ha na r
    · exact .inl ⟨a, j, xs, rfl, rfl, SqT.of ha, hx, by omega, h2, by rw [r.length]; exact hz, fun p hp => k _ _ _ _ h (hold.laid hp) (hold.ntup hp (r.rep _))⟩
  · exact h.elim
/-- list(x) -/
def gListOf : List D → Sto → KD → Prop := fun ds st Kn => match ds with
  | [.lst xs] => Kn (.lst xs) st
  | [.tup xs] => Kn (.lst xs) st
  | _ => False
theorem calll_listOf : CallL (fun xs H Q => ∃ p ys, xs = [.ref p] ∧ (SqL X.K H p ys ∨ SqT X.K H p ys) ∧ ∀ l, H l = none → Q (.ref l) (upd H l (.lst ys))) gListOf := fun G ds vs H st Kn Q h hold dn k => by
  unfold gListOf at h
  split at h
  · obtain ⟨v, r, rfl, d1, dn⟩ := dn.inv
    cases dn.nil_inv
    obtain ⟨a, xs, rfl, ha, na, r⟩ := dn_lst d1
    exact ⟨a, xs, rfl, .inl (SqL.of ha), fun p hp => k _ _ _ _ h (hold.laid hp) (hold.nlst hp r)⟩
  · obtain ⟨v, r, rfl, d1, dn⟩ := dn.inv
    cases dn.nil_inv
    obtain ⟨a, xs, rfl, ha, na, r⟩ := dn_tup d1
    exact ⟨a, xs, rfl, .inr (SqT.of ha), fun p hp => k _ _ _ _ h (hold.laid hp) (hold.nlst hp r)⟩
  · exact h.elim
end
end DL

namespace DL
open PySem PySem.Spec PyProof.Rows L2
theorem hu64 {k : Nat} {A : Around} (h : Room k A) : A.units + 64 < cLine := by have := h.un; omega
theorem hu0 {k : Nat} {A : Around} (h : Room k A) : A.units < cLine := by have := h.un; omega
section
variable {X : Cx} {W : WX} {a b c e o tgE iter elt : Expr} {es ifs : List Expr} {pos p apos : Pos} {wa wb wc we wo : WE} {ws : WA}
theorem pdt_chain {op op' : CmpOp} {r r' : R2} {g g' : D → D → Sto → KD → Prop} (ho : OpR X (compareOp op) r) (ho' : OpR X (compareOp op') r') (hl : OpL r g) (hl' : OpL r' g') (ha : PD X W a wa) (hb : PD X W b wb) (hc : PD X W c wc)
    (hm : lastMarks [op, op'] [b, c] = false := by with_unfolding_all rfl) : PDT X W (.Compare a [op, op'] [b, c] pos) (wTv (wChain g g' wa wb wc)) := by
  refine pdt_of (PT.tst (pt_chain ho ho' ha hb hc hm) ?_)
  rintro σ H Q ⟨G, env, st, Kn, Kx, hold, er, hw, hn, hx⟩
  refine ⟨G, env, st, _, Kx, hold, er, hw, fun x st1 v H1 h1 t1 d1 => ?_, hx⟩
  refine ⟨G, env, st1, _, Kx, t1.hold, er.le t1.le.g, h1, fun y st2 u H2 h2 t2 d2 => ?_, fun z st2 cls dd H2 k t2 xr => hx z st2 cls dd H2 k (t1.trans t2) xr⟩
  refine hl G x y v u H2 st2 _ _ h2 t2.hold (t2.dn d1) d2 fun z st3 v3 H3 k t3 dn3 => ?_
  split at k
  · rw [dn_bl dn3]
    refine ⟨true, rfl, ?_⟩
    rw [if_pos rfl]
    have t := (t1.trans t2).trans t3
    refine ⟨G, env, st3, _, Kx, t3.hold, er.le t.le.g, k, fun w st4 v4 H4 h4 t4 d4 => ?_, fun z st4 cls dd H4 k t4 xr => hx z st4 cls dd H4 k (t.trans t4) xr⟩
    exact hl' G y w u v4 H4 st4 Kn Q h4 t4.hold (t4.dn (t3.dn d2)) d4 fun d st' v' H' k t' dn' => hn d st' v' H' k ((t.trans t4).trans t') dn'
  · rw [dn_bl dn3]
    refine ⟨false, rfl, ?_⟩
    rw [if_neg Bool.false_ne_true]
    exact hn _ _ _ _ k ((t1.trans t2).trans t3) mk_bl
  · exact k.elim
def gNeg : D → Sto → KD → Prop := fun d st Kn => match d with
  | .int i => Kn (.int (-i)) st
  | _ => False
theorem unl_neg : UnL (rU fun i => .int (-i)) gNeg := fun G dx x H st Kn Q h hold dn k => by
  unfold gNeg at h
  split at h
  · exact ⟨_, dn_int dn, k _ _ _ _ h (To.refl hold) mk_int⟩
  · exact h.elim
abbrev wCallN (n : Nat) (wf : WF) (ws : WA) : WE := wCall (fun ds st Kn Kx => ds.length = n ∧ wf ds st Kn Kx) ws
abbrev wMakeN (C : Addr) (n : Nat) (wf : WF) (ws : WA) : WE := wMake C (fun ds st Kn Kx => ds.length = n ∧ wf ds st Kn Kx) ws
abbrev wMethN (C : Addr) (m : Str) (n : Nat) (wf : WF) (wo : WE) (ws : WA) : WE := wMeth C m (fun ds st Kn Kx => ds.length = n ∧ wf ds st Kn Kx) wo ws
/-- l.append(x), l a list that changes -/
def gApp : D → List D → Sto → KD → Prop := fun l xs st Kn => match l, xs with
  | .ref a, [x] => match st.lookup a with
    | some (.lst ds) => ds.length < sizeLine ∧ Kn .non (st.put a (.lst (ds ++ [x])))
    | _ => False
  | _, _ => False
def wApp (wo : WE) (ws : WA) : WE := fun env st Kn Kx => wo env st (fun l st1 => (∃ a ds, l = .ref a ∧ st1.lookup a = some (.lst ds)) ∧ ws env st1 (fun xs st2 => gApp l xs st2 Kn) Kx) Kx
theorem pd_app (ho : PD X W o wo) (ha : PDA X W [e] ws) (hbase : attributeBase o "append" X.env (eval o X.env) = eval o X.env := by rfl)
    (hfew : ((backTo pos (starEach [e] X.env)).all (fun x => !x.1) && (backToKw pos (keywordEach [] X.env)).all (fun x => x.1.isSome)
      && decide ([e].length + ([] : List Keyword).length + (if ([] : List Keyword).isEmpty then 0 else 1) < 30)) = true := by rfl)
    (hline : (apos.endLine == pos.line) = true := by rfl) (hs : starEach [e] X.env = (false, eval e X.env) :: starEach [] X.env := by rfl) (hplain : (backTo pos (starEach [] X.env)).any (·.1) = false := by rfl) :
    PD X W (.Call (.Attribute o "append" apos) [e] [] pos) (wApp wo ws) :=
  PE.imp (pe_bm PySem.F.plainAttrs_list PySem.F.slot_list_append PySem.F.type_list_append mt_append ho ha hbase hfew hline hs hplain) fun σ H Q ⟨G, env, st, Kn, Kx, hold, er, hw, hn, hx⟩ => ⟨G, env, st, _, Kx, hold, er, hw, fun d st1 v H1 k1 t1 d1 => by
    obtain ⟨⟨a, ds, rfl, l⟩, k1⟩ := k1
    obtain ⟨xs, ha, r⟩ := t1.hold.at l
    refine ⟨?_, G, env, st1, _, Kx, t1.hold, er.le t1.le.g, k1, fun x st2 u H2 k2 t2 d2 => ?_, fun _ _ _ _ _ k2 t2 xr => hx _ _ _ _ _ k2 (t1.trans t2) xr⟩
    · rw [dn_ref d1]; exact .inl ⟨rfl, xs, SqL.of ha⟩
    · unfold gApp at k2
      split at k2
      · rename_i b y e1
        cases e1
        split at k2
        · rename_i ds2 l2
          obtain ⟨ys, hb, r2⟩ := t2.hold.at l2
          obtain ⟨v2, r3, rfl, d3, dn⟩ := d2.inv
          cases dn.nil_inv
          have tw := t2.hold.write (o := .lst (ys ++ [v2])) (on_of l2) (c := .lst (ds2 ++ [y])) ⟨_, upd_same, Dns.le (by have q := (le_write (H := H2) (o := .lst (ys ++ [v2])) (c := .lst (ds2 ++ [y])) (on_of l2)).g (G := G); rw [put_On] at q; exact q) _ _ (r2.append (.cons d3 .nil))⟩
          exact ⟨a, ys, v2, dn_ref d1, rfl, hb, by rw [r2.length]; exact k2.1, hn _ _ _ _ k2.2 ((t1.trans t2).trans tw) mk_non⟩
        · exact k2.elim
      · exact k2.elim, hx⟩
/-! y = [comprehension] -/
variable {i : Nat} {y : Str} {py spos : Pos} {scope : Scope} {own : List (Str × Nat)} {tg : Tgt} {t : WT} {el wi : WE}
theorem setLc_imp {te : TE} {w : WE} (h : ∀ σ H Q, lfE W w σ H Q → te σ H Q) : ∀ Ed σ H, lfS W (wAsg w (dgN i)) Ed σ H → tAsg te (gName i) Ed σ H :=
  fun Ed σ H ⟨G, env, st, DD, hold, er, hw, h1, h2, h3, h4, h5⟩ => h _ _ _ ⟨G, env, st, _, _, hold, er, hw, fun d st' v H' k t dn => h1 _ _ _ _ k t ((er.le t.le.g).set i dn), lfE_s er h5⟩
theorem pds_setLcL (hc : X.calm = true) (hN : X.N.Nodup) (hy : X.N[i]? = some y) (hyl : X.env.scope.names.lookup y = some .local) (hsw : swapsWith (.ListComp elt [⟨tgE, iter, ifs, 0⟩] scope pos) (some (.Name y py)) spos.line X.env = pure true) (hi : PD X W iter wi) (B : LcOk X tgE elt ifs scope own tg t el)
    (hs : ∀ x, foldedSetIterable iter X.env x = pure x := by intro _; rfl) : PDS X W (.Assign [.Name y py] (.ListComp elt [⟨tgE, iter, ifs, 0⟩] scope pos) spos) (wAsg (wLcL wi tg t el (own.map (·.2))) (dgN i)) := by
  obtain ⟨g, tt, ok, ho, ht, hg, hts, he⟩ := B.ok
  exact PS.imp (ps_setLc hc hN hy hyl hsw (pi_list hi) ok hg hts he hs) (setLc_imp (lfw_lcL ho ht))
theorem pds_setLcT (hc : X.calm = true) (hN : X.N.Nodup) (hy : X.N[i]? = some y) (hyl : X.env.scope.names.lookup y = some .local) (hsw : swapsWith (.ListComp elt [⟨tgE, iter, ifs, 0⟩] scope pos) (some (.Name y py)) spos.line X.env = pure true) (hi : PD X W iter wi) (B : LcOk X tgE elt ifs scope own tg t el)
    (hs : ∀ x, foldedSetIterable iter X.env x = pure x := by intro _; rfl) : PDS X W (.Assign [.Name y py] (.ListComp elt [⟨tgE, iter, ifs, 0⟩] scope pos) spos) (wAsg (wLc wi tg t el (own.map (·.2))) (dgN i)) := by
  obtain ⟨g, tt, ok, ho, ht, hg, hts, he⟩ := B.ok
  exact PS.imp (ps_setLc hc hN hy hyl hsw (pi_tup hi) ok hg hts he hs) (setLc_imp (lfw_lcT ho ht))
theorem pds_setLcR1 {cp : Pos} (hc : X.calm = true) (hN : X.N.Nodup) (hy : X.N[i]? = some y) (hyl : X.env.scope.names.lookup y = some .local) (hsw : swapsWith (.ListComp elt [⟨tgE, .Call (.Name "range" p) [a] [] cp, ifs, 0⟩] scope pos) (some (.Name y py)) spos.line X.env = pure true)
    (hgr : Gl X "range") (hm : X.mg "range" = none) (ha : PDA X W [a] ws) (B : LcOk X tgE elt ifs scope own tg t el) (hs1 : starEach [a] X.env = [(false, eval a X.env)] := by rfl)
    (hs : ∀ x, foldedSetIterable (.Call (.Name "range" p) [a] [] cp) X.env x = pure x := by intro _; rfl) : PDS X W (.Assign [.Name y py] (.ListComp elt [⟨tgE, .Call (.Name "range" p) [a] [] cp, ifs, 0⟩] scope pos) spos) (wAsg (wLcR1 ws tg t el (own.map (·.2))) (dgN i)) := by
  obtain ⟨g, tt, ok, ho, ht, hg, hts, he⟩ := B.ok
  exact PS.imp (ps_setLc hc hN hy hyl hsw (pi_range1 hgr hm ha hs1) ok hg hts he hs) (setLc_imp (lfw_lcR1 ho ht))
theorem pds_setLcE {elts : List Expr} {kk : Nat} {tpos ep : Pos} (hc : X.calm = true) (hN : X.N.Nodup) (hy : X.N[i]? = some y) (hyl : X.env.scope.names.lookup y = some .local) (hsw : swapsWith (.ListComp elt [⟨.Tuple elts kk tpos, .Call (.Name "enumerate" p) [a] [] ep, ifs, 0⟩] scope pos) (some (.Name y py)) spos.line X.env = pure true)
    (hgr : Gl X "enumerate") (hm : X.mg "enumerate" = none) (ha : PDA X W [a] ws) (B : LcOk X (.Tuple elts kk tpos) elt ifs scope own tg t el) (hs1 : starEach [a] X.env = [(false, eval a X.env)] := by rfl)
    (hs : ∀ x, foldedSetIterable (.Call (.Name "enumerate" p) [a] [] ep) X.env x = pure x := by intro _; rfl) : PDS X W (.Assign [.Name y py] (.ListComp elt [⟨.Tuple elts kk tpos, .Call (.Name "enumerate" p) [a] [] ep, ifs, 0⟩] scope pos) spos) (wAsg (wLcE ws tg t el (own.map (·.2))) (dgN i)) := by
  obtain ⟨g, tt, ok, ho, ht, hg, hts, he⟩ := B.ok
  exact PS.imp (ps_setLc hc hN hy hyl hsw (pi_enumT hgr hm ha hs1) ok hg hts he hs) (setLc_imp (lfw_lcE ho ht))
end
/-! in a list of nested things; equality of plain things -/
def gInD (neg : Bool) : D → D → Sto → KD → Prop := fun dx dy st Kn => match dx.py, dy.py with
  | some d, some (.list l) => (SeqAt.shaped d = true ∧ SeqAt.shaped (.list l) = true) ∧ Kn (.bl (if neg then !(l.any fun z => PyData.eqv z d) else l.any fun z => PyData.eqv z d)) st
  | _, _ => False
theorem hu65 {k : Nat} {A : Around} (h : Room k A) : A.units + 65 < cLine := by have := h.un; omega
theorem opl_inD {K : PySem.W.Frag} : OpL (rInD K) (gInD false) := fun G dx dy x y H st Kn Q h hold d1 d2 k => by
  unfold gInD at h
  split at h
  · rename_i p l e1 e2
    exact ⟨p, l, D.py_dp dx p x e1 d1, D.py_dp dy _ y e2 d2, h.1.1, h.1.2, k _ _ _ _ h.2 (To.refl hold) mk_bl⟩
  · exact h.elim
theorem opl_notInD {K : PySem.W.Frag} : OpL (rNotInD K) (gInD true) := fun G dx dy x y H st Kn Q h hold d1 d2 k => by
  unfold gInD at h
  split at h
  · rename_i p l e1 e2
    exact ⟨p, l, D.py_dp dx p x e1 d1, D.py_dp dy _ y e2 d2, h.1.1, h.1.2, k _ _ _ _ h.2 (To.refl hold) mk_bl⟩
  · exact h.elim
theorem shaped_int (i : Int) : SeqAt.shaped (.int i) = true := by
  unfold SeqAt.shaped; simp [PyData.canLay0, PyData.depth]
theorem eq_int {i j : Int} {st : Sto} {Kn : KD} : gEq (.int i) (.int j) st Kn ↔ Kn (.bl (i == j)) st := by
  unfold gEq; simp only [D.py, shaped_int, PyData.eqv, true_and, and_self]
theorem ne_int {i j : Int} {st : Sto} {Kn : KD} : gNe (.int i) (.int j) st Kn ↔ Kn (.bl (!(i == j))) st := by
  unfold gNe; simp only [D.py, shaped_int, PyData.eqv, true_and, and_self]
/-! ### a def, for its callers -/
structure OkB (K : PySem.W.Frag) (mg : Str → Option Value) (x : Str) (f : Addr) (fd : FuncData) (ps : List Str) : Prop where
  mg : x ≠ "" → mg x = some (.ref f)
  kp : PySem.W.keepIn K (.ref f) = true
  bd : Binds K fd ps []
def OkF (P : Program) (w : World) (K : PySem.W.Frag) (mg : Str → Option Value) (base : Heap) (k : Nat) (x : Str) (f : Addr) (ps : List Str) (wf : WF) : Prop := ∃ fd, FnD P w K mg base k f fd ps wf ∧ OkB K mg x f fd ps
def clsAt (s : Stmt) (j : Nat) : Stmt := match s with
  | .ClassDef _ _ _ b _ _ _ _ _ _ _ => b.getD j (.Pass ⟨0, 0, 0, 0⟩)
  | _ => .Pass ⟨0, 0, 0, 0⟩
theorem lenC_of {K : PySem.W.Frag} {C f : Addr} (m : Meth K C "__len__" f) (n : NoAttr K C "__bool__") : LenC K C f := ⟨m.at_, beq_iff_eq.mp m.fn, n⟩
end DL

namespace K82
open PySem PySem.Spec PyProof.Rows L2 DL
abbrev cM (K : PySem.W.Frag) : Addr := He.ga K "Mixture"
abbrev cP (K : PySem.W.Frag) : Addr := He.ga K "Pot"
structure TP (K : PySem.W.Frag) : Prop where
  clM : Cls K (cM K)
  clP : Cls K (cP K)
  inM : InsTy K (cM K)
  noM : ∀ f : Str, f ∈ (["count", "starts", "table", "told", "kinds"] : List Str) → NoAttr K (cM K) f
  noP : ∀ f : Str, f ∈ (["mixture", "kinds", "given", "amounts", "past", "busy"] : List Str) → NoAttr K (cP K) f
/-! ### the things -/
structure Mx where
  c : Int
  st : List (Int × Int)
  tb : List (Int × Int)
  ks : List Int
def pD (p : Int × Int) : D := .tup [.int p.1, .int p.2]
def mxF (m : Mx) : List (Str × D) := [("count", .int m.c), ("starts", .tup (m.st.map pD)), ("table", .tup (m.tb.map pD)), ("told", .tup [.int m.c, .tup (m.st.map pD), .tup (m.tb.map pD)]), ("kinds", .tup (m.ks.map D.int))]
def okE (c : Int) (p : Int × Int) : Prop := 0 ≤ p.1 ∧ p.1 < c ∧ 0 ≤ p.2 ∧ p.2 ≤ 1000000
structure MxOk (c : Int) (st tb : List (Int × Int)) : Prop where
  c1 : 1 ≤ c
  c8 : c ≤ 8
  s1 : 1 ≤ st.length
  s3 : st.length ≤ 3
  so : ∀ p ∈ st, okE c p
  tl : (tb.length : Int) = c * (c + 1) / 2
  to : ∀ p ∈ tb, okE c p
def mixAt (K : PySem.W.Frag) (st : Sto) (a : Addr) (m : Mx) : Prop := st.lookup a = some (.ins (cM K) (mxF m)) ∧ MxOk m.c m.st m.tb
structure Ph where
  ks : List Int
  g : Int
  am : List Int
def phD (p : Ph) : D := .tup [.tup (p.ks.map D.int), .int p.g, .tup (p.am.map D.int)]
def potF (a : Addr) (p : Ph) (past : List Ph) : List (Str × D) := [("mixture", .ref a), ("kinds", .tup (p.ks.map D.int)), ("given", .int p.g), ("amounts", .tup (p.am.map D.int)), ("past", .tup (past.map phD)), ("busy", .bl false)]
def potC (K : PySem.W.Frag) (a : Addr) (p : Ph) (past : List Ph) : Cell := .ins (cP K) (potF a p past)
def lowI (i j : Int) : Int := if j < i then j else i
def highI (i j : Int) : Int := if j > i then j else i
def placeI (c i j : Int) : Int := lowI i j * c - lowI i j * (lowI i j - 1) / 2 + highI i j - lowI i j
def metM (m : Mx) (i j : Int) : Int × Int := m.tb.getD (placeI m.c i j).toNat (0, 0)
def jn (ks : List Int) (k : Int) (i j : Int) : List Int := cutD ks none (some i) ++ [k] ++ cutD ks (some (i + 1)) (some j) ++ cutD ks (some (j + 1)) none
def bump : Nat → Int → List Int → List Int
  | _, _, [] => []
  | k, n, x :: r => (x + if (k : Int) = n then 1 else 0) :: bump (k + 1) n r
def kat (ks : List Int) (i : Int) : Int := ks.getD i.toNat 0
/-! ### the promises -/
def sp_is_between (K : PySem.W.Frag) : WF := fun ds st Kn Kx => ∃ v lo hi : Int, ds = [.int v, .int lo, .int hi] ∧ Kn (.bl (decide (lo ≤ v ∧ v ≤ hi))) st
def sp_is_entry (K : PySem.W.Frag) : WF := fun ds st Kn Kx => ∃ (p : Int × Int) (c : Int), ds = [pD p, .int c] ∧ okE c p ∧ Kn (.bl true) st
def sp_wrong_entry (K : PySem.W.Frag) : WF := fun ds st Kn Kx => ∃ (l : List (Int × Int)) (c : Int), ds = [.tup (l.map pD), .int c] ∧ (∀ p ∈ l, okE c p) ∧ Kn .non st
def sp_check_starts (K : PySem.W.Frag) : WF := fun ds st Kn Kx => ∃ (l : List (Int × Int)) (c : Int), ds = [.tup (l.map pD), .int c] ∧ (1 ≤ l.length ∧ l.length ≤ 3) ∧ (∀ p ∈ l, okE c p) ∧ Kn .non st
def sp_check_table (K : PySem.W.Frag) : WF := fun ds st Kn Kx => ∃ (l : List (Int × Int)) (c : Int), ds = [.tup (l.map pD), .int c, .int l.length] ∧ (∀ p ∈ l, okE c p) ∧ Kn .non st
def sp_place_in_table (K : PySem.W.Frag) : WF := fun ds st Kn Kx => ∃ c i j : Int, ds = [.int c, .int i, .int j] ∧ (0 ≤ c ∧ c ≤ 1000 ∧ 0 ≤ i ∧ i ≤ 1000 ∧ 0 ≤ j ∧ j ≤ 1000) ∧ Kn (.int (placeI c i j)) st
def sp_arising (K : PySem.W.Frag) : WF := fun ds st Kn Kx => ∃ (c : Int) (s t : List (Int × Int)), ds = [.int c, .tup (s.map pD), .tup (t.map pD)] ∧ MxOk c s t ∧ ∀ ks : List Int, Kn (.tup (ks.map D.int)) st
def sp_MixtureX_initX (K : PySem.W.Frag) : WF := fun ds st Kn Kx => ∃ (a : Addr) (c : Int) (s t : List (Int × Int)), ds = [.ref a, .int c, .tup (s.map pD), .tup (t.map pD)] ∧ st.lookup a = some (.ins (cM K) []) ∧ MxOk c s t ∧ ∀ ks : List Int, Kn .non (st.put a (.ins (cM K) (mxF ⟨c, s, t, ks⟩)))
def sp_Mixture_met (K : PySem.W.Frag) : WF := fun ds st Kn Kx => ∃ (a : Addr) (m : Mx) (i j : Int), ds = [.ref a, .int i, .int j] ∧ mixAt K st a m ∧ (0 ≤ i ∧ i < m.c ∧ 0 ≤ j ∧ j < m.c) ∧ Kn (pD (metM m i j)) st
def sp_check_mixture (K : PySem.W.Frag) : WF := fun ds st Kn Kx => ∃ (a : Addr) (m : Mx), ds = [.ref a] ∧ mixAt K st a m ∧ Kn .non st
def sp_is_pair_of_places (K : PySem.W.Frag) : WF := fun ds st Kn Kx => ∃ i j n : Int, ds = [.tup [.int i, .int j], .int n] ∧ (0 ≤ i ∧ i < j ∧ j < n) ∧ Kn (.bl true) st
def sp_joined (K : PySem.W.Frag) : WF := fun ds st Kn Kx => ∃ (a : Addr) (m : Mx) (ks : List Int) (i j : Int), ds = [.ref a, .tup (ks.map D.int), .int i, .int j] ∧ mixAt K st a m ∧ (0 ≤ i ∧ i < j ∧ j < ks.length) ∧ ks.length ≤ 100 ∧ (∀ k ∈ ks, 0 ≤ k ∧ k < m.c) ∧
  Kn (.tup [.tup ((jn ks (metM m (kat ks i) (kat ks j)).1 i j).map D.int), .int (metM m (kat ks i) (kat ks j)).2]) st
def sp_PotX_initX (K : PySem.W.Frag) : WF := fun ds st Kn Kx => ∃ (p a : Addr) (m : Mx), ds = [.ref p, .ref a] ∧ st.lookup p = some (.ins (cP K) []) ∧ mixAt K st a m ∧ Kn .non (st.put p (potC K a ⟨[], 0, List.replicate m.st.length 0⟩ []))
def sp_Pot_become (K : PySem.W.Frag) : WF := fun ds st Kn Kx => ∃ (p a : Addr) (ph : Ph) (past : List Ph) (ks : List Int) (g : Int) (am : List Int), ds = [.ref p, .tup (ks.map D.int), .int g, .tup (am.map D.int)] ∧ st.lookup p = some (potC K a ph past) ∧ past.length ≤ 100 ∧ Kn .non (st.put p (potC K a ⟨ks, g, am⟩ (past ++ [ph])))
def sp_Pot_check_idle (K : PySem.W.Frag) : WF := fun ds st Kn Kx => ∃ (p a : Addr) (ph : Ph) (past : List Ph), ds = [.ref p] ∧ st.lookup p = some (potC K a ph past) ∧ Kn .non st
def sp_Pot_check_room (K : PySem.W.Frag) : WF := fun ds st Kn Kx => ∃ (p a : Addr) (ph : Ph) (past : List Ph), ds = [.ref p] ∧ st.lookup p = some (potC K a ph past) ∧ past.length < 60 ∧ Kn .non st
def sp_Pot_put_in (K : PySem.W.Frag) : WF := fun ds st Kn Kx => ∃ (p a : Addr) (ph : Ph) (past : List Ph) (m : Mx) (n : Int), ds = [.ref p, .int n] ∧ st.lookup p = some (potC K a ph past) ∧ mixAt K st a m ∧ (0 ≤ n ∧ n < m.st.length) ∧ ph.am.length = m.st.length ∧ ph.ks.length ≤ 100 ∧ past.length < 60 ∧
  Kn (.int (m.st.getD n.toNat (0, 0)).2) (st.put p (potC K a ⟨ph.ks ++ [(m.st.getD n.toNat (0, 0)).1], ph.g + (m.st.getD n.toNat (0, 0)).2, bump 0 n ph.am⟩ (past ++ [ph])))
def sp_Pot_let_meet (K : PySem.W.Frag) : WF := fun ds st Kn Kx => ∃ (p a : Addr) (ph : Ph) (past : List Ph) (m : Mx) (i j : Int), ds = [.ref p, .int i, .int j] ∧ st.lookup p = some (potC K a ph past) ∧ mixAt K st a m ∧ (0 ≤ i ∧ i < j ∧ j < ph.ks.length) ∧ ph.ks.length ≤ 100 ∧ (∀ k ∈ ph.ks, 0 ≤ k ∧ k < m.c) ∧ past.length < 60 ∧
  Kn (.int (metM m (kat ph.ks i) (kat ph.ks j)).2) (st.put p (potC K a ⟨jn ph.ks (metM m (kat ph.ks i) (kat ph.ks j)).1 i j, ph.g + (metM m (kat ph.ks i) (kat ph.ks j)).2, ph.am⟩ (past ++ [ph])))
def sp_Pot_put := sp_Pot_put_in
def sp_Pot_meet := sp_Pot_let_meet
def sp_Pot_undo (K : PySem.W.Frag) : WF := fun ds st Kn Kx => ∃ (p a : Addr) (ph : Ph) (past : List Ph) (ph' : Ph), ds = [.ref p] ∧ st.lookup p = some (potC K a ph (past ++ [ph'])) ∧ past.length ≤ 100 ∧ Kn .non (st.put p (potC K a ph' past))
def sp_PotX_lenX (K : PySem.W.Frag) : WF := fun ds st Kn Kx => ∃ (p a : Addr) (ph : Ph) (past : List Ph), ds = [.ref p] ∧ st.lookup p = some (potC K a ph past) ∧ Kn (.int ph.ks.length) st
def pairsM (ks : List Int) : Mx := ⟨2, [(0, 0)], [(1, 1), (0, 0), (1, 0)], ks⟩
def unevenM (ks : List Int) : Mx := ⟨2, [(0, 0)], [(1, 1), (0, 1), (1, 0)], ks⟩
def sp_pairs_mixture (K : PySem.W.Frag) : WF := fun ds st Kn Kx => ∀ a ks, ¬ st.on a → Kn (.ref a) ((a, .ins (cM K) (mxF (pairsM ks))) :: st)
def sp_uneven_mixture (K : PySem.W.Frag) : WF := fun ds st Kn Kx => ∀ a ks, ¬ st.on a → Kn (.ref a) ((a, .ins (cM K) (mxF (unevenM ks))) :: st)
def binD (x y z : Int) : Cell := .lst [.int x, .int y, .int z]
def binAt (st : Sto) (b : Addr) : Prop := ∃ x y z, st.lookup b = some (binD x y z)
def sp_law_bin (K : PySem.W.Frag) : WF := fun ds st Kn Kx => ∃ (ns : List Int) (t : Int), ds = [.scr ns, .int t] ∧ (0 ≤ t ∧ t < 100) ∧ ns.length ≤ 63 ∧ ∀ b x y z, ¬ st.on b → Kn (.ref b) ((b, binD x y z) :: st)
def sp_law_nip (K : PySem.W.Frag) : WF := fun ds st Kn Kx => ∃ (b : Addr) (n : Int), ds = [.ref b, .int n] ∧ binAt st b ∧ (1 ≤ n ∧ n < 1073741824) ∧ ∀ v x y z, 0 ≤ v → v < n → Kn (.int v) (st.put b (binD x y z))
/-- the pot at p in a led state -/
def sp_law_led (K : PySem.W.Frag) : WF := fun ds st Kn Kx => ∃ (b a : Addr) (n : Nat) (m : Mx) (I : List Int → Int → Prop) (k0 g0 : Int), ds = [.ref b, .ref a, .int n] ∧ binAt st b ∧ mixAt K st a m ∧ m.st = [(k0, g0)] ∧ (1 ≤ n ∧ n ≤ 12) ∧
  I (List.replicate n k0) (n * g0) ∧ (∀ (ks : List Int) (g i j : Int), I ks g → 0 ≤ i → i < j → j < ks.length → I (jn ks (metM m (kat ks i) (kat ks j)).1 i j) (g + (metM m (kat ks i) (kat ks j)).2)) ∧
  ∀ p st' k g h, ¬ st.on p → I [k] g → h.length = 2 * n - 2 → st'.lookup p = some (potC K a ⟨[k], g, [(n : Int)]⟩ (⟨[], 0, [0]⟩ :: h)) → binAt st' b → (∀ x, st'.on x ↔ st.on x ∨ x = p) → (∀ x, x ≠ b → x ≠ p → st'.lookup x = st.lookup x) → Kn (.ref p) st'
def sp_law_right (K : PySem.W.Frag) : WF := fun ds st Kn Kx => ∃ b, ds = [.ref b] ∧ binAt st b ∧ ∀ st', Kn (.bl true) st'
def sp_law (K : PySem.W.Frag) : WF := fun ds st Kn Kx => ∃ ns : List Int, ds = [.scr ns] ∧ ns.length ≤ 63 ∧ ∀ st', Kn (.bl true) st'
abbrev wb_is_between (K : PySem.W.Frag) : WS := (wRet (wAndV (wCB (gIsi K) (wCons (wVar 0) (wCons (wC (.ty "int")) wNil))) (wAndV (wNotV (wCB (gIsi K) (wCons (wVar 0) (wCons (wC (.ty "bool")) wNil)))) (wChain gLe gLe (wVar 1) (wVar 0) (wVar 2)))))
abbrev Pu_is_between (K : PySem.W.Frag) : Prop := ∀ ds st Kn Kx, ds.length = 3 → sp_is_between K ds st Kn Kx → wb_is_between K (endsD Kn Kx) (startD ["value", "low", "high"] ds) st
abbrev wb_is_entry (K : PySem.W.Frag) : WS := (wSeq (wIf (wOr (wNot (wTv (wCB (gIsi K) (wCons (wVar 0) (wCons (wC (.ty "tuple")) wNil))))) (wTv (wOp gNe (wCB gLen (wCons (wVar 0) wNil)) (wC (.int 2))))) (wRet (wC (.bl false))) wNext)
    (wRet (wAndV (wCallN 3 (sp_is_between K) (wCons (wOp gIx (wVar 0) (wC (.int 0))) (wCons (wC (.int 0)) (wCons (wOp gSub (wVar 1) (wC (.int 1))) wNil)))) (wCallN 3 (sp_is_between K) (wCons (wOp gIx (wVar 0) (wC (.int 1))) (wCons (wC (.int 0)) (wCons (wC (.int 1000000)) wNil)))))))
abbrev Pu_is_entry (K : PySem.W.Frag) : Prop := ∀ ds st Kn Kx, ds.length = 2 → sp_is_entry K ds st Kn Kx → wb_is_entry K (endsD Kn Kx) (startD ["value", "count"] ds) st
abbrev wb_wrong_entry (K : PySem.W.Frag) : WS := (wSeq (wForE (wCons (wVar 0) wNil) (dgT 2 (dgCons (dgN 2) (dgCons (dgN 3) dgNil))) (wIf (wNot (wTv (wCallN 2 (sp_is_entry K) (wCons (wVar 3) (wCons (wVar 1) wNil))))) (wRet (wVar 2)) wNext))
    (wRet (wC .non)))
abbrev Pu_wrong_entry (K : PySem.W.Frag) : Prop := ∀ ds st Kn Kx, ds.length = 2 → sp_wrong_entry K ds st Kn Kx → wb_wrong_entry K (endsD Kn Kx) (startD ["entries", "count", "index", "entry"] ds) st
abbrev wb_check_starts (K : PySem.W.Frag) : WS := (wSeq (wIf (wOr (wNot (wTv (wCB (gIsi K) (wCons (wVar 0) (wCons (wC (.ty "tuple")) wNil))))) (wNot (wTv (wChain gLe gLe (wC (.int 1)) (wCB gLen (wCons (wVar 0) wNil)) (wC (.int 3)))))) (fun _ _ _ => False) wNext)
    (wSeq (wAsg (wCallN 2 (sp_wrong_entry K) (wCons (wVar 0) (wCons (wVar 1) wNil))) (dgN 2))
    (wIf (wTv (wOp gNotN (wVar 2) (wC .non))) (fun _ _ _ => False) wNext)))
abbrev Pu_check_starts (K : PySem.W.Frag) : Prop := ∀ ds st Kn Kx, ds.length = 2 → sp_check_starts K ds st Kn Kx → wb_check_starts K (endsD Kn Kx) (startD ["value", "count", "index"] ds) st
abbrev wb_check_table (K : PySem.W.Frag) : WS := (wSeq (wIf (wOr (wNot (wTv (wCB (gIsi K) (wCons (wVar 0) (wCons (wC (.ty "tuple")) wNil))))) (wTv (wOp gNe (wCB gLen (wCons (wVar 0) wNil)) (wVar 2)))) (fun _ _ _ => False) wNext)
    (wSeq (wAsg (wCallN 2 (sp_wrong_entry K) (wCons (wVar 0) (wCons (wVar 1) wNil))) (dgN 3))
    (wIf (wTv (wOp gNotN (wVar 3) (wC .non))) (fun _ _ _ => False) wNext)))
abbrev Pu_check_table (K : PySem.W.Frag) : Prop := ∀ ds st Kn Kx, ds.length = 3 → sp_check_table K ds st Kn Kx → wb_check_table K (endsD Kn Kx) (startD ["value", "count", "size", "index"] ds) st
abbrev wb_place_in_table (K : PySem.W.Frag) : WS := (wSeq (wPar 3 4 (wCons (wCB gMin2 (wCons (wVar 1) (wCons (wVar 2) wNil))) (wCons (wCB gMax2 (wCons (wVar 1) (wCons (wVar 2) wNil))) wNil)))
    (wRet (wOp gSub (wOp gAdd (wOp gSub (wOp gMul (wVar 3) (wVar 0)) (wOp gFdiv (wOp gMul (wVar 3) (wOp gSub (wVar 3) (wC (.int 1)))) (wC (.int 2)))) (wVar 4)) (wVar 3))))
abbrev Pu_place_in_table (K : PySem.W.Frag) : Prop := ∀ ds st Kn Kx, ds.length = 3 → sp_place_in_table K ds st Kn Kx → wb_place_in_table K (endsD Kn Kx) (startD ["count", "one", "other", "low", "high"] ds) st
abbrev wb_arising (K : PySem.W.Frag) : WS := (wSeq (wAsg (wSortSet (wLc (wVar 1) (tg2 7 8) wYes (wVar 7) [7, 8])) (dgN 3))
    (wSeq (wAsg (wC (.int 0)) (dgN 4))
    (wSeq (wWhile (wTv (wOp gNe (wVar 4) (wCB gLen (wCons (wVar 3) wNil)))) (wSeq (wAsg (wCB gLen (wCons (wVar 3) wNil)) (dgN 4))
    (wForL (wCB gListOf (wCons (wVar 3) wNil)) (dgN 5) (wSeq (wAsg (wLcL (wVar 3) (tg1 9) wYes (wOp gIx (wOp gIx (wVar 2) (wCallN 3 (sp_place_in_table K) (wCons (wVar 0) (wCons (wVar 5) (wCons (wVar 9) wNil))))) (wC (.int 0))) [9]) (dgN 6))
    (wAsg (wSortSet (wOp gAdd (wVar 3) (wVar 6))) (dgN 3))))))
    (wRet (wCB gTupOf (wCons (wVar 3) wNil))))))
abbrev Pu_arising (K : PySem.W.Frag) : Prop := ∀ ds st Kn Kx, ds.length = 3 → sp_arising K ds st Kn Kx → wb_arising K (endsD Kn Kx) (startD ["count", "starts", "table", "found", "before", "one", "fresh", "kind", "gift", "other"] ds) st
abbrev wb_MixtureX_initX (K : PySem.W.Frag) : WS := (wSeq (wIf (wNot (wTv (wCallN 3 (sp_is_between K) (wCons (wVar 1) (wCons (wC (.int 1)) (wCons (wC (.int 8)) wNil)))))) (fun _ _ _ => False) wNext)
    (wSeq (wDrop (wCallN 2 (sp_check_starts K) (wCons (wVar 2) (wCons (wVar 1) wNil))))
    (wSeq (wDrop (wCallN 3 (sp_check_table K) (wCons (wVar 3) (wCons (wVar 1) (wCons (wOp gFdiv (wOp gMul (wVar 1) (wOp gAdd (wVar 1) (wC (.int 1)))) (wC (.int 2))) wNil)))))
    (wSeq (wSetF K "count" (wVar 1) (wVar 0))
    (wSeq (wSetF K "starts" (wVar 2) (wVar 0))
    (wSeq (wSetF K "table" (wVar 3) (wVar 0))
    (wSeq (wSetF K "told" (wTup (wCons (wVar 1) (wCons (wVar 2) (wCons (wVar 3) wNil)))) (wVar 0))
    (wSetF K "kinds" (wCallN 3 (sp_arising K) (wCons (wVar 1) (wCons (wVar 2) (wCons (wVar 3) wNil)))) (wVar 0)))))))))
abbrev Pu_MixtureX_initX (K : PySem.W.Frag) : Prop := ∀ ds st Kn Kx, ds.length = 4 → sp_MixtureX_initX K ds st Kn Kx → wb_MixtureX_initX K (endsD Kn Kx) (startD ["self", "count", "starts", "table"] ds) st
abbrev wb_Mixture_met (K : PySem.W.Frag) : WS := (wRet (wOp gIx (wFld K "table" (wVar 0)) (wCallN 3 (sp_place_in_table K) (wCons (wFld K "count" (wVar 0)) (wCons (wVar 1) (wCons (wVar 2) wNil))))))
abbrev Pu_Mixture_met (K : PySem.W.Frag) : Prop := ∀ ds st Kn Kx, ds.length = 3 → sp_Mixture_met K ds st Kn Kx → wb_Mixture_met K (endsD Kn Kx) (startD ["self", "one", "other"] ds) st
abbrev wb_check_mixture (K : PySem.W.Frag) : WS := (wIf (wNot (wTv (wCB (gIsi K) (wCons (wVar 0) (wCons (wC (.ref (He.ga K "Mixture"))) wNil))))) (fun _ _ _ => False) wNext)
abbrev Pu_check_mixture (K : PySem.W.Frag) : Prop := ∀ ds st Kn Kx, ds.length = 1 → sp_check_mixture K ds st Kn Kx → wb_check_mixture K (endsD Kn Kx) (startD ["value"] ds) st
abbrev wb_is_pair_of_places (K : PySem.W.Frag) : WS := (wSeq (wIf (wOr (wNot (wTv (wCB (gIsi K) (wCons (wVar 0) (wCons (wC (.ty "tuple")) wNil))))) (wTv (wOp gNe (wCB gLen (wCons (wVar 0) wNil)) (wC (.int 2))))) (wRet (wC (.bl false))) wNext)
    (wRet (wAndV (wCallN 3 (sp_is_between K) (wCons (wOp gIx (wVar 0) (wC (.int 0))) (wCons (wC (.int 0)) (wCons (wOp gSub (wVar 1) (wC (.int 1))) wNil)))) (wAndV (wCallN 3 (sp_is_between K) (wCons (wOp gIx (wVar 0) (wC (.int 1))) (wCons (wC (.int 0)) (wCons (wOp gSub (wVar 1) (wC (.int 1))) wNil)))) (wOp gLt (wOp gIx (wVar 0) (wC (.int 0))) (wOp gIx (wVar 0) (wC (.int 1))))))))
abbrev Pu_is_pair_of_places (K : PySem.W.Frag) : Prop := ∀ ds st Kn Kx, ds.length = 2 → sp_is_pair_of_places K ds st Kn Kx → wb_is_pair_of_places K (endsD Kn Kx) (startD ["value", "size"] ds) st
abbrev wb_joined (K : PySem.W.Frag) : WS := (wSeq (wAsg (wMethN (He.ga K "Mixture") "met" 3 (sp_Mixture_met K) (wVar 0) (wCons (wOp gIx (wVar 1) (wVar 2)) (wCons (wOp gIx (wVar 1) (wVar 3)) wNil))) (dgT 2 (dgCons (dgN 4) (dgCons (dgN 5) dgNil))))
    (wRet (wTup (wCons (wOp gAdd (wOp gAdd (wOp gAdd (wSl (wVar 1) wNoPart (wPart (wVar 2))) (wTup (wCons (wVar 4) wNil))) (wSl (wVar 1) (wPart (wOp gAdd (wVar 2) (wC (.int 1)))) (wPart (wVar 3)))) (wSl (wVar 1) (wPart (wOp gAdd (wVar 3) (wC (.int 1)))) wNoPart)) (wCons (wVar 5) wNil)))))
abbrev Pu_joined (K : PySem.W.Frag) : Prop := ∀ ds st Kn Kx, ds.length = 4 → sp_joined K ds st Kn Kx → wb_joined K (endsD Kn Kx) (startD ["mixture", "kinds", "i", "j", "kind", "gift"] ds) st
abbrev wb_PotX_initX (K : PySem.W.Frag) : WS := (wSeq (wDrop (wCallN 1 (sp_check_mixture K) (wCons (wVar 1) wNil)))
    (wSeq (wSetF K "mixture" (wVar 1) (wVar 0))
    (wSeq (wSetF K "kinds" (wTup wNil) (wVar 0))
    (wSeq (wSetF K "given" (wC (.int 0)) (wVar 0))
    (wSeq (wSetF K "amounts" (wOp gMulTup (wTup (wCons (wC (.int 0)) wNil)) (wCB gLen (wCons (wFld K "starts" (wVar 1)) wNil))) (wVar 0))
    (wSeq (wSetF K "past" (wTup wNil) (wVar 0))
    (wSetF K "busy" (wC (.bl false)) (wVar 0))))))))
abbrev Pu_PotX_initX (K : PySem.W.Frag) : Prop := ∀ ds st Kn Kx, ds.length = 2 → sp_PotX_initX K ds st Kn Kx → wb_PotX_initX K (endsD Kn Kx) (startD ["self", "mixture"] ds) st
abbrev wb_Pot_become (K : PySem.W.Frag) : WS := (wSeq (wSetF K "past" (wTup (wStar (wFld K "past" (wVar 0)) (wCons (wTup (wCons (wFld K "kinds" (wVar 0)) (wCons (wFld K "given" (wVar 0)) (wCons (wFld K "amounts" (wVar 0)) wNil)))) wNil))) (wVar 0))
    (wAsg (wTup (wCons (wVar 1) (wCons (wVar 2) (wCons (wVar 3) wNil)))) (dgT 3 (dgCons (dgFld K "kinds" (wVar 0)) (dgCons (dgFld K "given" (wVar 0)) (dgCons (dgFld K "amounts" (wVar 0)) dgNil))))))
abbrev Pu_Pot_become (K : PySem.W.Frag) : Prop := ∀ ds st Kn Kx, ds.length = 4 → sp_Pot_become K ds st Kn Kx → wb_Pot_become K (endsD Kn Kx) (startD ["self", "kinds", "given", "amounts"] ds) st
abbrev wb_Pot_check_idle (K : PySem.W.Frag) : WS := (wIf (wTru (wFld K "busy" (wVar 0))) (fun _ _ _ => False) wNext)
abbrev Pu_Pot_check_idle (K : PySem.W.Frag) : Prop := ∀ ds st Kn Kx, ds.length = 1 → sp_Pot_check_idle K ds st Kn Kx → wb_Pot_check_idle K (endsD Kn Kx) (startD ["self"] ds) st
abbrev wb_Pot_check_room (K : PySem.W.Frag) : WS := (wIf (wTv (wOp gEq (wCB gLen (wCons (wFld K "past" (wVar 0)) wNil)) (wC (.int 60)))) (fun _ _ _ => False) wNext)
abbrev Pu_Pot_check_room (K : PySem.W.Frag) : Prop := ∀ ds st Kn Kx, ds.length = 1 → sp_Pot_check_room K ds st Kn Kx → wb_Pot_check_room K (endsD Kn Kx) (startD ["self"] ds) st
abbrev wb_Pot_put_in (K : PySem.W.Frag) : WS := (wSeq (wIf (wNot (wTv (wCallN 3 (sp_is_between K) (wCons (wVar 1) (wCons (wC (.int 0)) (wCons (wOp gSub (wCB gLen (wCons (wFld K "amounts" (wVar 0)) wNil)) (wC (.int 1))) wNil)))))) (fun _ _ _ => False) wNext)
    (wSeq (wDrop (wMethN (He.ga K "Pot") "check_room" 1 (sp_Pot_check_room K) (wVar 0) wNil))
    (wSeq (wAsg (wOp gIx (wFld K "starts" (wFld K "mixture" (wVar 0))) (wVar 1)) (dgT 2 (dgCons (dgN 2) (dgCons (dgN 3) dgNil))))
    (wSeq (wAsg (wCB gTupOf (wCons (wLcE (wCons (wFld K "amounts" (wVar 0)) wNil) (tg2 5 6) wYes (wOp gAdd (wVar 6) (wCB gInt (wCons (wOp gEq (wVar 5) (wVar 1)) wNil))) [5, 6]) wNil)) (dgN 4))
    (wSeq (wDrop (wMethN (He.ga K "Pot") "become" 4 (sp_Pot_become K) (wVar 0) (wCons (wOp gAdd (wFld K "kinds" (wVar 0)) (wTup (wCons (wVar 2) wNil))) (wCons (wOp gAdd (wFld K "given" (wVar 0)) (wVar 3)) (wCons (wVar 4) wNil)))))
    (wRet (wVar 3)))))))
abbrev Pu_Pot_put_in (K : PySem.W.Frag) : Prop := ∀ ds st Kn Kx, ds.length = 2 → sp_Pot_put_in K ds st Kn Kx → wb_Pot_put_in K (endsD Kn Kx) (startD ["self", "number", "kind", "gift", "amounts", "place", "amount"] ds) st
abbrev wb_Pot_let_meet (K : PySem.W.Frag) : WS := (wSeq (wIf (wNot (wTv (wCallN 2 (sp_is_pair_of_places K) (wCons (wTup (wCons (wVar 1) (wCons (wVar 2) wNil))) (wCons (wCB gLen (wCons (wFld K "kinds" (wVar 0)) wNil)) wNil))))) (fun _ _ _ => False) wNext)
    (wSeq (wDrop (wMethN (He.ga K "Pot") "check_room" 1 (sp_Pot_check_room K) (wVar 0) wNil))
    (wSeq (wAsg (wCallN 4 (sp_joined K) (wCons (wFld K "mixture" (wVar 0)) (wCons (wFld K "kinds" (wVar 0)) (wCons (wVar 1) (wCons (wVar 2) wNil))))) (dgT 2 (dgCons (dgN 3) (dgCons (dgN 4) dgNil))))
    (wSeq (wDrop (wMethN (He.ga K "Pot") "become" 4 (sp_Pot_become K) (wVar 0) (wCons (wVar 3) (wCons (wOp gAdd (wFld K "given" (wVar 0)) (wVar 4)) (wCons (wFld K "amounts" (wVar 0)) wNil)))))
    (wRet (wVar 4))))))
abbrev Pu_Pot_let_meet (K : PySem.W.Frag) : Prop := ∀ ds st Kn Kx, ds.length = 3 → sp_Pot_let_meet K ds st Kn Kx → wb_Pot_let_meet K (endsD Kn Kx) (startD ["self", "i", "j", "kinds", "gift"] ds) st
abbrev wb_Pot_put (K : PySem.W.Frag) : WS := (wSeq (wDrop (wMethN (He.ga K "Pot") "check_idle" 1 (sp_Pot_check_idle K) (wVar 0) wNil))
    (wRet (wMethN (He.ga K "Pot") "put_in" 2 (sp_Pot_put_in K) (wVar 0) (wCons (wVar 1) wNil))))
abbrev Pu_Pot_put (K : PySem.W.Frag) : Prop := ∀ ds st Kn Kx, ds.length = 2 → sp_Pot_put K ds st Kn Kx → wb_Pot_put K (endsD Kn Kx) (startD ["self", "number"] ds) st
abbrev wb_Pot_meet (K : PySem.W.Frag) : WS := (wSeq (wDrop (wMethN (He.ga K "Pot") "check_idle" 1 (sp_Pot_check_idle K) (wVar 0) wNil))
    (wRet (wMethN (He.ga K "Pot") "let_meet" 3 (sp_Pot_let_meet K) (wVar 0) (wCons (wVar 1) (wCons (wVar 2) wNil)))))
abbrev Pu_Pot_meet (K : PySem.W.Frag) : Prop := ∀ ds st Kn Kx, ds.length = 3 → sp_Pot_meet K ds st Kn Kx → wb_Pot_meet K (endsD Kn Kx) (startD ["self", "i", "j"] ds) st
abbrev wb_Pot_undo (K : PySem.W.Frag) : WS := (wSeq (wDrop (wMethN (He.ga K "Pot") "check_idle" 1 (sp_Pot_check_idle K) (wVar 0) wNil))
    (wSeq (wIf (wTv (wOp gEq (wCB gLen (wCons (wFld K "past" (wVar 0)) wNil)) (wC (.int 0)))) (fun _ _ _ => False) wNext)
    (wSeq (wAsg (wOp gIx (wFld K "past" (wVar 0)) (wUn gNeg (wC (.int 1)))) (dgT 3 (dgCons (dgFld K "kinds" (wVar 0)) (dgCons (dgFld K "given" (wVar 0)) (dgCons (dgFld K "amounts" (wVar 0)) dgNil)))))
    (wSetF K "past" (wSl (wFld K "past" (wVar 0)) wNoPart (wPart (wUn gNeg (wC (.int 1))))) (wVar 0)))))
abbrev Pu_Pot_undo (K : PySem.W.Frag) : Prop := ∀ ds st Kn Kx, ds.length = 1 → sp_Pot_undo K ds st Kn Kx → wb_Pot_undo K (endsD Kn Kx) (startD ["self"] ds) st
abbrev wb_PotX_lenX (K : PySem.W.Frag) : WS := (wRet (wCB gLen (wCons (wFld K "kinds" (wVar 0)) wNil)))
abbrev Pu_PotX_lenX (K : PySem.W.Frag) : Prop := ∀ ds st Kn Kx, ds.length = 1 → sp_PotX_lenX K ds st Kn Kx → wb_PotX_lenX K (endsD Kn Kx) (startD ["self"] ds) st
abbrev wb_pairs_mixture (K : PySem.W.Frag) : WS := (wRet (wMakeN (He.ga K "Mixture") 4 (sp_MixtureX_initX K) (wCons (wC (.int 2)) (wCons (wTup (wCons (wTup (wCons (wC (.int 0)) (wCons (wC (.int 0)) wNil))) wNil)) (wCons (wTup (wCons (wTup (wCons (wC (.int 1)) (wCons (wC (.int 1)) wNil))) (wCons (wTup (wCons (wC (.int 0)) (wCons (wC (.int 0)) wNil))) (wCons (wTup (wCons (wC (.int 1)) (wCons (wC (.int 0)) wNil))) wNil)))) wNil)))))
abbrev Pu_pairs_mixture (K : PySem.W.Frag) : Prop := ∀ ds st Kn Kx, ds.length = 0 → sp_pairs_mixture K ds st Kn Kx → wb_pairs_mixture K (endsD Kn Kx) (startD [] ds) st
abbrev wb_uneven_mixture (K : PySem.W.Frag) : WS := (wRet (wMakeN (He.ga K "Mixture") 4 (sp_MixtureX_initX K) (wCons (wC (.int 2)) (wCons (wTup (wCons (wTup (wCons (wC (.int 0)) (wCons (wC (.int 0)) wNil))) wNil)) (wCons (wTup (wCons (wTup (wCons (wC (.int 1)) (wCons (wC (.int 1)) wNil))) (wCons (wTup (wCons (wC (.int 0)) (wCons (wC (.int 1)) wNil))) (wCons (wTup (wCons (wC (.int 1)) (wCons (wC (.int 0)) wNil))) wNil)))) wNil)))))
abbrev Pu_uneven_mixture (K : PySem.W.Frag) : Prop := ∀ ds st Kn Kx, ds.length = 0 → sp_uneven_mixture K ds st Kn Kx → wb_uneven_mixture K (endsD Kn Kx) (startD [] ds) st
abbrev wb_law_bin (K : PySem.W.Frag) : WS := (wSeq (wAsg (wOp gAdd (wC (.int 662607)) (wOp gMul (wC (.int 20011)) (wVar 1))) (dgN 2))
    (wSeq (wForL (wSl (wVar 0) wNoPart (wPart (wC (.int 8)))) (dgN 3) (wAsg (wOp gMod (wCB gInt (wCons (wOp gAdd (wOp gAdd (wOp gMul (wVar 2) (wC (.int 61417))) (wOp gMul (wCB gInt (wCons (wVar 3) wNil)) (wC (.int 17)))) (wVar 1)) wNil)) (wC (.int 2147483179))) (dgN 2)))
    (wSeq (wAsg (wIfE (wTv (wOp gLt (wVar 1) (wCB gLen (wCons (wVar 0) wNil)))) (wCB gInt (wCons (wOp gIx (wVar 0) (wVar 1)) wNil)) (wVar 2)) (dgN 4))
    (wRet (wLstC (wCons (wIfE (wOr (wTv (wOp gLt (wVar 4) (wC (.int 0)))) (wTv (wOp gGe (wVar 4) (wOp gPow (wC (.int 10)) (wC (.int 18)))))) (wCB (g1I (fun _ => True) fun i => .int (if i < 0 then -i else i)) (wCons (wVar 4) wNil)) (wC (.int 0))) (wCons (wOp gMod (wCB gInt (wCons (wOp gAdd (wVar 2) (wOp gMul (wVar 4) (wC (.int 19)))) wNil)) (wC (.int 2147483179))) (wCons (wC (.int 0)) wNil))))))))
abbrev Pu_law_bin (K : PySem.W.Frag) : Prop := ∀ ds st Kn Kx, ds.length = 2 → sp_law_bin K ds st Kn Kx → wb_law_bin K (endsD Kn Kx) (startD ["script", "turn", "state", "each", "own"] ds) st
abbrev wb_law_nip (K : PySem.W.Frag) : WS := (wSeq (wAsg (wOp gAdd (wOp gIx (wVar 0) (wC (.int 2))) (wC (.int 1))) (dgSub (wVar 0) (wC (.int 2)) gSetL))
    (wSeq (wIf (wTv (wOp gGt (wOp gIx (wVar 0) (wC (.int 0))) (wC (.int 0)))) (wSeq (wAsg (wCB gDivmod (wCons (wOp gIx (wVar 0) (wC (.int 0))) (wCons (wVar 1) wNil))) (dgT 2 (dgCons (dgSub (wVar 0) (wC (.int 0)) gSetL) (dgCons (dgN 2) dgNil))))
    (wRet (wVar 2))) wNext)
    (wSeq (wAsg (wOp gMod (wCB gInt (wCons (wOp gAdd (wOp gAdd (wOp gMul (wOp gIx (wVar 0) (wC (.int 1))) (wC (.int 40013))) (wOp gMul (wC (.int 9161)) (wOp gIx (wVar 0) (wC (.int 2))))) (wC (.int 1))) wNil)) (wC (.int 2147483179))) (dgSub (wVar 0) (wC (.int 1)) gSetL))
    (wRet (wOp gMod (wCB gInt (wCons (wOp gFdiv (wOp gIx (wVar 0) (wC (.int 1))) (wC (.int 256))) wNil)) (wVar 1))))))
abbrev Pu_law_nip (K : PySem.W.Frag) : Prop := ∀ ds st Kn Kx, ds.length = 2 → sp_law_nip K ds st Kn Kx → wb_law_nip K (endsD Kn Kx) (startD ["bin_here", "size", "digit"] ds) st
abbrev wb_law_led (K : PySem.W.Frag) : WS := (wSeq (wAsg (wMakeN (He.ga K "Pot") 2 (sp_PotX_initX K) (wCons (wVar 1) wNil)) (dgN 3))
    (wSeq (wForR1 (wCons (wVar 2) wNil) (dgN 4) (wDrop (wMethN (He.ga K "Pot") "put" 2 (sp_Pot_put K) (wVar 3) (wCons (wC (.int 0)) wNil))))
    (wSeq (wForR3 (wCons (wVar 2) (wCons (wC (.int 1)) (wCons (wUn gNeg (wC (.int 1))) wNil))) (dgN 5) (wSeq (wAsg (wCallN 2 (sp_law_nip K) (wCons (wVar 0) (wCons (wOp gSub (wVar 5) (wC (.int 1))) wNil))) (dgN 6))
    (wDrop (wMethN (He.ga K "Pot") "meet" 3 (sp_Pot_meet K) (wVar 3) (wCons (wVar 6) (wCons (wOp gAdd (wOp gAdd (wVar 6) (wC (.int 1))) (wCallN 2 (sp_law_nip K) (wCons (wVar 0) (wCons (wOp gSub (wOp gSub (wVar 5) (wC (.int 1))) (wVar 6)) wNil)))) wNil))))))
    (wRet (wVar 3)))))
abbrev Pu_law_led (K : PySem.W.Frag) : Prop := ∀ ds st Kn Kx, ds.length = 3 → sp_law_led K ds st Kn Kx → wb_law_led K (endsD Kn Kx) (startD ["bin_here", "here", "many", "pot_here", "turn", "left", "a"] ds) st
abbrev wb_law_right (K : PySem.W.Frag) : WS := (wSeq (wPar 1 2 (wCons (wOp gAdd (wC (.int 1)) (wCallN 2 (sp_law_nip K) (wCons (wVar 0) (wCons (wC (.int 12)) wNil)))) (wCons (wCallN 2 (sp_law_nip K) (wCons (wVar 0) (wCons (wOp gAdd (wOp gPow (wC (.int 10)) (wC (.int 6))) (wC (.int 1))) wNil))) wNil)))
    (wSeq (wAsg (wCallN 3 (sp_law_led K) (wCons (wVar 0) (wCons (wCall (sp_pairs_mixture K) wNil) (wCons (wVar 1) wNil)))) (dgN 3))
    (wSeq (wIf (wTv (wOp gNe (wLst (wCons (wFld K "given" (wVar 3)) (wCons (wLenO (He.ga K "Pot") (sp_PotX_lenX K) (wCons (wVar 3) wNil)) (wCons (wFld K "amounts" (wVar 3)) wNil)))) (wLst (wCons (wOp gFdiv (wVar 1) (wC (.int 2))) (wCons (wC (.int 1)) (wCons (wTup (wCons (wVar 1) wNil)) wNil)))))) (wRet (wC (.bl false))) wNext)
    (wSeq (wIf (wTv (wOp gNe (wFld K "kinds" (wVar 3)) (wTup (wCons (wCB gInt (wCons (wOp gEq (wOp gMod (wVar 1) (wC (.int 2))) (wC (.int 0))) wNil)) wNil)))) (wRet (wC (.bl false))) wNext)
    (wSeq (wForR1 (wCons (wOp gSub (wOp gMul (wC (.int 2)) (wVar 1)) (wC (.int 1))) wNil) (dgN 4) (wIf (wTv (wOp gNotN (wMethN (He.ga K "Pot") "undo" 1 (sp_Pot_undo K) (wVar 3) wNil) (wC .non))) (wRet (wC (.bl false))) wNext))
    (wSeq (wIf (wOr (wTv (wOp gNe (wLst (wCons (wFld K "given" (wVar 3)) (wCons (wFld K "kinds" (wVar 3)) (wCons (wFld K "amounts" (wVar 3)) wNil)))) (wLst (wCons (wC (.int 0)) (wCons (wTup wNil) (wCons (wTup (wCons (wC (.int 0)) wNil)) wNil)))))) (wTruO (He.ga K "Pot") (sp_PotX_lenX K) (wVar 3))) (wRet (wC (.bl false))) wNext)
    (wSeq (wAsg (wLst (wCons (wFld K "given" (wCallN 3 (sp_law_led K) (wCons (wVar 0) (wCons (wCall (sp_uneven_mixture K) wNil) (wCons (wC (.int 3)) wNil))))) (wCons (wFld K "given" (wCallN 3 (sp_law_led K) (wCons (wVar 0) (wCons (wCall (sp_uneven_mixture K) wNil) (wCons (wC (.int 4)) wNil))))) wNil))) (dgN 5))
    (wSeq (wIf (wTv (wOp (gInD true) (wVar 5) (wLst (wCons (wLst (wCons (wC (.int 2)) (wCons (wC (.int 2)) wNil))) (wCons (wLst (wCons (wC (.int 2)) (wCons (wC (.int 3)) wNil))) wNil))))) (wRet (wC (.bl false))) wNext)
    (wSeq (wAsg (wMakeN (He.ga K "Mixture") 4 (sp_MixtureX_initX K) (wCons (wC (.int 1)) (wCons (wTup (wCons (wTup (wCons (wC (.int 0)) (wCons (wC (.int 2)) wNil))) wNil)) (wCons (wTup (wCons (wTup (wCons (wC (.int 0)) (wCons (wVar 2) wNil))) wNil)) wNil)))) (dgN 6))
    (wSeq (wIf (wTv (wOp gNe (wFld K "given" (wCallN 3 (sp_law_led K) (wCons (wVar 0) (wCons (wVar 6) (wCons (wVar 1) wNil))))) (wOp gAdd (wOp gMul (wC (.int 2)) (wVar 1)) (wOp gMul (wVar 2) (wOp gSub (wVar 1) (wC (.int 1))))))) (wRet (wC (.bl false))) wNext)
    (wSeq (wAsg (wMakeN (He.ga K "Mixture") 4 (sp_MixtureX_initX K) (wCons (wC (.int 3)) (wCons (wTup (wCons (wTup (wCons (wC (.int 1)) (wCons (wC (.int 0)) wNil))) wNil)) (wCons (wTup (wCons (wTup (wCons (wC (.int 0)) (wCons (wC (.int 0)) wNil))) (wCons (wTup (wCons (wC (.int 1)) (wCons (wC (.int 0)) wNil))) (wCons (wTup (wCons (wC (.int 2)) (wCons (wC (.int 0)) wNil))) (wCons (wTup (wCons (wC (.int 2)) (wCons (wC (.int 0)) wNil))) (wCons (wTup (wCons (wC (.int 0)) (wCons (wVar 2) wNil))) (wCons (wTup (wCons (wC (.int 1)) (wCons (wVar 2) wNil))) wNil))))))) wNil)))) (dgN 7))
    (wRet (wOp gEq (wFld K "given" (wCallN 3 (sp_law_led K) (wCons (wVar 0) (wCons (wVar 7) (wCons (wVar 1) wNil))))) (wOp gMul (wVar 2) (wOp gFdiv (wVar 1) (wC (.int 3)))))))))))))))))
abbrev Pu_law_right (K : PySem.W.Frag) : Prop := ∀ ds st Kn Kx, ds.length = 1 → sp_law_right K ds st Kn Kx → wb_law_right K (endsD Kn Kx) (startD ["bin_here", "many", "big", "pot_here", "turn", "uneven", "lone", "third"] ds) st
abbrev wb_law (K : PySem.W.Frag) : WS := (wRet (wCB (gAll fun bs => bs.all id) (wCons (wLcR1 (wCons (wCB gMax2 (wCons (wC (.int 2)) (wCons (wCB gMin2 (wCons (wCB gLen (wCons (wVar 0) wNil)) (wCons (wC (.int 5)) wNil))) wNil))) wNil) (tg1 1) wYes (wCallN 1 (sp_law_right K) (wCons (wCallN 2 (sp_law_bin K) (wCons (wVar 0) (wCons (wVar 1) wNil))) wNil)) [1]) wNil)))
abbrev Pu_law (K : PySem.W.Frag) : Prop := ∀ ds st Kn Kx, ds.length = 1 → sp_law K ds st Kn Kx → wb_law K (endsD Kn Kx) (startD ["script", "turn"] ds) st
end K82

namespace K82
open PySem PySem.Spec PyProof.Rows L2 DL
section
variable {st : Sto} {Kn : KD} {Kb : Bool → Sto → Prop} {i j : Int} {x y : Str} {xs ys : List D} {b : Bool} {lo hi : Option Int}
theorem sAdd1 : gAdd (.int i) (.int j) st Kn ↔ Kn (.int (i + j)) st := Iff.rfl
theorem sAdd2 : gAdd (.str x) (.str y) st Kn ↔ x.length + y.length ≤ sizeLine ∧ Kn (.str (x ++ y)) st := Iff.rfl
theorem sAdd3 : gAdd (.lst xs) (.lst ys) st Kn ↔ xs.length + ys.length ≤ sizeLine ∧ Kn (.lst (xs ++ ys)) st := Iff.rfl
theorem sAdd4 : gAdd (.tup xs) (.tup ys) st Kn ↔ xs.length + ys.length ≤ sizeLine ∧ Kn (.tup (xs ++ ys)) st := Iff.rfl
theorem sMul1 : gMul (.int i) (.int j) st Kn ↔ CMul i j ∧ Kn (.int (i * j)) st := Iff.rfl
theorem sMulT : gMulTup (.tup xs) (.int j) st Kn ↔ (xs ≠ [] ∧ xs.length ≤ 1000 ∧ 1 ≤ j ∧ j ≤ 1000) ∧ Kn (.tup (List.replicate j.toNat xs).flatten) st := Iff.rfl
theorem sLen1 : gLen [.lst xs] st Kn ↔ Kn (.int xs.length) st := Iff.rfl
theorem sLen2 : gLen [.tup xs] st Kn ↔ Kn (.int xs.length) st := Iff.rfl
theorem sLen3 {ns : List Int} : gLen [.scr ns] st Kn ↔ Kn (.int ns.length) st := Iff.rfl
theorem sInt1 : gInt [.int i] st Kn ↔ Kn (.int i) st := Iff.rfl
theorem sInt2 : gInt [.bl b] st Kn ↔ Kn (.int (if b then 1 else 0)) st := Iff.rfl
theorem sTup1 : gTupOf [.lst xs] st Kn ↔ Kn (.tup xs) st := Iff.rfl
theorem sTup2 : gTupOf [.tup xs] st Kn ↔ Kn (.tup xs) st := Iff.rfl
theorem sLst1 : gListOf [.lst xs] st Kn ↔ Kn (.lst xs) st := Iff.rfl
theorem sLst2 : gListOf [.tup xs] st Kn ↔ Kn (.lst xs) st := Iff.rfl
theorem sSl1 : gSl (.lst xs) lo hi st Kn ↔ Kn (.lst (DL.cutD xs lo hi)) st := Iff.rfl
theorem sSl2 : gSl (.tup xs) lo hi st Kn ↔ Kn (.tup (DL.cutD xs lo hi)) st := Iff.rfl
theorem sSl3 {ns : List Int} : gSl (.scr ns) lo hi st Kn ↔ Kn (.lst (DL.cutD (ns.map D.int) lo hi)) st := Iff.rfl
theorem sTru1 : gTru (.bl b) st Kb ↔ Kb b st := Iff.rfl
theorem sTru2 : gTru (.int i) st Kb ↔ Kb (i != 0) st := Iff.rfl
theorem sTru3 : gTru (.tup xs) st Kb ↔ Kb (!xs.isEmpty) st := Iff.rfl
theorem sDvm : gDivmod [.int i, .int j] st Kn ↔ CDiv i j ∧ Kn (.tup [.int (i / j), .int (i % j)]) st := Iff.rfl
end
theorem kit_self {K : PySem.W.Frag} (T : String) : PySem.W.kitOne K (.type T) (.type T) = some true := by
  unfold PySem.W.kitOne; rw [if_pos (by simp)]
theorem kit_ref {K : PySem.W.Frag} (a : Addr) : PySem.W.kitOne K (.ref a) (.ref a) = some true := by
  unfold PySem.W.kitOne; rw [if_pos (by simp)]
theorem kit_int_bool {K : PySem.W.Frag} : PySem.W.kitOne K (.type "int") (.type "bool") = some false := by rfl
theorem isi_int {K : PySem.W.Frag} {i : Int} {st : Sto} {Kn : KD} (h : Kn (.bl true) st) : gIsi K [.int i, .ty "int"] st Kn := ⟨_, _, true, rfl, rfl, kit_self _, h⟩
theorem isi_intbl {K : PySem.W.Frag} {i : Int} {st : Sto} {Kn : KD} (h : Kn (.bl false) st) : gIsi K [.int i, .ty "bool"] st Kn := ⟨_, _, false, rfl, rfl, kit_int_bool, h⟩
theorem isi_tup {K : PySem.W.Frag} {ds : List D} {st : Sto} {Kn : KD} (h : Kn (.bl true) st) : gIsi K [.tup ds, .ty "tuple"] st Kn := ⟨_, _, true, rfl, rfl, kit_self _, h⟩
theorem isi_mix {K : PySem.W.Frag} (T : TP K) {a : Addr} {fs : List (Str × D)} {st : Sto} {Kn : KD} (l : st.lookup a = some (.ins (cM K) fs)) (h : Kn (.bl true) st) : gIsi K [.ref a, .ref (cM K)] st Kn := by
  refine ⟨.ref (cM K), .ref (cM K), true, ?_, rfl, kit_ref _, h⟩
  show (match st.lookup a with
    | some (.lst _) => _
    | some (.dT _ _) => _
    | some (.ins C _) => _
    | none => _)
  rw [l]
  exact ⟨rfl, T.inM⟩
theorem pure_is_between {K : PySem.W.Frag} (T : TP K) : Pu_is_between K := by
  rintro ds st Kn Kx - ⟨v, lo, hi, rfl, h⟩
  simp only [startD, endsD, wRet, wRetN, wAndV, wOrV, wNotV, wCB, wCons, wNil, wVar, wC, wChain, wOp, wUn, wIf, wIfE, wTv, wTru, wNot, wAnd, wOr, wSeq, wNext, wAsg, wDrop, dgN, dgT, dgCons, dgNil, dgSub, dgFld, wPar, wTup, wLst, wLstC, wFld, wSetF, wMeth, wMake, wCall, wSl, wNoPart, wPart, wStar, wLenO, wTruO, wCallN, wMakeN, wMethN, gI20, gI2, gNeg, g1I, g2I, gNotN, gIsN, D.isNon, sAdd1, sAdd2, sAdd3, sAdd4, sMul1, sMulT, sLen1, sLen2, sLen3, sInt1, sInt2, sTup1, sTup2, sLst1, sLst2, sSl1, sSl2, sSl3, sTru1, sTru2, sTru3, sDvm, List.map, List.length_cons, List.length_nil, List.replicate, List.cons_append, List.nil_append, List.append_nil, List.getElem?_cons_zero, List.getElem?_cons_succ, List.set_cons_zero, List.set_cons_succ, DL.eq_int, DL.ne_int, Bool.not_true, Bool.not_false, decide_true, decide_false, true_and, and_true]
  refine isi_int ?_
  simp only [startD, endsD, wRet, wRetN, wAndV, wOrV, wNotV, wCB, wCons, wNil, wVar, wC, wChain, wOp, wUn, wIf, wIfE, wTv, wTru, wNot, wAnd, wOr, wSeq, wNext, wAsg, wDrop, dgN, dgT, dgCons, dgNil, dgSub, dgFld, wPar, wTup, wLst, wLstC, wFld, wSetF, wMeth, wMake, wCall, wSl, wNoPart, wPart, wStar, wLenO, wTruO, wCallN, wMakeN, wMethN, gI20, gI2, gNeg, g1I, g2I, gNotN, gIsN, D.isNon, sAdd1, sAdd2, sAdd3, sAdd4, sMul1, sMulT, sLen1, sLen2, sLen3, sInt1, sInt2, sTup1, sTup2, sLst1, sLst2, sSl1, sSl2, sSl3, sTru1, sTru2, sTru3, sDvm, List.map, List.length_cons, List.length_nil, List.replicate, List.cons_append, List.nil_append, List.append_nil, List.getElem?_cons_zero, List.getElem?_cons_succ, List.set_cons_zero, List.set_cons_succ, DL.eq_int, DL.ne_int, Bool.not_true, Bool.not_false, decide_true, decide_false, true_and, and_true]
  refine isi_intbl ?_
  simp only [startD, endsD, wRet, wRetN, wAndV, wOrV, wNotV, wCB, wCons, wNil, wVar, wC, wChain, wOp, wUn, wIf, wIfE, wTv, wTru, wNot, wAnd, wOr, wSeq, wNext, wAsg, wDrop, dgN, dgT, dgCons, dgNil, dgSub, dgFld, wPar, wTup, wLst, wLstC, wFld, wSetF, wMeth, wMake, wCall, wSl, wNoPart, wPart, wStar, wLenO, wTruO, wCallN, wMakeN, wMethN, gI20, gI2, gNeg, g1I, g2I, gNotN, gIsN, D.isNon, sAdd1, sAdd2, sAdd3, sAdd4, sMul1, sMulT, sLen1, sLen2, sLen3, sInt1, sInt2, sTup1, sTup2, sLst1, sLst2, sSl1, sSl2, sSl3, sTru1, sTru2, sTru3, sDvm, List.map, List.length_cons, List.length_nil, List.replicate, List.cons_append, List.nil_append, List.append_nil, List.getElem?_cons_zero, List.getElem?_cons_succ, List.set_cons_zero, List.set_cons_succ, DL.eq_int, DL.ne_int, Bool.not_true, Bool.not_false, decide_true, decide_false, true_and, and_true]
  by_cases h1 : lo ≤ v
  · rw [decide_eq_true h1]
    by_cases h2 : v ≤ hi
    · rw [decide_eq_true (⟨h1, h2⟩ : lo ≤ v ∧ v ≤ hi)] at h
      rw [decide_eq_true h2]; exact h
    · rw [decide_eq_false (fun z : lo ≤ v ∧ v ≤ hi => h2 z.2)] at h
      rw [decide_eq_false h2]; exact h
  · rw [decide_eq_false (fun z : lo ≤ v ∧ v ≤ hi => h1 z.1)] at h
    rw [decide_eq_false h1]; exact h
theorem atI_nat {α : Type} {xs : List α} {i : Int} {a : α} (h0 : 0 ≤ i) (h : xs[i.toNat]? = some a) : L2.atI xs i = some a := by
  unfold L2.atI
  have hl : i.toNat < xs.length := (List.getElem?_eq_some_iff.mp h).1
  have e : L2.ixN xs.length i = some i.toNat := by
    unfold L2.ixN
    rw [if_pos h0, if_pos (by omega)]
  rw [e]; exact h
theorem ix_tup {ds : List D} {i : Int} {d : D} {st : Sto} {Kn : KD} (h0 : 0 ≤ i) (h : ds[i.toNat]? = some d) (k : Kn d st) : gIx (.tup ds) (.int i) st Kn := by
  show (match L2.atI ds i with
    | some d => Kn d st
    | none => False)
  rw [atI_nat h0 h]; exact k
theorem btw {K : PySem.W.Frag} {v lo hi : Int} {st : Sto} {Kn : KD} {Kx : KX} (h1 : lo ≤ v) (h2 : v ≤ hi) (k : Kn (.bl true) st) : sp_is_between K [.int v, .int lo, .int hi] st Kn Kx :=
  ⟨v, lo, hi, rfl, by rw [decide_eq_true (⟨h1, h2⟩ : lo ≤ v ∧ v ≤ hi)]; exact k⟩
theorem pure_is_entry {K : PySem.W.Frag} (T : TP K) : Pu_is_entry K := by
  rintro ds st Kn Kx - ⟨⟨k, g⟩, c, rfl, ⟨h1, h2, h3, h4⟩, h⟩
  dsimp only at h1 h2 h3 h4
  simp only [startD, endsD, wRet, wRetN, wAndV, wOrV, wNotV, wCB, wCons, wNil, wVar, wC, wChain, wOp, wUn, wIf, wIfE, wTv, wTru, wNot, wAnd, wOr, wSeq, wNext, wAsg, wDrop, dgN, dgT, dgCons, dgNil, dgSub, dgFld, wPar, wTup, wLst, wLstC, wFld, wSetF, wMeth, wMake, wCall, wSl, wNoPart, wPart, wStar, wLenO, wTruO, wCallN, wMakeN, wMethN, gI20, gI2, gNeg, g1I, g2I, gNotN, gIsN, D.isNon, sAdd1, sAdd2, sAdd3, sAdd4, sMul1, sMulT, sLen1, sLen2, sLen3, sInt1, sInt2, sTup1, sTup2, sLst1, sLst2, sSl1, sSl2, sSl3, sTru1, sTru2, sTru3, sDvm, List.map, List.length_cons, List.length_nil, List.replicate, List.cons_append, List.nil_append, List.append_nil, List.getElem?_cons_zero, List.getElem?_cons_succ, List.set_cons_zero, List.set_cons_succ, DL.eq_int, DL.ne_int, Bool.not_true, Bool.not_false, decide_true, decide_false, true_and, and_true]
  refine isi_tup ?_
  simp only [startD, endsD, wRet, wRetN, wAndV, wOrV, wNotV, wCB, wCons, wNil, wVar, wC, wChain, wOp, wUn, wIf, wIfE, wTv, wTru, wNot, wAnd, wOr, wSeq, wNext, wAsg, wDrop, dgN, dgT, dgCons, dgNil, dgSub, dgFld, wPar, wTup, wLst, wLstC, wFld, wSetF, wMeth, wMake, wCall, wSl, wNoPart, wPart, wStar, wLenO, wTruO, wCallN, wMakeN, wMethN, gI20, gI2, gNeg, g1I, g2I, gNotN, gIsN, D.isNon, sAdd1, sAdd2, sAdd3, sAdd4, sMul1, sMulT, sLen1, sLen2, sLen3, sInt1, sInt2, sTup1, sTup2, sLst1, sLst2, sSl1, sSl2, sSl3, sTru1, sTru2, sTru3, sDvm, List.map, List.length_cons, List.length_nil, List.replicate, List.cons_append, List.nil_append, List.append_nil, List.getElem?_cons_zero, List.getElem?_cons_succ, List.set_cons_zero, List.set_cons_succ, DL.eq_int, DL.ne_int, Bool.not_true, Bool.not_false, decide_true, decide_false, true_and, and_true]
  unfold pD
  simp only [startD, endsD, wRet, wRetN, wAndV, wOrV, wNotV, wCB, wCons, wNil, wVar, wC, wChain, wOp, wUn, wIf, wIfE, wTv, wTru, wNot, wAnd, wOr, wSeq, wNext, wAsg, wDrop, dgN, dgT, dgCons, dgNil, dgSub, dgFld, wPar, wTup, wLst, wLstC, wFld, wSetF, wMeth, wMake, wCall, wSl, wNoPart, wPart, wStar, wLenO, wTruO, wCallN, wMakeN, wMethN, gI20, gI2, gNeg, g1I, g2I, gNotN, gIsN, D.isNon, sAdd1, sAdd2, sAdd3, sAdd4, sMul1, sMulT, sLen1, sLen2, sLen3, sInt1, sInt2, sTup1, sTup2, sLst1, sLst2, sSl1, sSl2, sSl3, sTru1, sTru2, sTru3, sDvm, List.map, List.length_cons, List.length_nil, List.replicate, List.cons_append, List.nil_append, List.append_nil, List.getElem?_cons_zero, List.getElem?_cons_succ, List.set_cons_zero, List.set_cons_succ, DL.eq_int, DL.ne_int, Bool.not_true, Bool.not_false, decide_true, decide_false, true_and, and_true]
  rw [show (!((((0 + 1 + 1 : Nat) : Int)) == 2)) = false by decide]
  simp only [startD, endsD, wRet, wRetN, wAndV, wOrV, wNotV, wCB, wCons, wNil, wVar, wC, wChain, wOp, wUn, wIf, wIfE, wTv, wTru, wNot, wAnd, wOr, wSeq, wNext, wAsg, wDrop, dgN, dgT, dgCons, dgNil, dgSub, dgFld, wPar, wTup, wLst, wLstC, wFld, wSetF, wMeth, wMake, wCall, wSl, wNoPart, wPart, wStar, wLenO, wTruO, wCallN, wMakeN, wMethN, gI20, gI2, gNeg, g1I, g2I, gNotN, gIsN, D.isNon, sAdd1, sAdd2, sAdd3, sAdd4, sMul1, sMulT, sLen1, sLen2, sLen3, sInt1, sInt2, sTup1, sTup2, sLst1, sLst2, sSl1, sSl2, sSl3, sTru1, sTru2, sTru3, sDvm, List.map, List.length_cons, List.length_nil, List.replicate, List.cons_append, List.nil_append, List.append_nil, List.getElem?_cons_zero, List.getElem?_cons_succ, List.set_cons_zero, List.set_cons_succ, DL.eq_int, DL.ne_int, Bool.not_true, Bool.not_false, decide_true, decide_false, true_and, and_true]
  refine ix_tup (by decide) rfl (btw h1 (by omega) ?_)
  simp only [startD, endsD, wRet, wRetN, wAndV, wOrV, wNotV, wCB, wCons, wNil, wVar, wC, wChain, wOp, wUn, wIf, wIfE, wTv, wTru, wNot, wAnd, wOr, wSeq, wNext, wAsg, wDrop, dgN, dgT, dgCons, dgNil, dgSub, dgFld, wPar, wTup, wLst, wLstC, wFld, wSetF, wMeth, wMake, wCall, wSl, wNoPart, wPart, wStar, wLenO, wTruO, wCallN, wMakeN, wMethN, gI20, gI2, gNeg, g1I, g2I, gNotN, gIsN, D.isNon, sAdd1, sAdd2, sAdd3, sAdd4, sMul1, sMulT, sLen1, sLen2, sLen3, sInt1, sInt2, sTup1, sTup2, sLst1, sLst2, sSl1, sSl2, sSl3, sTru1, sTru2, sTru3, sDvm, List.map, List.length_cons, List.length_nil, List.replicate, List.cons_append, List.nil_append, List.append_nil, List.getElem?_cons_zero, List.getElem?_cons_succ, List.set_cons_zero, List.set_cons_succ, DL.eq_int, DL.ne_int, Bool.not_true, Bool.not_false, decide_true, decide_false, true_and, and_true]
  exact ix_tup (by decide) rfl (btw h3 h4 h)
theorem mem_pD {l : List (Int × Int)} {d : D} (h : d ∈ l.map pD) : ∃ p, p ∈ l ∧ d = pD p := by
  obtain ⟨p, hp, e⟩ := List.mem_map.mp h
  exact ⟨p, hp, e.symm⟩
theorem loop_entry {K : PySem.W.Frag} {c : Int} {DD : DEnds} {b : WS} (hb : b = (wIf (wNot (wTv (wCallN 2 (sp_is_entry K) (wCons (wVar 3) (wCons (wVar 1) wNil))))) (wRet (wVar 2)) wNext)) : ∀ (l : List (Int × Int)) (k : Nat) (e0 : Option D) (i x : Option D) (st : Sto), (∀ p ∈ l, okE c p) →
    (∀ i' x', DD.nx [e0, some (.int c), i', x'] st) → forL (dgT 2 (dgCons (dgN 2) (dgCons (dgN 3) dgNil))) b DD (enumD k (l.map pD)) [e0, some (.int c), i, x] st
  | [], _, e0, i, x, st, _, h => h i x
  | p :: l, k, e0, i, x, st, ho, h => by
    subst hb
    rw [List.map_cons]
    unfold enumD forL
    simp only [startD, endsD, wRet, wRetN, wAndV, wOrV, wNotV, wCB, wCons, wNil, wVar, wC, wChain, wOp, wUn, wIf, wIfE, wTv, wTru, wNot, wAnd, wOr, wSeq, wNext, wAsg, wDrop, dgN, dgT, dgCons, dgNil, dgSub, dgFld, wPar, wTup, wLst, wLstC, wFld, wSetF, wMeth, wMake, wCall, wSl, wNoPart, wPart, wStar, wLenO, wTruO, wCallN, wMakeN, wMethN, gI20, gI2, gNeg, g1I, g2I, gNotN, gIsN, D.isNon, sAdd1, sAdd2, sAdd3, sAdd4, sMul1, sMulT, sLen1, sLen2, sLen3, sInt1, sInt2, sTup1, sTup2, sLst1, sLst2, sSl1, sSl2, sSl3, sTru1, sTru2, sTru3, sDvm, List.map, List.length_cons, List.length_nil, List.replicate, List.cons_append, List.nil_append, List.append_nil, List.getElem?_cons_zero, List.getElem?_cons_succ, List.set_cons_zero, List.set_cons_succ, DL.eq_int, DL.ne_int, Bool.not_true, Bool.not_false, decide_true, decide_false, true_and, and_true]
    refine ⟨p, c, rfl, ho p List.mem_cons_self, ?_⟩
    exact loop_entry rfl l (k + 1) e0 _ _ st (fun q hq => ho q (List.mem_cons_of_mem _ hq)) h
theorem pure_wrong_entry {K : PySem.W.Frag} (T : TP K) : Pu_wrong_entry K := by
  rintro ds st Kn Kx - ⟨l, c, rfl, ho, h⟩
  simp only [startD, endsD, wRet, wRetN, wAndV, wOrV, wNotV, wCB, wCons, wNil, wVar, wC, wChain, wOp, wUn, wIf, wIfE, wTv, wTru, wNot, wAnd, wOr, wSeq, wNext, wAsg, wDrop, dgN, dgT, dgCons, dgNil, dgSub, dgFld, wPar, wTup, wLst, wLstC, wFld, wSetF, wMeth, wMake, wCall, wSl, wNoPart, wPart, wStar, wLenO, wTruO, wCallN, wMakeN, wMethN, gI20, gI2, gNeg, g1I, g2I, gNotN, gIsN, D.isNon, sAdd1, sAdd2, sAdd3, sAdd4, sMul1, sMulT, sLen1, sLen2, sLen3, sInt1, sInt2, sTup1, sTup2, sLst1, sLst2, sSl1, sSl2, sSl3, sTru1, sTru2, sTru3, sDvm, List.map, List.length_cons, List.length_nil, List.replicate, List.cons_append, List.nil_append, List.append_nil, List.getElem?_cons_zero, List.getElem?_cons_succ, List.set_cons_zero, List.set_cons_succ, DL.eq_int, DL.ne_int, Bool.not_true, Bool.not_false, decide_true, decide_false, true_and, and_true]
  simp only [wForE, enumOf]
  simp only [startD, endsD, wRet, wRetN, wAndV, wOrV, wNotV, wCB, wCons, wNil, wVar, wC, wChain, wOp, wUn, wIf, wIfE, wTv, wTru, wNot, wAnd, wOr, wSeq, wNext, wAsg, wDrop, dgN, dgT, dgCons, dgNil, dgSub, dgFld, wPar, wTup, wLst, wLstC, wFld, wSetF, wMeth, wMake, wCall, wSl, wNoPart, wPart, wStar, wLenO, wTruO, wCallN, wMakeN, wMethN, gI20, gI2, gNeg, g1I, g2I, gNotN, gIsN, D.isNon, sAdd1, sAdd2, sAdd3, sAdd4, sMul1, sMulT, sLen1, sLen2, sLen3, sInt1, sInt2, sTup1, sTup2, sLst1, sLst2, sSl1, sSl2, sSl3, sTru1, sTru2, sTru3, sDvm, List.map, List.length_cons, List.length_nil, List.replicate, List.cons_append, List.nil_append, List.append_nil, List.getElem?_cons_zero, List.getElem?_cons_succ, List.set_cons_zero, List.set_cons_succ, DL.eq_int, DL.ne_int, Bool.not_true, Bool.not_false, decide_true, decide_false, true_and, and_true]
  exact loop_entry rfl l 0 _ _ _ st ho fun i' x' => by
    simp only [startD, endsD, wRet, wRetN, wAndV, wOrV, wNotV, wCB, wCons, wNil, wVar, wC, wChain, wOp, wUn, wIf, wIfE, wTv, wTru, wNot, wAnd, wOr, wSeq, wNext, wAsg, wDrop, dgN, dgT, dgCons, dgNil, dgSub, dgFld, wPar, wTup, wLst, wLstC, wFld, wSetF, wMeth, wMake, wCall, wSl, wNoPart, wPart, wStar, wLenO, wTruO, wCallN, wMakeN, wMethN, gI20, gI2, gNeg, g1I, g2I, gNotN, gIsN, D.isNon, sAdd1, sAdd2, sAdd3, sAdd4, sMul1, sMulT, sLen1, sLen2, sLen3, sInt1, sInt2, sTup1, sTup2, sLst1, sLst2, sSl1, sSl2, sSl3, sTru1, sTru2, sTru3, sDvm, List.map, List.length_cons, List.length_nil, List.replicate, List.cons_append, List.nil_append, List.append_nil, List.getElem?_cons_zero, List.getElem?_cons_succ, List.set_cons_zero, List.set_cons_succ, DL.eq_int, DL.ne_int, Bool.not_true, Bool.not_false, decide_true, decide_false, true_and, and_true]
    exact h
theorem pure_check_starts {K : PySem.W.Frag} (T : TP K) : Pu_check_starts K := by
  rintro ds st Kn Kx - ⟨l, c, rfl, ⟨h1, h2⟩, ho, h⟩
  simp only [startD, endsD, wRet, wRetN, wAndV, wOrV, wNotV, wCB, wCons, wNil, wVar, wC, wChain, wOp, wUn, wIf, wIfE, wTv, wTru, wNot, wAnd, wOr, wSeq, wNext, wAsg, wDrop, dgN, dgT, dgCons, dgNil, dgSub, dgFld, wPar, wTup, wLst, wLstC, wFld, wSetF, wMeth, wMake, wCall, wSl, wNoPart, wPart, wStar, wLenO, wTruO, wCallN, wMakeN, wMethN, gI20, gI2, gNeg, g1I, g2I, gNotN, gIsN, D.isNon, sAdd1, sAdd2, sAdd3, sAdd4, sMul1, sMulT, sLen1, sLen2, sLen3, sInt1, sInt2, sTup1, sTup2, sLst1, sLst2, sSl1, sSl2, sSl3, sTru1, sTru2, sTru3, sDvm, List.map, List.length_cons, List.length_nil, List.replicate, List.cons_append, List.nil_append, List.append_nil, List.getElem?_cons_zero, List.getElem?_cons_succ, List.set_cons_zero, List.set_cons_succ, DL.eq_int, DL.ne_int, Bool.not_true, Bool.not_false, decide_true, decide_false, true_and, and_true]
  refine isi_tup ?_
  simp only [startD, endsD, wRet, wRetN, wAndV, wOrV, wNotV, wCB, wCons, wNil, wVar, wC, wChain, wOp, wUn, wIf, wIfE, wTv, wTru, wNot, wAnd, wOr, wSeq, wNext, wAsg, wDrop, dgN, dgT, dgCons, dgNil, dgSub, dgFld, wPar, wTup, wLst, wLstC, wFld, wSetF, wMeth, wMake, wCall, wSl, wNoPart, wPart, wStar, wLenO, wTruO, wCallN, wMakeN, wMethN, gI20, gI2, gNeg, g1I, g2I, gNotN, gIsN, D.isNon, sAdd1, sAdd2, sAdd3, sAdd4, sMul1, sMulT, sLen1, sLen2, sLen3, sInt1, sInt2, sTup1, sTup2, sLst1, sLst2, sSl1, sSl2, sSl3, sTru1, sTru2, sTru3, sDvm, List.map, List.length_cons, List.length_nil, List.replicate, List.cons_append, List.nil_append, List.append_nil, List.getElem?_cons_zero, List.getElem?_cons_succ, List.set_cons_zero, List.set_cons_succ, DL.eq_int, DL.ne_int, Bool.not_true, Bool.not_false, decide_true, decide_false, true_and, and_true]
  rw [List.length_map, decide_eq_true (show (1 : Int) ≤ (l.length : Int) by omega), decide_eq_true (show (l.length : Int) ≤ 3 by omega)]
  simp only [startD, endsD, wRet, wRetN, wAndV, wOrV, wNotV, wCB, wCons, wNil, wVar, wC, wChain, wOp, wUn, wIf, wIfE, wTv, wTru, wNot, wAnd, wOr, wSeq, wNext, wAsg, wDrop, dgN, dgT, dgCons, dgNil, dgSub, dgFld, wPar, wTup, wLst, wLstC, wFld, wSetF, wMeth, wMake, wCall, wSl, wNoPart, wPart, wStar, wLenO, wTruO, wCallN, wMakeN, wMethN, gI20, gI2, gNeg, g1I, g2I, gNotN, gIsN, D.isNon, sAdd1, sAdd2, sAdd3, sAdd4, sMul1, sMulT, sLen1, sLen2, sLen3, sInt1, sInt2, sTup1, sTup2, sLst1, sLst2, sSl1, sSl2, sSl3, sTru1, sTru2, sTru3, sDvm, List.map, List.length_cons, List.length_nil, List.replicate, List.cons_append, List.nil_append, List.append_nil, List.getElem?_cons_zero, List.getElem?_cons_succ, List.set_cons_zero, List.set_cons_succ, DL.eq_int, DL.ne_int, Bool.not_true, Bool.not_false, decide_true, decide_false, true_and, and_true]
  refine ⟨l, c, rfl, ho, ?_⟩
  simp only [startD, endsD, wRet, wRetN, wAndV, wOrV, wNotV, wCB, wCons, wNil, wVar, wC, wChain, wOp, wUn, wIf, wIfE, wTv, wTru, wNot, wAnd, wOr, wSeq, wNext, wAsg, wDrop, dgN, dgT, dgCons, dgNil, dgSub, dgFld, wPar, wTup, wLst, wLstC, wFld, wSetF, wMeth, wMake, wCall, wSl, wNoPart, wPart, wStar, wLenO, wTruO, wCallN, wMakeN, wMethN, gI20, gI2, gNeg, g1I, g2I, gNotN, gIsN, D.isNon, sAdd1, sAdd2, sAdd3, sAdd4, sMul1, sMulT, sLen1, sLen2, sLen3, sInt1, sInt2, sTup1, sTup2, sLst1, sLst2, sSl1, sSl2, sSl3, sTru1, sTru2, sTru3, sDvm, List.map, List.length_cons, List.length_nil, List.replicate, List.cons_append, List.nil_append, List.append_nil, List.getElem?_cons_zero, List.getElem?_cons_succ, List.set_cons_zero, List.set_cons_succ, DL.eq_int, DL.ne_int, Bool.not_true, Bool.not_false, decide_true, decide_false, true_and, and_true]
  exact h
theorem pure_check_table {K : PySem.W.Frag} (T : TP K) : Pu_check_table K := by
  rintro ds st Kn Kx - ⟨l, c, rfl, ho, h⟩
  simp only [startD, endsD, wRet, wRetN, wAndV, wOrV, wNotV, wCB, wCons, wNil, wVar, wC, wChain, wOp, wUn, wIf, wIfE, wTv, wTru, wNot, wAnd, wOr, wSeq, wNext, wAsg, wDrop, dgN, dgT, dgCons, dgNil, dgSub, dgFld, wPar, wTup, wLst, wLstC, wFld, wSetF, wMeth, wMake, wCall, wSl, wNoPart, wPart, wStar, wLenO, wTruO, wCallN, wMakeN, wMethN, gI20, gI2, gNeg, g1I, g2I, gNotN, gIsN, D.isNon, sAdd1, sAdd2, sAdd3, sAdd4, sMul1, sMulT, sLen1, sLen2, sLen3, sInt1, sInt2, sTup1, sTup2, sLst1, sLst2, sSl1, sSl2, sSl3, sTru1, sTru2, sTru3, sDvm, List.map, List.length_cons, List.length_nil, List.replicate, List.cons_append, List.nil_append, List.append_nil, List.getElem?_cons_zero, List.getElem?_cons_succ, List.set_cons_zero, List.set_cons_succ, DL.eq_int, DL.ne_int, Bool.not_true, Bool.not_false, decide_true, decide_false, true_and, and_true]
  refine isi_tup ?_
  simp only [startD, endsD, wRet, wRetN, wAndV, wOrV, wNotV, wCB, wCons, wNil, wVar, wC, wChain, wOp, wUn, wIf, wIfE, wTv, wTru, wNot, wAnd, wOr, wSeq, wNext, wAsg, wDrop, dgN, dgT, dgCons, dgNil, dgSub, dgFld, wPar, wTup, wLst, wLstC, wFld, wSetF, wMeth, wMake, wCall, wSl, wNoPart, wPart, wStar, wLenO, wTruO, wCallN, wMakeN, wMethN, gI20, gI2, gNeg, g1I, g2I, gNotN, gIsN, D.isNon, sAdd1, sAdd2, sAdd3, sAdd4, sMul1, sMulT, sLen1, sLen2, sLen3, sInt1, sInt2, sTup1, sTup2, sLst1, sLst2, sSl1, sSl2, sSl3, sTru1, sTru2, sTru3, sDvm, List.map, List.length_cons, List.length_nil, List.replicate, List.cons_append, List.nil_append, List.append_nil, List.getElem?_cons_zero, List.getElem?_cons_succ, List.set_cons_zero, List.set_cons_succ, DL.eq_int, DL.ne_int, Bool.not_true, Bool.not_false, decide_true, decide_false, true_and, and_true]
  rw [List.length_map, show (!((l.length : Int) == (l.length : Int))) = false by simp]
  simp only [startD, endsD, wRet, wRetN, wAndV, wOrV, wNotV, wCB, wCons, wNil, wVar, wC, wChain, wOp, wUn, wIf, wIfE, wTv, wTru, wNot, wAnd, wOr, wSeq, wNext, wAsg, wDrop, dgN, dgT, dgCons, dgNil, dgSub, dgFld, wPar, wTup, wLst, wLstC, wFld, wSetF, wMeth, wMake, wCall, wSl, wNoPart, wPart, wStar, wLenO, wTruO, wCallN, wMakeN, wMethN, gI20, gI2, gNeg, g1I, g2I, gNotN, gIsN, D.isNon, sAdd1, sAdd2, sAdd3, sAdd4, sMul1, sMulT, sLen1, sLen2, sLen3, sInt1, sInt2, sTup1, sTup2, sLst1, sLst2, sSl1, sSl2, sSl3, sTru1, sTru2, sTru3, sDvm, List.map, List.length_cons, List.length_nil, List.replicate, List.cons_append, List.nil_append, List.append_nil, List.getElem?_cons_zero, List.getElem?_cons_succ, List.set_cons_zero, List.set_cons_succ, DL.eq_int, DL.ne_int, Bool.not_true, Bool.not_false, decide_true, decide_false, true_and, and_true]
  refine ⟨l, c, rfl, ho, ?_⟩
  simp only [startD, endsD, wRet, wRetN, wAndV, wOrV, wNotV, wCB, wCons, wNil, wVar, wC, wChain, wOp, wUn, wIf, wIfE, wTv, wTru, wNot, wAnd, wOr, wSeq, wNext, wAsg, wDrop, dgN, dgT, dgCons, dgNil, dgSub, dgFld, wPar, wTup, wLst, wLstC, wFld, wSetF, wMeth, wMake, wCall, wSl, wNoPart, wPart, wStar, wLenO, wTruO, wCallN, wMakeN, wMethN, gI20, gI2, gNeg, g1I, g2I, gNotN, gIsN, D.isNon, sAdd1, sAdd2, sAdd3, sAdd4, sMul1, sMulT, sLen1, sLen2, sLen3, sInt1, sInt2, sTup1, sTup2, sLst1, sLst2, sSl1, sSl2, sSl3, sTru1, sTru2, sTru3, sDvm, List.map, List.length_cons, List.length_nil, List.replicate, List.cons_append, List.nil_append, List.append_nil, List.getElem?_cons_zero, List.getElem?_cons_succ, List.set_cons_zero, List.set_cons_succ, DL.eq_int, DL.ne_int, Bool.not_true, Bool.not_false, decide_true, decide_false, true_and, and_true]
  exact h
theorem lowI_eq (i j : Int) : lowI i j = min i j := by unfold lowI; omega
theorem highI_eq (i j : Int) : highI i j = max i j := by unfold highI; omega
theorem cmul_small {i j : Int} (h1 : -1000000 ≤ i) (h2 : i ≤ 1000000) : CMul i j := .inl ⟨by omega, by omega⟩
theorem pure_place_in_table {K : PySem.W.Frag} (T : TP K) : Pu_place_in_table K := by
  rintro ds st Kn Kx - ⟨c, i, j, rfl, ⟨h1, h2, h3, h4, h5, h6⟩, h⟩
  simp only [startD, endsD, wRet, wRetN, wAndV, wOrV, wNotV, wCB, wCons, wNil, wVar, wC, wChain, wOp, wUn, wIf, wIfE, wTv, wTru, wNot, wAnd, wOr, wSeq, wNext, wAsg, wDrop, dgN, dgT, dgCons, dgNil, dgSub, dgFld, wPar, wTup, wLst, wLstC, wFld, wSetF, wMeth, wMake, wCall, wSl, wNoPart, wPart, wStar, wLenO, wTruO, wCallN, wMakeN, wMethN, gI20, gI2, gNeg, g1I, g2I, gNotN, gIsN, D.isNon, sAdd1, sAdd2, sAdd3, sAdd4, sMul1, sMulT, sLen1, sLen2, sLen3, sInt1, sInt2, sTup1, sTup2, sLst1, sLst2, sSl1, sSl2, sSl3, sTru1, sTru2, sTru3, sDvm, List.map, List.length_cons, List.length_nil, List.replicate, List.cons_append, List.nil_append, List.append_nil, List.getElem?_cons_zero, List.getElem?_cons_succ, List.set_cons_zero, List.set_cons_succ, DL.eq_int, DL.ne_int, Bool.not_true, Bool.not_false, decide_true, decide_false, true_and, and_true]
  have e : -1000000 ≤ lowI i j ∧ lowI i j ≤ 1000000 := by rw [lowI_eq]; omega
  exact ⟨cmul_small e.1 e.2, cmul_small e.1 e.2, ⟨by decide, by decide⟩, h⟩
theorem pure_check_mixture {K : PySem.W.Frag} (T : TP K) : Pu_check_mixture K := by
  rintro ds st Kn Kx - ⟨a, m, rfl, ⟨l, ok⟩, h⟩
  simp only [startD, endsD, wRet, wRetN, wAndV, wOrV, wNotV, wCB, wCons, wNil, wVar, wC, wChain, wOp, wUn, wIf, wIfE, wTv, wTru, wNot, wAnd, wOr, wSeq, wNext, wAsg, wDrop, dgN, dgT, dgCons, dgNil, dgSub, dgFld, wPar, wTup, wLst, wLstC, wFld, wSetF, wMeth, wMake, wCall, wSl, wNoPart, wPart, wStar, wLenO, wTruO, wCallN, wMakeN, wMethN, gI20, gI2, gNeg, g1I, g2I, gNotN, gIsN, D.isNon, sAdd1, sAdd2, sAdd3, sAdd4, sMul1, sMulT, sLen1, sLen2, sLen3, sInt1, sInt2, sTup1, sTup2, sLst1, sLst2, sSl1, sSl2, sSl3, sTru1, sTru2, sTru3, sDvm, List.map, List.length_cons, List.length_nil, List.replicate, List.cons_append, List.nil_append, List.append_nil, List.getElem?_cons_zero, List.getElem?_cons_succ, List.set_cons_zero, List.set_cons_succ, DL.eq_int, DL.ne_int, Bool.not_true, Bool.not_false, decide_true, decide_false, true_and, and_true]
  refine isi_mix T l ?_
  simp only [startD, endsD, wRet, wRetN, wAndV, wOrV, wNotV, wCB, wCons, wNil, wVar, wC, wChain, wOp, wUn, wIf, wIfE, wTv, wTru, wNot, wAnd, wOr, wSeq, wNext, wAsg, wDrop, dgN, dgT, dgCons, dgNil, dgSub, dgFld, wPar, wTup, wLst, wLstC, wFld, wSetF, wMeth, wMake, wCall, wSl, wNoPart, wPart, wStar, wLenO, wTruO, wCallN, wMakeN, wMethN, gI20, gI2, gNeg, g1I, g2I, gNotN, gIsN, D.isNon, sAdd1, sAdd2, sAdd3, sAdd4, sMul1, sMulT, sLen1, sLen2, sLen3, sInt1, sInt2, sTup1, sTup2, sLst1, sLst2, sSl1, sSl2, sSl3, sTru1, sTru2, sTru3, sDvm, List.map, List.length_cons, List.length_nil, List.replicate, List.cons_append, List.nil_append, List.append_nil, List.getElem?_cons_zero, List.getElem?_cons_succ, List.set_cons_zero, List.set_cons_succ, DL.eq_int, DL.ne_int, Bool.not_true, Bool.not_false, decide_true, decide_false, true_and, and_true]
  exact h
theorem pure_is_pair_of_places {K : PySem.W.Frag} (T : TP K) : Pu_is_pair_of_places K := by
  rintro ds st Kn Kx - ⟨i, j, n, rfl, ⟨h1, h2, h3⟩, h⟩
  simp only [startD, endsD, wRet, wRetN, wAndV, wOrV, wNotV, wCB, wCons, wNil, wVar, wC, wChain, wOp, wUn, wIf, wIfE, wTv, wTru, wNot, wAnd, wOr, wSeq, wNext, wAsg, wDrop, dgN, dgT, dgCons, dgNil, dgSub, dgFld, wPar, wTup, wLst, wLstC, wFld, wSetF, wMeth, wMake, wCall, wSl, wNoPart, wPart, wStar, wLenO, wTruO, wCallN, wMakeN, wMethN, gI20, gI2, gNeg, g1I, g2I, gNotN, gIsN, D.isNon, sAdd1, sAdd2, sAdd3, sAdd4, sMul1, sMulT, sLen1, sLen2, sLen3, sInt1, sInt2, sTup1, sTup2, sLst1, sLst2, sSl1, sSl2, sSl3, sTru1, sTru2, sTru3, sDvm, List.map, List.length_cons, List.length_nil, List.replicate, List.cons_append, List.nil_append, List.append_nil, List.getElem?_cons_zero, List.getElem?_cons_succ, List.set_cons_zero, List.set_cons_succ, DL.eq_int, DL.ne_int, Bool.not_true, Bool.not_false, decide_true, decide_false, true_and, and_true]
  refine isi_tup ?_
  simp only [startD, endsD, wRet, wRetN, wAndV, wOrV, wNotV, wCB, wCons, wNil, wVar, wC, wChain, wOp, wUn, wIf, wIfE, wTv, wTru, wNot, wAnd, wOr, wSeq, wNext, wAsg, wDrop, dgN, dgT, dgCons, dgNil, dgSub, dgFld, wPar, wTup, wLst, wLstC, wFld, wSetF, wMeth, wMake, wCall, wSl, wNoPart, wPart, wStar, wLenO, wTruO, wCallN, wMakeN, wMethN, gI20, gI2, gNeg, g1I, g2I, gNotN, gIsN, D.isNon, sAdd1, sAdd2, sAdd3, sAdd4, sMul1, sMulT, sLen1, sLen2, sLen3, sInt1, sInt2, sTup1, sTup2, sLst1, sLst2, sSl1, sSl2, sSl3, sTru1, sTru2, sTru3, sDvm, List.map, List.length_cons, List.length_nil, List.replicate, List.cons_append, List.nil_append, List.append_nil, List.getElem?_cons_zero, List.getElem?_cons_succ, List.set_cons_zero, List.set_cons_succ, DL.eq_int, DL.ne_int, Bool.not_true, Bool.not_false, decide_true, decide_false, true_and, and_true]
  rw [show (!((((0 + 1 + 1 : Nat) : Int)) == 2)) = false by decide]
  simp only [startD, endsD, wRet, wRetN, wAndV, wOrV, wNotV, wCB, wCons, wNil, wVar, wC, wChain, wOp, wUn, wIf, wIfE, wTv, wTru, wNot, wAnd, wOr, wSeq, wNext, wAsg, wDrop, dgN, dgT, dgCons, dgNil, dgSub, dgFld, wPar, wTup, wLst, wLstC, wFld, wSetF, wMeth, wMake, wCall, wSl, wNoPart, wPart, wStar, wLenO, wTruO, wCallN, wMakeN, wMethN, gI20, gI2, gNeg, g1I, g2I, gNotN, gIsN, D.isNon, sAdd1, sAdd2, sAdd3, sAdd4, sMul1, sMulT, sLen1, sLen2, sLen3, sInt1, sInt2, sTup1, sTup2, sLst1, sLst2, sSl1, sSl2, sSl3, sTru1, sTru2, sTru3, sDvm, List.map, List.length_cons, List.length_nil, List.replicate, List.cons_append, List.nil_append, List.append_nil, List.getElem?_cons_zero, List.getElem?_cons_succ, List.set_cons_zero, List.set_cons_succ, DL.eq_int, DL.ne_int, Bool.not_true, Bool.not_false, decide_true, decide_false, true_and, and_true]
  refine ix_tup (by decide) rfl (btw h1 (by omega) ?_)
  simp only [startD, endsD, wRet, wRetN, wAndV, wOrV, wNotV, wCB, wCons, wNil, wVar, wC, wChain, wOp, wUn, wIf, wIfE, wTv, wTru, wNot, wAnd, wOr, wSeq, wNext, wAsg, wDrop, dgN, dgT, dgCons, dgNil, dgSub, dgFld, wPar, wTup, wLst, wLstC, wFld, wSetF, wMeth, wMake, wCall, wSl, wNoPart, wPart, wStar, wLenO, wTruO, wCallN, wMakeN, wMethN, gI20, gI2, gNeg, g1I, g2I, gNotN, gIsN, D.isNon, sAdd1, sAdd2, sAdd3, sAdd4, sMul1, sMulT, sLen1, sLen2, sLen3, sInt1, sInt2, sTup1, sTup2, sLst1, sLst2, sSl1, sSl2, sSl3, sTru1, sTru2, sTru3, sDvm, List.map, List.length_cons, List.length_nil, List.replicate, List.cons_append, List.nil_append, List.append_nil, List.getElem?_cons_zero, List.getElem?_cons_succ, List.set_cons_zero, List.set_cons_succ, DL.eq_int, DL.ne_int, Bool.not_true, Bool.not_false, decide_true, decide_false, true_and, and_true]
  refine ix_tup (by decide) rfl (btw (by omega) (by omega) ?_)
  simp only [startD, endsD, wRet, wRetN, wAndV, wOrV, wNotV, wCB, wCons, wNil, wVar, wC, wChain, wOp, wUn, wIf, wIfE, wTv, wTru, wNot, wAnd, wOr, wSeq, wNext, wAsg, wDrop, dgN, dgT, dgCons, dgNil, dgSub, dgFld, wPar, wTup, wLst, wLstC, wFld, wSetF, wMeth, wMake, wCall, wSl, wNoPart, wPart, wStar, wLenO, wTruO, wCallN, wMakeN, wMethN, gI20, gI2, gNeg, g1I, g2I, gNotN, gIsN, D.isNon, sAdd1, sAdd2, sAdd3, sAdd4, sMul1, sMulT, sLen1, sLen2, sLen3, sInt1, sInt2, sTup1, sTup2, sLst1, sLst2, sSl1, sSl2, sSl3, sTru1, sTru2, sTru3, sDvm, List.map, List.length_cons, List.length_nil, List.replicate, List.cons_append, List.nil_append, List.append_nil, List.getElem?_cons_zero, List.getElem?_cons_succ, List.set_cons_zero, List.set_cons_succ, DL.eq_int, DL.ne_int, Bool.not_true, Bool.not_false, decide_true, decide_false, true_and, and_true]
  refine ix_tup (by decide) rfl (ix_tup (by decide) rfl ?_)
  show Kn (.bl (decide (i < j))) st
  rw [decide_eq_true h2]; exact h
end K82

namespace K82
open PySem PySem.Spec PyProof.Rows L2 DL
/-! the store -/
theorem put_lookup {st : Sto} {a : Addr} {c c' : Cell} (h : st.lookup a = some c) : (st.put a c').lookup a = some c' := by
  induction st with
  | nil => cases h
  | cons p r ih =>
    obtain ⟨b, x⟩ := p
    unfold Sto.put
    rw [List.map_cons]
    by_cases e : b = a
    · subst e
      rw [if_pos rfl]
      simp [List.lookup]
    · rw [if_neg e]
      have e' : (a == b) = false := by simpa using Ne.symm e
      simp only [List.lookup, e'] at h ⊢
      exact ih h
theorem put_other {st : Sto} {a b : Addr} {c' : Cell} (n : b ≠ a) : (st.put a c').lookup b = st.lookup b := by
  induction st with
  | nil => rfl
  | cons p r ih =>
    obtain ⟨d, x⟩ := p
    unfold Sto.put
    rw [List.map_cons]
    by_cases e : d = a
    · subst e
      rw [if_pos rfl]
      have e' : (b == d) = false := by simpa using n
      simp only [List.lookup, e']
      exact ih
    · rw [if_neg e]
      by_cases q : b = d
      · subst q; simp [List.lookup]
      · have e' : (b == d) = false := by simpa using q
        simp only [List.lookup, e']
        exact ih
theorem put_put {st : Sto} {a : Addr} {c c' : Cell} : (st.put a c).put a c' = st.put a c' := by
  unfold Sto.put
  rw [List.map_map]
  refine List.map_congr_left fun p _ => ?_
  show (if (if p.1 = a then (a, c) else p).1 = a then (a, c') else (if p.1 = a then (a, c) else p)) = _
  by_cases e : p.1 = a
  · rw [if_pos e, if_pos rfl, if_pos e]
  · rw [if_neg e, if_neg e]
theorem put_off {st : Sto} {a : Addr} {c : Cell} (h : ¬ st.on a) : st.put a c = st := by
  unfold Sto.put
  refine (List.map_congr_left fun p hp => ?_).trans (List.map_id st)
  show (if p.1 = a then (a, c) else p) = p
  rw [if_neg fun e => h (by rw [← e]; exact List.mem_map.mpr ⟨p, hp, rfl⟩)]
theorem put_new {st : Sto} {a : Addr} {c c' : Cell} (h : ¬ st.on a) : Sto.put ((a, c) :: st) a c' = (a, c') :: st := by
  have e : Sto.put ((a, c) :: st) a c' = (a, c') :: st.put a c' := by
    unfold Sto.put
    rw [List.map_cons, if_pos rfl]
  rw [e, put_off h]
theorem new_lookup {st : Sto} {a : Addr} {c : Cell} : List.lookup a ((a, c) :: st) = some c := by simp [List.lookup]
theorem old_lookup {st : Sto} {a b : Addr} {c : Cell} (h : b ≠ a) : List.lookup b ((a, c) :: st) = st.lookup b := by
  have e' : (b == a) = false := by simpa using h
  simp only [List.lookup, e']
theorem ne_on {st : Sto} {a b : Addr} {c : Cell} (l : st.lookup b = some c) (h : ¬ st.on a) : b ≠ a := fun e => h (by rw [← e]; exact on_of l)
/-! mixtures -/
theorem place_ok (c i j : Int) (h1 : 1 ≤ c) (h8 : c ≤ 8) (hi : 0 ≤ i) (hi' : i < c) (hj : 0 ≤ j) (hj' : j < c) : 0 ≤ placeI c i j ∧ placeI c i j < c * (c + 1) / 2 := by
  have key : ∀ c : Fin 9, ∀ i : Fin 9, ∀ j : Fin 9, 1 ≤ c.val → i.val < c.val → j.val < c.val → 0 ≤ placeI (c.val : Int) (i.val : Int) (j.val : Int) ∧ placeI (c.val : Int) (i.val : Int) (j.val : Int) < (c.val : Int) * ((c.val : Int) + 1) / 2 := by decide +kernel
  have q := key ⟨c.toNat, by omega⟩ ⟨i.toNat, by omega⟩ ⟨j.toNat, by omega⟩ (by show 1 ≤ c.toNat; omega) (by show i.toNat < c.toNat; omega) (by show j.toNat < c.toNat; omega)
  have e1 : ((c.toNat : Nat) : Int) = c := by omega
  have e2 : ((i.toNat : Nat) : Int) = i := by omega
  have e3 : ((j.toNat : Nat) : Int) = j := by omega
  simp only [e1, e2, e3] at q
  exact q
theorem tab_get {c : Int} {s t : List (Int × Int)} (ok : MxOk c s t) {i j : Int} (hi : 0 ≤ i) (hi' : i < c) (hj : 0 ≤ j) (hj' : j < c) : ∃ p, t[(placeI c i j).toNat]? = some p ∧ 0 ≤ placeI c i j ∧ p = t.getD (placeI c i j).toNat (0, 0) ∧ okE c p := by
  have q := place_ok c i j ok.c1 ok.c8 hi hi' hj hj'
  have hl : (placeI c i j).toNat < t.length := by have := ok.tl; omega
  refine ⟨t[(placeI c i j).toNat], List.getElem?_eq_getElem hl, q.1, ?_, ok.to _ (List.getElem_mem hl)⟩
  rw [List.getD_eq_getElem?_getD, List.getElem?_eq_getElem hl]; rfl
theorem ix_pD {l : List (Int × Int)} {i : Int} {p : Int × Int} {st : Sto} {Kn : KD} (h0 : 0 ≤ i) (h : l[i.toNat]? = some p) (k : Kn (pD p) st) : gIx (.tup (l.map pD)) (.int i) st Kn :=
  ix_tup h0 (by rw [List.getElem?_map, h]; rfl) k
theorem ix_ints {l : List Int} {i : Int} {p : Int} {st : Sto} {Kn : KD} (h0 : 0 ≤ i) (h : l[i.toNat]? = some p) (k : Kn (.int p) st) : gIx (.tup (l.map D.int)) (.int i) st Kn :=
  ix_tup h0 (by rw [List.getElem?_map, h]; rfl) k
theorem mx_count {m : Mx} : List.lookup ("count" : Str) (mxF m) = some (.int m.c) := rfl
theorem mx_starts {m : Mx} : List.lookup ("starts" : Str) (mxF m) = some (.tup (m.st.map pD)) := rfl
theorem mx_table {m : Mx} : List.lookup ("table" : Str) (mxF m) = some (.tup (m.tb.map pD)) := rfl
theorem mx_met {m : Mx} : List.lookup ("met" : Str) (mxF m) = none := rfl
theorem pure_Mixture_met {K : PySem.W.Frag} (T : TP K) : Pu_Mixture_met K := by
  rintro ds st Kn Kx - ⟨a, m, i, j, rfl, ⟨l, ok⟩, ⟨h1, h2, h3, h4⟩, h⟩
  obtain ⟨p, e1, e2, e3, e4⟩ := tab_get ok h1 h2 h3 h4
  simp only [startD, endsD, wRet, wRetN, wAndV, wOrV, wNotV, wCB, wCons, wNil, wVar, wC, wChain, wOp, wUn, wIf, wIfE, wTv, wTru, wNot, wAnd, wOr, wSeq, wNext, wAsg, wDrop, dgN, dgT, dgCons, dgNil, dgSub, dgFld, wPar, wTup, wLst, wLstC, wFld, wSetF, wMeth, wMake, wCall, wSl, wNoPart, wPart, wStar, wLenO, wTruO, wCallN, wMakeN, wMethN, gI20, gI2, gNeg, g1I, g2I, gNotN, gIsN, D.isNon, sAdd1, sAdd2, sAdd3, sAdd4, sMul1, sMulT, sLen1, sLen2, sLen3, sInt1, sInt2, sTup1, sTup2, sLst1, sLst2, sSl1, sSl2, sSl3, sTru1, sTru2, sTru3, sDvm, List.map, List.length_cons, List.length_nil, List.replicate, List.cons_append, List.nil_append, List.append_nil, List.getElem?_cons_zero, List.getElem?_cons_succ, List.set_cons_zero, List.set_cons_succ, DL.eq_int, DL.ne_int, Bool.not_true, Bool.not_false, decide_true, decide_false, true_and, and_true]
  simp only [l]
  refine ⟨⟨T.clM, T.noM _ (by simp)⟩, ?_⟩
  simp only [mx_table, mx_count]
  refine ⟨⟨T.clM, T.noM _ (by simp)⟩, ?_⟩
  have := ok.c8
  have := ok.c1
  refine ⟨m.c, i, j, rfl, ⟨by omega, by omega, by omega, by omega, by omega, by omega⟩, ?_⟩
  refine ix_pD e2 e1 ?_
  rw [e3]; exact h
theorem cutD_len {α : Type} (xs : List α) (lo hi : Option Int) : (DL.cutD xs lo hi).length ≤ xs.length := by
  unfold DL.cutD
  rw [List.length_take, List.length_drop]; omega
theorem sl_small {n : Nat} (h : n ≤ 1000) : n ≤ sizeLine := by rw [sizeLine_eq]; omega
theorem kat_get {ks : List Int} {i : Int} (h0 : 0 ≤ i) (h1 : i < ks.length) : ks[i.toNat]? = some (kat ks i) := by
  have hl : i.toNat < ks.length := by omega
  unfold kat
  rw [List.getD_eq_getElem?_getD, List.getElem?_eq_getElem hl]; rfl
theorem kat_mem {ks : List Int} {i : Int} (h0 : 0 ≤ i) (h1 : i < ks.length) : kat ks i ∈ ks := List.mem_of_getElem? (kat_get h0 h1)
theorem jn_map (ks : List Int) (k : Int) (i j : Int) : (jn ks k i j).map D.int = DL.cutD (ks.map D.int) none (some i) ++ [D.int k] ++ DL.cutD (ks.map D.int) (some (i + 1)) (some j) ++ DL.cutD (ks.map D.int) (some (j + 1)) none := by
  unfold jn
  simp only [List.map_append, cut_map, List.map_cons, List.map_nil]
theorem pure_joined {K : PySem.W.Frag} (T : TP K) : Pu_joined K := by
  rintro ds st Kn Kx - ⟨a, m, ks, i, j, rfl, mx, ⟨h1, h2, h3⟩, hl, hk, h⟩
  simp only [startD, endsD, wRet, wRetN, wAndV, wOrV, wNotV, wCB, wCons, wNil, wVar, wC, wChain, wOp, wUn, wIf, wIfE, wTv, wTru, wNot, wAnd, wOr, wSeq, wNext, wAsg, wDrop, dgN, dgT, dgCons, dgNil, dgSub, dgFld, wPar, wTup, wLst, wLstC, wFld, wSetF, wMeth, wMake, wCall, wSl, wNoPart, wPart, wStar, wLenO, wTruO, wCallN, wMakeN, wMethN, gI20, gI2, gNeg, g1I, g2I, gNotN, gIsN, D.isNon, sAdd1, sAdd2, sAdd3, sAdd4, sMul1, sMulT, sLen1, sLen2, sLen3, sInt1, sInt2, sTup1, sTup2, sLst1, sLst2, sSl1, sSl2, sSl3, sTru1, sTru2, sTru3, sDvm, List.map, List.length_cons, List.length_nil, List.replicate, List.cons_append, List.nil_append, List.append_nil, List.getElem?_cons_zero, List.getElem?_cons_succ, List.set_cons_zero, List.set_cons_succ, DL.eq_int, DL.ne_int, Bool.not_true, Bool.not_false, decide_true, decide_false, true_and, and_true]
  simp only [mx.1, mx_met]
  refine ⟨⟨by trivial, by trivial⟩, ?_⟩
  refine ix_ints h1 (kat_get h1 (by omega)) (ix_ints (by omega) (kat_get (by omega) h3) ?_)
  have k1 := hk _ (kat_mem h1 (by omega))
  have k2 := hk _ (kat_mem (by omega : 0 ≤ j) h3)
  refine ⟨a, m, _, _, rfl, mx, ⟨k1.1, k1.2, k2.1, k2.2⟩, ?_⟩
  unfold pD
  dsimp only
  have c1 := cutD_len (ks.map D.int) none (some i)
  have c2 := cutD_len (ks.map D.int) (some (i + 1)) (some j)
  have c3 := cutD_len (ks.map D.int) (some (j + 1)) none
  rw [List.length_map] at c1 c2 c3
  refine ⟨rfl, sl_small (by decide), sl_small (by omega), sl_small ?_, sl_small ?_, sl_small (by decide), ?_⟩
  · rw [List.length_append, List.length_cons, List.length_nil]; omega
  · rw [List.length_append, List.length_append, List.length_cons, List.length_nil]; omega
  · rw [jn_map] at h; exact h
theorem pure_MixtureX_initX {K : PySem.W.Frag} (T : TP K) : Pu_MixtureX_initX K := by
  rintro ds st Kn Kx - ⟨a, c, s, t, rfl, l, ok, h⟩
  simp only [startD, endsD, wRet, wRetN, wAndV, wOrV, wNotV, wCB, wCons, wNil, wVar, wC, wChain, wOp, wUn, wIf, wIfE, wTv, wTru, wNot, wAnd, wOr, wSeq, wNext, wAsg, wDrop, dgN, dgT, dgCons, dgNil, dgSub, dgFld, wPar, wTup, wLst, wLstC, wFld, wSetF, wMeth, wMake, wCall, wSl, wNoPart, wPart, wStar, wLenO, wTruO, wCallN, wMakeN, wMethN, gI20, gI2, gNeg, g1I, g2I, gNotN, gIsN, D.isNon, sAdd1, sAdd2, sAdd3, sAdd4, sMul1, sMulT, sLen1, sLen2, sLen3, sInt1, sInt2, sTup1, sTup2, sLst1, sLst2, sSl1, sSl2, sSl3, sTru1, sTru2, sTru3, sDvm, List.map, List.length_cons, List.length_nil, List.replicate, List.cons_append, List.nil_append, List.append_nil, List.getElem?_cons_zero, List.getElem?_cons_succ, List.set_cons_zero, List.set_cons_succ, DL.eq_int, DL.ne_int, Bool.not_true, Bool.not_false, decide_true, decide_false, true_and, and_true]
  refine btw ok.c1 ok.c8 ?_
  simp only [startD, endsD, wRet, wRetN, wAndV, wOrV, wNotV, wCB, wCons, wNil, wVar, wC, wChain, wOp, wUn, wIf, wIfE, wTv, wTru, wNot, wAnd, wOr, wSeq, wNext, wAsg, wDrop, dgN, dgT, dgCons, dgNil, dgSub, dgFld, wPar, wTup, wLst, wLstC, wFld, wSetF, wMeth, wMake, wCall, wSl, wNoPart, wPart, wStar, wLenO, wTruO, wCallN, wMakeN, wMethN, gI20, gI2, gNeg, g1I, g2I, gNotN, gIsN, D.isNon, sAdd1, sAdd2, sAdd3, sAdd4, sMul1, sMulT, sLen1, sLen2, sLen3, sInt1, sInt2, sTup1, sTup2, sLst1, sLst2, sSl1, sSl2, sSl3, sTru1, sTru2, sTru3, sDvm, List.map, List.length_cons, List.length_nil, List.replicate, List.cons_append, List.nil_append, List.append_nil, List.getElem?_cons_zero, List.getElem?_cons_succ, List.set_cons_zero, List.set_cons_succ, DL.eq_int, DL.ne_int, Bool.not_true, Bool.not_false, decide_true, decide_false, true_and, and_true]
  refine ⟨s, c, rfl, ⟨ok.s1, ok.s3⟩, ok.so, ?_⟩
  have := ok.c1
  have := ok.c8
  refine ⟨cmul_small (by omega) (by omega), ⟨by decide, by decide⟩, ?_⟩
  rw [← ok.tl]
  refine ⟨t, c, rfl, ok.to, ?_⟩
  simp only [l, put_put, put_lookup l]
  refine ⟨⟨⟨T.clM, T.noM _ (by simp)⟩, (by first | exact (by decide : (0 : Nat) < 1000) | exact (by decide : (1 : Nat) < 1000) | exact (by decide : (2 : Nat) < 1000) | exact (by decide : (3 : Nat) < 1000) | exact (by decide : (4 : Nat) < 1000) | exact (by decide : (5 : Nat) < 1000) | exact (by decide : (6 : Nat) < 1000) | exact (by decide : (7 : Nat) < 1000) | exact (by decide : (8 : Nat) < 1000))⟩, ⟨⟨T.clM, T.noM _ (by simp)⟩, (by first | exact (by decide : (0 : Nat) < 1000) | exact (by decide : (1 : Nat) < 1000) | exact (by decide : (2 : Nat) < 1000) | exact (by decide : (3 : Nat) < 1000) | exact (by decide : (4 : Nat) < 1000) | exact (by decide : (5 : Nat) < 1000) | exact (by decide : (6 : Nat) < 1000) | exact (by decide : (7 : Nat) < 1000) | exact (by decide : (8 : Nat) < 1000))⟩, ⟨⟨T.clM, T.noM _ (by simp)⟩, (by first | exact (by decide : (0 : Nat) < 1000) | exact (by decide : (1 : Nat) < 1000) | exact (by decide : (2 : Nat) < 1000) | exact (by decide : (3 : Nat) < 1000) | exact (by decide : (4 : Nat) < 1000) | exact (by decide : (5 : Nat) < 1000) | exact (by decide : (6 : Nat) < 1000) | exact (by decide : (7 : Nat) < 1000) | exact (by decide : (8 : Nat) < 1000))⟩, sl_small (by decide), ⟨⟨T.clM, T.noM _ (by simp)⟩, (by first | exact (by decide : (0 : Nat) < 1000) | exact (by decide : (1 : Nat) < 1000) | exact (by decide : (2 : Nat) < 1000) | exact (by decide : (3 : Nat) < 1000) | exact (by decide : (4 : Nat) < 1000) | exact (by decide : (5 : Nat) < 1000) | exact (by decide : (6 : Nat) < 1000) | exact (by decide : (7 : Nat) < 1000) | exact (by decide : (8 : Nat) < 1000))⟩, ?_⟩
  refine ⟨c, s, t, rfl, ok, fun ks => ?_⟩
  simp only [put_put, put_lookup l]
  exact ⟨⟨⟨T.clM, T.noM _ (by simp)⟩, (by first | exact (by decide : (0 : Nat) < 1000) | exact (by decide : (1 : Nat) < 1000) | exact (by decide : (2 : Nat) < 1000) | exact (by decide : (3 : Nat) < 1000) | exact (by decide : (4 : Nat) < 1000) | exact (by decide : (5 : Nat) < 1000) | exact (by decide : (6 : Nat) < 1000) | exact (by decide : (7 : Nat) < 1000) | exact (by decide : (8 : Nat) < 1000))⟩, h ks⟩

theorem sort_bound {c : Int} : ∀ (ms : List Int) (lo : Int), ms.Pairwise (· < ·) → (∀ k ∈ ms, lo ≤ k ∧ k < c) → (ms.length : Int) ≤ max (c - lo) 0
  | [], lo, _, _ => by simp; omega
  | x :: r, lo, h, b => by
    obtain ⟨h1, h2⟩ := List.pairwise_cons.mp h
    have q := sort_bound r (x + 1) h2 fun k hk => ⟨by have := h1 k hk; omega, (b k (List.mem_cons_of_mem _ hk)).2⟩
    have := b x List.mem_cons_self
    rw [List.length_cons]; push_cast; omega
theorem sub_length : ∀ (xs ys : List Int), xs.Pairwise (· < ·) → ys.Pairwise (· < ·) → (∀ k ∈ xs, k ∈ ys) → xs.length ≤ ys.length
  | [], _, _, _, _ => Nat.zero_le _
  | x :: r, ys, h, h2, hs => by
    obtain ⟨h3, h4⟩ := List.pairwise_cons.mp h
    have hx := hs x List.mem_cons_self
    have q := sub_length r (ys.erase x) h4 (h2.sublist List.erase_sublist) fun k hk => by
      have ne : k ≠ x := by have := h3 k hk; omega
      exact (List.mem_erase_of_ne ne).mpr (hs k (List.mem_cons_of_mem _ hk))
    rw [List.length_erase_of_mem hx] at q
    have : 0 < ys.length := List.length_pos_of_mem hx
    rw [List.length_cons]; omega
theorem intsOf_app (xs ys : List Int) : intsOf (xs.map D.int ++ ys.map D.int) = some (xs ++ ys) := by
  rw [← List.map_append]; exact intsOf_map _
/-- the comprehension over starts -/
theorem lc_starts {c : Int} {Kn : List D → Sto → Prop} {env : DEnv} (he : 9 < env.length) : ∀ (l : List (Int × Int)) (acc : List Int) (st : Sto), (∀ p ∈ l, okE c p) → acc.length + l.length ≤ 60 → (∀ k ∈ acc, 0 ≤ k ∧ k < c) →
    (∀ ks : List Int, ks.length = acc.length + l.length → (∀ k ∈ ks, 0 ≤ k ∧ k < c) → Kn (ks.map D.int) st) → lcL (tg2 7 8) wYes (wVar 7) env Kn (l.map pD) (acc.map D.int) st
  | [], acc, st, _, _, ha, h => h acc (by simp) ha
  | p :: l, acc, st, ho, hl, ha, h => by
    rw [List.map_cons]
    unfold lcL pD
    simp only [tg2, wYes, wVar]
    rw [List.getElem?_set_ne (by decide), List.getElem?_set_self (by omega)]
    dsimp only
    have e : acc.map D.int ++ [D.int p.1] = (acc ++ [p.1]).map D.int := by rw [List.map_append]; rfl
    rw [List.length_cons] at hl
    refine ⟨by rw [List.length_map, sizeLine_eq]; omega, ?_⟩
    rw [e]
    refine lc_starts he l (acc ++ [p.1]) st (fun q hq => ho q (List.mem_cons_of_mem _ hq)) (by rw [List.length_append, List.length_cons, List.length_nil]; omega) (fun k hk => ?_) fun ks hk hb => h ks (by rw [hk, List.length_append, List.length_cons, List.length_nil, List.length_cons]; omega) hb
    rcases List.mem_append.mp hk with z | z
    · exact ha k z
    · have z : k = p.1 := by simpa using z
      rw [z]
      have q := ho p List.mem_cons_self
      exact ⟨q.1, q.2.1⟩
/-- [table[place_in_table(count, one, other)][0] for other in found] -/
theorem lc_fresh {K : PySem.W.Frag} {c one : Int} {s t : List (Int × Int)} (ok : MxOk c s t) (h1 : 0 ≤ one ∧ one < c) {Kn : List D → Sto → Prop} {env : DEnv} (he : 9 < env.length) (e0 : env[0]? = some (some (.int c))) (e2 : env[2]? = some (some (.tup (t.map pD)))) (e5 : env[5]? = some (some (.int one))) :
    ∀ (l : List Int) (acc : List Int) (st : Sto), (∀ k ∈ l, 0 ≤ k ∧ k < c) → acc.length + l.length ≤ 60 → (∀ k ∈ acc, 0 ≤ k ∧ k < c) → (∀ ks : List Int, ks.length = acc.length + l.length → (∀ k ∈ ks, 0 ≤ k ∧ k < c) → Kn (ks.map D.int) st) →
    lcL (tg1 9) wYes (wOp gIx (wOp gIx (wVar 2) (wCallN 3 (sp_place_in_table K) (wCons (wVar 0) (wCons (wVar 5) (wCons (wVar 9) wNil))))) (wC (.int 0))) env Kn (l.map D.int) (acc.map D.int) st
  | [], acc, st, _, _, ha, h => h acc (by simp) ha
  | k :: l, acc, st, ho, hl, ha, h => by
    rw [List.map_cons]
    unfold lcL
    have hk := ho k List.mem_cons_self
    obtain ⟨p, q1, q2, q3, q4⟩ := tab_get ok h1.1 h1.2 hk.1 hk.2
    have := ok.c8
    simp only [tg1, wYes, wOp, wVar, wCallN, wCall, wCons, wNil, wC]
    rw [List.getElem?_set_ne (by decide), e2]
    dsimp only
    rw [List.getElem?_set_ne (by decide), e0]
    dsimp only
    rw [List.getElem?_set_ne (by decide), e5]
    dsimp only
    rw [List.getElem?_set_self (by omega)]
    dsimp only
    refine ⟨rfl, c, one, k, rfl, ⟨by omega, by omega, by omega, by omega, by omega, by omega⟩, ix_pD q2 q1 ?_⟩
    unfold pD
    refine ix_tup (by decide) rfl ?_
    have e : acc.map D.int ++ [D.int p.1] = (acc ++ [p.1]).map D.int := by rw [List.map_append]; rfl
    rw [List.length_cons] at hl
    refine ⟨by rw [List.length_map, sizeLine_eq]; omega, ?_⟩
    rw [e]
    refine lc_fresh ok h1 he e0 e2 e5 l (acc ++ [p.1]) st (fun q hq => ho q (List.mem_cons_of_mem _ hq)) (by rw [List.length_append, List.length_cons, List.length_nil]; omega) (fun k hk => ?_) fun ks hk hb => h ks (by rw [hk, List.length_append, List.length_cons, List.length_nil, List.length_cons]; omega) hb
    rcases List.mem_append.mp hk with z | z
    · exact ha k z
    · have z : k = p.1 := by simpa using z
      rw [z]
      exact ⟨q4.1, q4.2.1⟩
/-- what found is -/
structure Fnd (c : Int) (ms : List Int) : Prop where
  pw : ms.Pairwise (· < ·)
  rg : ∀ k ∈ ms, 0 ≤ k ∧ k < c
theorem Fnd.len {c : Int} {ms : List Int} (h : Fnd c ms) (h8 : c ≤ 8) (h1 : 1 ≤ c) : ms.length ≤ 8 := by
  have q := sort_bound ms 0 h.pw h.rg
  omega
abbrev bAr (K : PySem.W.Frag) : WS := (wSeq (wAsg (wLcL (wVar 3) (tg1 9) wYes (wOp gIx (wOp gIx (wVar 2) (wCallN 3 (sp_place_in_table K) (wCons (wVar 0) (wCons (wVar 5) (wCons (wVar 9) wNil))))) (wC (.int 0))) [9]) (dgN 6)) (wAsg (wSortSet (wOp gAdd (wVar 3) (wVar 6))) (dgN 3)))
theorem loop_arise {K : PySem.W.Frag} {c : Int} {s t : List (Int × Int)} (ok : MxOk c s t) {DD : DEnds} {st : Sto} {bf : Int} {e1 e7 e8 : Option D} : ∀ (l ms : List Int) (o f g : Option D), (∀ k ∈ l, 0 ≤ k ∧ k < c) → Fnd c ms →
    (∀ (ms' : List Int) (o f g : Option D), Fnd c ms' → (∀ x ∈ ms, x ∈ ms') → DD.nx [some (.int c), e1, some (.tup (t.map pD)), some (.lst (ms'.map D.int)), some (.int bf), o, f, e7, e8, g] st) →
    forL (dgN 5) (bAr K) DD (l.map D.int) [some (.int c), e1, some (.tup (t.map pD)), some (.lst (ms.map D.int)), some (.int bf), o, f, e7, e8, g] st
  | [], ms, o, f, g, _, F, h => h ms o f g F fun x hx => hx
  | one :: l, ms, o, f, g, hl, F, h => by
    rw [List.map_cons]
    unfold forL
    simp only [startD, endsD, wRet, wRetN, wAndV, wOrV, wNotV, wCB, wCons, wNil, wVar, wC, wChain, wOp, wUn, wIf, wIfE, wTv, wTru, wNot, wAnd, wOr, wSeq, wNext, wAsg, wDrop, dgN, dgT, dgCons, dgNil, dgSub, dgFld, wPar, wTup, wLst, wLstC, wFld, wSetF, wMeth, wMake, wCall, wSl, wNoPart, wPart, wStar, wLenO, wTruO, wCallN, wMakeN, wMethN, gI20, gI2, gNeg, g1I, g2I, gNotN, gIsN, D.isNon, sAdd1, sAdd2, sAdd3, sAdd4, sMul1, sMulT, sLen1, sLen2, sLen3, sInt1, sInt2, sTup1, sTup2, sLst1, sLst2, sSl1, sSl2, sSl3, sTru1, sTru2, sTru3, sDvm, List.map, List.length_cons, List.length_nil, List.replicate, List.cons_append, List.nil_append, List.append_nil, List.getElem?_cons_zero, List.getElem?_cons_succ, List.set_cons_zero, List.set_cons_succ, DL.eq_int, DL.ne_int, Bool.not_true, Bool.not_false, decide_true, decide_false, true_and, and_true]
    simp only [wLcL, lcGo]
    simp only [startD, endsD, wRet, wRetN, wAndV, wOrV, wNotV, wCB, wCons, wNil, wVar, wC, wChain, wOp, wUn, wIf, wIfE, wTv, wTru, wNot, wAnd, wOr, wSeq, wNext, wAsg, wDrop, dgN, dgT, dgCons, dgNil, dgSub, dgFld, wPar, wTup, wLst, wLstC, wFld, wSetF, wMeth, wMake, wCall, wSl, wNoPart, wPart, wStar, wLenO, wTruO, wCallN, wMakeN, wMethN, gI20, gI2, gNeg, g1I, g2I, gNotN, gIsN, D.isNon, sAdd1, sAdd2, sAdd3, sAdd4, sMul1, sMulT, sLen1, sLen2, sLen3, sInt1, sInt2, sTup1, sTup2, sLst1, sLst2, sSl1, sSl2, sSl3, sTru1, sTru2, sTru3, sDvm, List.map, List.length_cons, List.length_nil, List.replicate, List.cons_append, List.nil_append, List.append_nil, List.getElem?_cons_zero, List.getElem?_cons_succ, List.set_cons_zero, List.set_cons_succ, DL.eq_int, DL.ne_int, Bool.not_true, Bool.not_false, decide_true, decide_false, true_and, and_true]
    have h1 := hl one List.mem_cons_self
    have c1 := ok.c1
    have c8 := ok.c8
    have ml := F.len c8 c1
    refine lc_fresh ok h1 (by exact (by decide : 9 < 10)) rfl rfl rfl ms [] st F.rg (by simp; omega) (fun k hk => absurd hk (by simp)) fun ks hk hb => ?_
    simp only [wSortSet]
    simp only [startD, endsD, wRet, wRetN, wAndV, wOrV, wNotV, wCB, wCons, wNil, wVar, wC, wChain, wOp, wUn, wIf, wIfE, wTv, wTru, wNot, wAnd, wOr, wSeq, wNext, wAsg, wDrop, dgN, dgT, dgCons, dgNil, dgSub, dgFld, wPar, wTup, wLst, wLstC, wFld, wSetF, wMeth, wMake, wCall, wSl, wNoPart, wPart, wStar, wLenO, wTruO, wCallN, wMakeN, wMethN, gI20, gI2, gNeg, g1I, g2I, gNotN, gIsN, D.isNon, sAdd1, sAdd2, sAdd3, sAdd4, sMul1, sMulT, sLen1, sLen2, sLen3, sInt1, sInt2, sTup1, sTup2, sLst1, sLst2, sSl1, sSl2, sSl3, sTru1, sTru2, sTru3, sDvm, List.map, List.length_cons, List.length_nil, List.replicate, List.cons_append, List.nil_append, List.append_nil, List.getElem?_cons_zero, List.getElem?_cons_succ, List.set_cons_zero, List.set_cons_succ, DL.eq_int, DL.ne_int, Bool.not_true, Bool.not_false, decide_true, decide_false, true_and, and_true]
    rw [List.length_nil, Nat.zero_add] at hk
    refine ⟨?_, ?_⟩
    · simp only [List.length_map]; exact sl_small (by omega)
    · simp only [gSortSet, intsOf_app]
      refine ⟨by rw [List.length_append]; omega, fun ms2 pw hm hlen => ?_⟩
      have F2 : Fnd c ms2 := ⟨pw, fun k hk2 => by
        rcases List.mem_append.mp ((hm k).mp hk2) with z | z
        · exact F.rg k z
        · exact hb k z⟩
      refine loop_arise ok l ms2 _ _ _ (fun k hk2 => hl k (List.mem_cons_of_mem _ hk2)) F2 fun ms' o f g F' hs => h ms' o f g F' fun x hx => hs x ((hm x).mpr (List.mem_append_left _ hx))
theorem pure_arising {K : PySem.W.Frag} (T : TP K) : Pu_arising K := by
  rintro ds st Kn Kx - ⟨c, s, t, rfl, ok, h⟩
  have c1 := ok.c1
  have c8 := ok.c8
  simp only [startD, endsD, wRet, wRetN, wAndV, wOrV, wNotV, wCB, wCons, wNil, wVar, wC, wChain, wOp, wUn, wIf, wIfE, wTv, wTru, wNot, wAnd, wOr, wSeq, wNext, wAsg, wDrop, dgN, dgT, dgCons, dgNil, dgSub, dgFld, wPar, wTup, wLst, wLstC, wFld, wSetF, wMeth, wMake, wCall, wSl, wNoPart, wPart, wStar, wLenO, wTruO, wCallN, wMakeN, wMethN, gI20, gI2, gNeg, g1I, g2I, gNotN, gIsN, D.isNon, sAdd1, sAdd2, sAdd3, sAdd4, sMul1, sMulT, sLen1, sLen2, sLen3, sInt1, sInt2, sTup1, sTup2, sLst1, sLst2, sSl1, sSl2, sSl3, sTru1, sTru2, sTru3, sDvm, List.map, List.length_cons, List.length_nil, List.replicate, List.cons_append, List.nil_append, List.append_nil, List.getElem?_cons_zero, List.getElem?_cons_succ, List.set_cons_zero, List.set_cons_succ, DL.eq_int, DL.ne_int, Bool.not_true, Bool.not_false, decide_true, decide_false, true_and, and_true]
  simp only [wSortSet, wLc, lcGo]
  simp only [startD, endsD, wRet, wRetN, wAndV, wOrV, wNotV, wCB, wCons, wNil, wVar, wC, wChain, wOp, wUn, wIf, wIfE, wTv, wTru, wNot, wAnd, wOr, wSeq, wNext, wAsg, wDrop, dgN, dgT, dgCons, dgNil, dgSub, dgFld, wPar, wTup, wLst, wLstC, wFld, wSetF, wMeth, wMake, wCall, wSl, wNoPart, wPart, wStar, wLenO, wTruO, wCallN, wMakeN, wMethN, gI20, gI2, gNeg, g1I, g2I, gNotN, gIsN, D.isNon, sAdd1, sAdd2, sAdd3, sAdd4, sMul1, sMulT, sLen1, sLen2, sLen3, sInt1, sInt2, sTup1, sTup2, sLst1, sLst2, sSl1, sSl2, sSl3, sTru1, sTru2, sTru3, sDvm, List.map, List.length_cons, List.length_nil, List.replicate, List.cons_append, List.nil_append, List.append_nil, List.getElem?_cons_zero, List.getElem?_cons_succ, List.set_cons_zero, List.set_cons_succ, DL.eq_int, DL.ne_int, Bool.not_true, Bool.not_false, decide_true, decide_false, true_and, and_true]
  have := ok.s3
  refine lc_starts (by exact (by decide : 9 < 10)) s [] st ok.so (by simpa using (by omega : s.length ≤ 60)) (fun k hk => absurd hk (by simp)) fun ks hk hb => ?_
  rw [List.length_nil, Nat.zero_add] at hk
  simp only [gSortSet, intsOf_map]
  refine ⟨by omega, fun ms pw hm hlen => ?_⟩
  have F0 : Fnd c ms := ⟨pw, fun k hk => hb k ((hm k).mp hk)⟩
  refine ⟨fun n env st1 => st1 = st ∧ ∃ (ms : List Int) (bf : Int) (o f g e7 e8 : Option D), env = [some (.int c), some (.tup (s.map pD)), some (.tup (t.map pD)), some (.lst (ms.map D.int)), some (.int bf), o, f, e7, e8, g] ∧ Fnd c ms ∧ 0 ≤ bf ∧ bf ≤ ms.length ∧ n = 9 - bf.toNat,
    ⟨_, rfl, ms, 0, _, _, _, _, _, rfl, F0, Int.le_refl _, by omega, rfl⟩, ?_⟩
  rintro n env st1 ⟨rfl, ms, bf, o, f, g, e7, e8, rfl, F, b0, bl, rfl⟩
  have ml := F.len c8 c1
  simp only [startD, endsD, wRet, wRetN, wAndV, wOrV, wNotV, wCB, wCons, wNil, wVar, wC, wChain, wOp, wUn, wIf, wIfE, wTv, wTru, wNot, wAnd, wOr, wSeq, wNext, wAsg, wDrop, dgN, dgT, dgCons, dgNil, dgSub, dgFld, wPar, wTup, wLst, wLstC, wFld, wSetF, wMeth, wMake, wCall, wSl, wNoPart, wPart, wStar, wLenO, wTruO, wCallN, wMakeN, wMethN, gI20, gI2, gNeg, g1I, g2I, gNotN, gIsN, D.isNon, sAdd1, sAdd2, sAdd3, sAdd4, sMul1, sMulT, sLen1, sLen2, sLen3, sInt1, sInt2, sTup1, sTup2, sLst1, sLst2, sSl1, sSl2, sSl3, sTru1, sTru2, sTru3, sDvm, List.map, List.length_cons, List.length_nil, List.replicate, List.cons_append, List.nil_append, List.append_nil, List.getElem?_cons_zero, List.getElem?_cons_succ, List.set_cons_zero, List.set_cons_succ, DL.eq_int, DL.ne_int, Bool.not_true, Bool.not_false, decide_true, decide_false, true_and, and_true]
  rw [List.length_map]
  by_cases e : bf = (ms.length : Int)
  · rw [show (!(bf == (ms.length : Int))) = false by simp [e]]
    simp only [startD, endsD, wRet, wRetN, wAndV, wOrV, wNotV, wCB, wCons, wNil, wVar, wC, wChain, wOp, wUn, wIf, wIfE, wTv, wTru, wNot, wAnd, wOr, wSeq, wNext, wAsg, wDrop, dgN, dgT, dgCons, dgNil, dgSub, dgFld, wPar, wTup, wLst, wLstC, wFld, wSetF, wMeth, wMake, wCall, wSl, wNoPart, wPart, wStar, wLenO, wTruO, wCallN, wMakeN, wMethN, gI20, gI2, gNeg, g1I, g2I, gNotN, gIsN, D.isNon, sAdd1, sAdd2, sAdd3, sAdd4, sMul1, sMulT, sLen1, sLen2, sLen3, sInt1, sInt2, sTup1, sTup2, sLst1, sLst2, sSl1, sSl2, sSl3, sTru1, sTru2, sTru3, sDvm, List.map, List.length_cons, List.length_nil, List.replicate, List.cons_append, List.nil_append, List.append_nil, List.getElem?_cons_zero, List.getElem?_cons_succ, List.set_cons_zero, List.set_cons_succ, DL.eq_int, DL.ne_int, Bool.not_true, Bool.not_false, decide_true, decide_false, true_and, and_true]
    exact h ms
  · rw [show (!(bf == (ms.length : Int))) = true by simp [e]]
    simp only [startD, endsD, wRet, wRetN, wAndV, wOrV, wNotV, wCB, wCons, wNil, wVar, wC, wChain, wOp, wUn, wIf, wIfE, wTv, wTru, wNot, wAnd, wOr, wSeq, wNext, wAsg, wDrop, dgN, dgT, dgCons, dgNil, dgSub, dgFld, wPar, wTup, wLst, wLstC, wFld, wSetF, wMeth, wMake, wCall, wSl, wNoPart, wPart, wStar, wLenO, wTruO, wCallN, wMakeN, wMethN, gI20, gI2, gNeg, g1I, g2I, gNotN, gIsN, D.isNon, sAdd1, sAdd2, sAdd3, sAdd4, sMul1, sMulT, sLen1, sLen2, sLen3, sInt1, sInt2, sTup1, sTup2, sLst1, sLst2, sSl1, sSl2, sSl3, sTru1, sTru2, sTru3, sDvm, List.map, List.length_cons, List.length_nil, List.replicate, List.cons_append, List.nil_append, List.append_nil, List.getElem?_cons_zero, List.getElem?_cons_succ, List.set_cons_zero, List.set_cons_succ, DL.eq_int, DL.ne_int, Bool.not_true, Bool.not_false, decide_true, decide_false, true_and, and_true]
    simp only [wForL]
    simp only [startD, endsD, wRet, wRetN, wAndV, wOrV, wNotV, wCB, wCons, wNil, wVar, wC, wChain, wOp, wUn, wIf, wIfE, wTv, wTru, wNot, wAnd, wOr, wSeq, wNext, wAsg, wDrop, dgN, dgT, dgCons, dgNil, dgSub, dgFld, wPar, wTup, wLst, wLstC, wFld, wSetF, wMeth, wMake, wCall, wSl, wNoPart, wPart, wStar, wLenO, wTruO, wCallN, wMakeN, wMethN, gI20, gI2, gNeg, g1I, g2I, gNotN, gIsN, D.isNon, sAdd1, sAdd2, sAdd3, sAdd4, sMul1, sMulT, sLen1, sLen2, sLen3, sInt1, sInt2, sTup1, sTup2, sLst1, sLst2, sSl1, sSl2, sSl3, sTru1, sTru2, sTru3, sDvm, List.map, List.length_cons, List.length_nil, List.replicate, List.cons_append, List.nil_append, List.append_nil, List.getElem?_cons_zero, List.getElem?_cons_succ, List.set_cons_zero, List.set_cons_succ, DL.eq_int, DL.ne_int, Bool.not_true, Bool.not_false, decide_true, decide_false, true_and, and_true]
    refine loop_arise ok ms ms _ _ _ F.rg F fun ms' o f g F' hs => ?_
    refine ⟨9 - ms.length, by omega, rfl, ms', ms.length, o, f, g, e7, e8, rfl, F', by omega, ?_, by simp⟩
    have := sub_length ms ms' F.pw F'.pw hs
    omega
end K82

namespace K82
open PySem PySem.Spec PyProof.Rows L2 DL
theorem pt_mix {a : Addr} {p : Ph} {l : List Ph} : List.lookup ("mixture" : Str) (potF a p l) = some (.ref a) := rfl
theorem pt_kinds {a : Addr} {p : Ph} {l : List Ph} : List.lookup ("kinds" : Str) (potF a p l) = some (.tup (p.ks.map D.int)) := rfl
theorem pt_given {a : Addr} {p : Ph} {l : List Ph} : List.lookup ("given" : Str) (potF a p l) = some (.int p.g) := rfl
theorem pt_amounts {a : Addr} {p : Ph} {l : List Ph} : List.lookup ("amounts" : Str) (potF a p l) = some (.tup (p.am.map D.int)) := rfl
theorem pt_past {a : Addr} {p : Ph} {l : List Ph} : List.lookup ("past" : Str) (potF a p l) = some (.tup (l.map phD)) := rfl
theorem pt_busy {a : Addr} {p : Ph} {l : List Ph} : List.lookup ("busy" : Str) (potF a p l) = some (.bl false) := rfl
def potR (a k g m p b : D) : List (Str × D) := [("mixture", a), ("kinds", k), ("given", g), ("amounts", m), ("past", p), ("busy", b)]
theorem potF_R {a : Addr} {p : Ph} {l : List Ph} : potF a p l = potR (.ref a) (.tup (p.ks.map D.int)) (.int p.g) (.tup (p.am.map D.int)) (.tup (l.map phD)) (.bl false) := rfl
section
variable {a k g m p b d : D}
theorem pr_len : (potR a k g m p b).length = 6 := rfl
theorem pr_mix : List.lookup ("mixture" : Str) (potR a k g m p b) = some a := rfl
theorem pr_kinds : List.lookup ("kinds" : Str) (potR a k g m p b) = some k := rfl
theorem pr_given : List.lookup ("given" : Str) (potR a k g m p b) = some g := rfl
theorem pr_amounts : List.lookup ("amounts" : Str) (potR a k g m p b) = some m := rfl
theorem pr_past : List.lookup ("past" : Str) (potR a k g m p b) = some p := rfl
theorem pr_busy : List.lookup ("busy" : Str) (potR a k g m p b) = some b := rfl
theorem pp_kinds : putD "kinds" d (potR a k g m p b) = potR a d g m p b := rfl
theorem pp_given : putD "given" d (potR a k g m p b) = potR a k d m p b := rfl
theorem pp_amounts : putD "amounts" d (potR a k g m p b) = potR a k g d p b := rfl
theorem pp_past : putD "past" d (potR a k g m p b) = potR a k g m d b := rfl
theorem pr_m1 : List.lookup ("check_idle" : Str) (potR a k g m p b) = none := rfl
theorem pr_m2 : List.lookup ("check_room" : Str) (potR a k g m p b) = none := rfl
theorem pr_m3 : List.lookup ("become" : Str) (potR a k g m p b) = none := rfl
theorem pr_m4 : List.lookup ("put_in" : Str) (potR a k g m p b) = none := rfl
theorem pr_m5 : List.lookup ("let_meet" : Str) (potR a k g m p b) = none := rfl
end
theorem no6 : (6 : Nat) < 1000 := by decide
theorem cP_no {K : PySem.W.Frag} (T : TP K) {f : Str} (h : f ∈ (["mixture", "kinds", "given", "amounts", "past", "busy"] : List Str)) : Cls K (cP K) ∧ NoAttr K (cP K) f := ⟨T.clP, T.noP _ h⟩
theorem ix_last {xs : List D} {d : D} {st : Sto} {Kn : KD} (k : Kn d st) : gIx (.tup (xs ++ [d])) (.int (-1)) st Kn := by
  show (match L2.atI (xs ++ [d]) (-1) with
    | some d => Kn d st
    | none => False)
  have e : L2.atI (xs ++ [d]) (-1) = some d := by
    unfold L2.atI
    have e : L2.ixN (xs ++ [d]).length (-1) = some xs.length := by
      unfold L2.ixN
      rw [if_neg (by decide), if_pos (by rw [List.length_append, List.length_cons, List.length_nil]; omega)]
      congr 1
      rw [List.length_append, List.length_cons, List.length_nil]; omega
    rw [e]
    show (xs ++ [d])[xs.length]? = some d
    rw [List.getElem?_append_right (Nat.le_refl _), Nat.sub_self]; rfl
  rw [e]; exact k
theorem cut_last {xs : List D} {d : D} : DL.cutD (xs ++ [d]) none (some (-1)) = xs := by
  unfold DL.cutD
  have e1 : HT.sIx (xs ++ [d]).length 0 none = 0 := by unfold HT.sIx; rfl
  have e2 : HT.sIx (xs ++ [d]).length (xs ++ [d]).length (some (-1)) = xs.length := by
    rw [List.length_append, List.length_cons, List.length_nil]
    unfold HT.sIx
    first
      | (simp; omega)
      | (split <;> omega)
      | omega
  rw [e1, e2]; simp
theorem pure_PotX_initX {K : PySem.W.Frag} (T : TP K) : Pu_PotX_initX K := by
  rintro ds st Kn Kx - ⟨p, a, m, rfl, l, mx, h⟩
  have ne : a ≠ p := fun e => by
    have q := mx.1
    rw [e, l] at q
    have q2 : (0 : Nat) = 5 := congrArg (fun z : Option Cell => match z with | some (.ins _ fs) => fs.length | _ => 0) q
    exact absurd q2 (by decide)
  simp only [startD, endsD, wRet, wRetN, wAndV, wOrV, wNotV, wCB, wCons, wNil, wVar, wC, wChain, wOp, wUn, wIf, wIfE, wTv, wTru, wNot, wAnd, wOr, wSeq, wNext, wAsg, wDrop, dgN, dgT, dgCons, dgNil, dgSub, dgFld, wPar, wTup, wLst, wLstC, wFld, wSetF, wMeth, wMake, wCall, wSl, wNoPart, wPart, wStar, wLenO, wTruO, wCallN, wMakeN, wMethN, gI20, gI2, gNeg, g1I, g2I, gNotN, gIsN, D.isNon, sAdd1, sAdd2, sAdd3, sAdd4, sMul1, sMulT, sLen1, sLen2, sLen3, sInt1, sInt2, sTup1, sTup2, sLst1, sLst2, sSl1, sSl2, sSl3, sTru1, sTru2, sTru3, sDvm, List.map, List.length_cons, List.length_nil, List.replicate, List.cons_append, List.nil_append, List.append_nil, List.getElem?_cons_zero, List.getElem?_cons_succ, List.set_cons_zero, List.set_cons_succ, DL.eq_int, DL.ne_int, Bool.not_true, Bool.not_false, decide_true, decide_false, true_and, and_true]
  refine ⟨a, m, rfl, mx, ?_⟩
  have s1 := mx.2.s1
  have s3 := mx.2.s3
  have mxl := mx.1
  simp only [l, put_put, put_lookup l, put_other ne, mxl, mx_starts]
  refine ⟨⟨⟨T.clP, T.noP _ (by simp)⟩, (by first | exact (by decide : (0 : Nat) < 1000) | exact (by decide : (1 : Nat) < 1000) | exact (by decide : (2 : Nat) < 1000) | exact (by decide : (3 : Nat) < 1000) | exact (by decide : (4 : Nat) < 1000) | exact (by decide : (5 : Nat) < 1000) | exact (by decide : (6 : Nat) < 1000) | exact (by decide : (7 : Nat) < 1000) | exact (by decide : (8 : Nat) < 1000))⟩, sl_small (by decide), ⟨⟨T.clP, T.noP _ (by simp)⟩, (by first | exact (by decide : (0 : Nat) < 1000) | exact (by decide : (1 : Nat) < 1000) | exact (by decide : (2 : Nat) < 1000) | exact (by decide : (3 : Nat) < 1000) | exact (by decide : (4 : Nat) < 1000) | exact (by decide : (5 : Nat) < 1000) | exact (by decide : (6 : Nat) < 1000) | exact (by decide : (7 : Nat) < 1000) | exact (by decide : (8 : Nat) < 1000))⟩, ⟨⟨T.clP, T.noP _ (by simp)⟩, (by first | exact (by decide : (0 : Nat) < 1000) | exact (by decide : (1 : Nat) < 1000) | exact (by decide : (2 : Nat) < 1000) | exact (by decide : (3 : Nat) < 1000) | exact (by decide : (4 : Nat) < 1000) | exact (by decide : (5 : Nat) < 1000) | exact (by decide : (6 : Nat) < 1000) | exact (by decide : (7 : Nat) < 1000) | exact (by decide : (8 : Nat) < 1000))⟩, sl_small (by decide), ⟨T.clM, T.noM _ (by simp)⟩, ?_⟩
  simp only [startD, endsD, wRet, wRetN, wAndV, wOrV, wNotV, wCB, wCons, wNil, wVar, wC, wChain, wOp, wUn, wIf, wIfE, wTv, wTru, wNot, wAnd, wOr, wSeq, wNext, wAsg, wDrop, dgN, dgT, dgCons, dgNil, dgSub, dgFld, wPar, wTup, wLst, wLstC, wFld, wSetF, wMeth, wMake, wCall, wSl, wNoPart, wPart, wStar, wLenO, wTruO, wCallN, wMakeN, wMethN, gI20, gI2, gNeg, g1I, g2I, gNotN, gIsN, D.isNon, sAdd1, sAdd2, sAdd3, sAdd4, sMul1, sMulT, sLen1, sLen2, sLen3, sInt1, sInt2, sTup1, sTup2, sLst1, sLst2, sSl1, sSl2, sSl3, sTru1, sTru2, sTru3, sDvm, List.map, List.length_cons, List.length_nil, List.replicate, List.cons_append, List.nil_append, List.append_nil, List.getElem?_cons_zero, List.getElem?_cons_succ, List.set_cons_zero, List.set_cons_succ, DL.eq_int, DL.ne_int, Bool.not_true, Bool.not_false, decide_true, decide_false, true_and, and_true]
  rw [List.length_map]
  refine ⟨⟨by simp, by decide, by omega, by omega⟩, ?_⟩
  simp only [l, put_put, put_lookup l]
  refine ⟨⟨⟨T.clP, T.noP _ (by simp)⟩, (by first | exact (by decide : (0 : Nat) < 1000) | exact (by decide : (1 : Nat) < 1000) | exact (by decide : (2 : Nat) < 1000) | exact (by decide : (3 : Nat) < 1000) | exact (by decide : (4 : Nat) < 1000) | exact (by decide : (5 : Nat) < 1000) | exact (by decide : (6 : Nat) < 1000) | exact (by decide : (7 : Nat) < 1000) | exact (by decide : (8 : Nat) < 1000))⟩, sl_small (by decide), ⟨⟨T.clP, T.noP _ (by simp)⟩, (by first | exact (by decide : (0 : Nat) < 1000) | exact (by decide : (1 : Nat) < 1000) | exact (by decide : (2 : Nat) < 1000) | exact (by decide : (3 : Nat) < 1000) | exact (by decide : (4 : Nat) < 1000) | exact (by decide : (5 : Nat) < 1000) | exact (by decide : (6 : Nat) < 1000) | exact (by decide : (7 : Nat) < 1000) | exact (by decide : (8 : Nat) < 1000))⟩, ⟨⟨T.clP, T.noP _ (by simp)⟩, (by first | exact (by decide : (0 : Nat) < 1000) | exact (by decide : (1 : Nat) < 1000) | exact (by decide : (2 : Nat) < 1000) | exact (by decide : (3 : Nat) < 1000) | exact (by decide : (4 : Nat) < 1000) | exact (by decide : (5 : Nat) < 1000) | exact (by decide : (6 : Nat) < 1000) | exact (by decide : (7 : Nat) < 1000) | exact (by decide : (8 : Nat) < 1000))⟩, ?_⟩
  have e : (List.replicate m.st.length (0 : Int)).map D.int = (List.replicate ((m.st.length : Nat) : Int).toNat [D.int 0]).flatten := by
    rw [Int.toNat_natCast, List.map_replicate]
    generalize m.st.length = n
    induction n with
    | zero => rfl
    | succ n ih => rw [List.replicate_succ, List.replicate_succ, List.flatten_cons, ih]; rfl
  unfold potC potF at h
  rw [e] at h
  exact h
theorem pure_Pot_become {K : PySem.W.Frag} (T : TP K) : Pu_Pot_become K := by
  rintro ds st Kn Kx - ⟨p, a, ph, past, ks, g, am, rfl, l, hl, h⟩
  unfold potC at l
  simp only [startD, endsD, wRet, wRetN, wAndV, wOrV, wNotV, wCB, wCons, wNil, wVar, wC, wChain, wOp, wUn, wIf, wIfE, wTv, wTru, wNot, wAnd, wOr, wSeq, wNext, wAsg, wDrop, dgN, dgT, dgCons, dgNil, dgSub, dgFld, wPar, wTup, wLst, wLstC, wFld, wSetF, wMeth, wMake, wCall, wSl, wNoPart, wPart, wStar, wLenO, wTruO, wCallN, wMakeN, wMethN, gI20, gI2, gNeg, g1I, g2I, gNotN, gIsN, D.isNon, sAdd1, sAdd2, sAdd3, sAdd4, sMul1, sMulT, sLen1, sLen2, sLen3, sInt1, sInt2, sTup1, sTup2, sLst1, sLst2, sSl1, sSl2, sSl3, sTru1, sTru2, sTru3, sDvm, List.map, List.length_cons, List.length_nil, List.replicate, List.cons_append, List.nil_append, List.append_nil, List.getElem?_cons_zero, List.getElem?_cons_succ, List.set_cons_zero, List.set_cons_succ, DL.eq_int, DL.ne_int, Bool.not_true, Bool.not_false, decide_true, decide_false, true_and, and_true]
  simp only [l, put_put, put_lookup l, pt_past, pt_kinds, pt_given, pt_amounts]
  refine ⟨⟨T.clP, T.noP _ (by simp)⟩, ⟨T.clP, T.noP _ (by simp)⟩, ⟨T.clP, T.noP _ (by simp)⟩, ⟨T.clP, T.noP _ (by simp)⟩, sl_small (by decide), sl_small ?_, ⟨⟨T.clP, T.noP _ (by simp)⟩, (by first | exact (by decide : (0 : Nat) < 1000) | exact (by decide : (1 : Nat) < 1000) | exact (by decide : (2 : Nat) < 1000) | exact (by decide : (3 : Nat) < 1000) | exact (by decide : (4 : Nat) < 1000) | exact (by decide : (5 : Nat) < 1000) | exact (by decide : (6 : Nat) < 1000) | exact (by decide : (7 : Nat) < 1000) | exact (by decide : (8 : Nat) < 1000))⟩, sl_small (by decide), ⟨⟨T.clP, T.noP _ (by simp)⟩, (by first | exact (by decide : (0 : Nat) < 1000) | exact (by decide : (1 : Nat) < 1000) | exact (by decide : (2 : Nat) < 1000) | exact (by decide : (3 : Nat) < 1000) | exact (by decide : (4 : Nat) < 1000) | exact (by decide : (5 : Nat) < 1000) | exact (by decide : (6 : Nat) < 1000) | exact (by decide : (7 : Nat) < 1000) | exact (by decide : (8 : Nat) < 1000))⟩, ⟨⟨T.clP, T.noP _ (by simp)⟩, (by first | exact (by decide : (0 : Nat) < 1000) | exact (by decide : (1 : Nat) < 1000) | exact (by decide : (2 : Nat) < 1000) | exact (by decide : (3 : Nat) < 1000) | exact (by decide : (4 : Nat) < 1000) | exact (by decide : (5 : Nat) < 1000) | exact (by decide : (6 : Nat) < 1000) | exact (by decide : (7 : Nat) < 1000) | exact (by decide : (8 : Nat) < 1000))⟩, ⟨⟨T.clP, T.noP _ (by simp)⟩, (by first | exact (by decide : (0 : Nat) < 1000) | exact (by decide : (1 : Nat) < 1000) | exact (by decide : (2 : Nat) < 1000) | exact (by decide : (3 : Nat) < 1000) | exact (by decide : (4 : Nat) < 1000) | exact (by decide : (5 : Nat) < 1000) | exact (by decide : (6 : Nat) < 1000) | exact (by decide : (7 : Nat) < 1000) | exact (by decide : (8 : Nat) < 1000))⟩, ?_⟩
  · rw [List.length_append, List.length_map, List.length_cons, List.length_nil]; omega
  · have e : (past ++ [ph]).map phD = past.map phD ++ [D.tup [D.tup (ph.ks.map D.int), D.int ph.g, D.tup (ph.am.map D.int)]] := by rw [List.map_append]; rfl
    unfold potC potF at h
    rw [e] at h
    exact h
theorem pure_Pot_check_idle {K : PySem.W.Frag} (T : TP K) : Pu_Pot_check_idle K := by
  rintro ds st Kn Kx - ⟨p, a, ph, past, rfl, l, h⟩
  unfold potC at l
  simp only [startD, endsD, wRet, wRetN, wAndV, wOrV, wNotV, wCB, wCons, wNil, wVar, wC, wChain, wOp, wUn, wIf, wIfE, wTv, wTru, wNot, wAnd, wOr, wSeq, wNext, wAsg, wDrop, dgN, dgT, dgCons, dgNil, dgSub, dgFld, wPar, wTup, wLst, wLstC, wFld, wSetF, wMeth, wMake, wCall, wSl, wNoPart, wPart, wStar, wLenO, wTruO, wCallN, wMakeN, wMethN, gI20, gI2, gNeg, g1I, g2I, gNotN, gIsN, D.isNon, sAdd1, sAdd2, sAdd3, sAdd4, sMul1, sMulT, sLen1, sLen2, sLen3, sInt1, sInt2, sTup1, sTup2, sLst1, sLst2, sSl1, sSl2, sSl3, sTru1, sTru2, sTru3, sDvm, List.map, List.length_cons, List.length_nil, List.replicate, List.cons_append, List.nil_append, List.append_nil, List.getElem?_cons_zero, List.getElem?_cons_succ, List.set_cons_zero, List.set_cons_succ, DL.eq_int, DL.ne_int, Bool.not_true, Bool.not_false, decide_true, decide_false, true_and, and_true]
  simp only [l, pt_busy]
  exact ⟨⟨T.clP, T.noP _ (by simp)⟩, h⟩
theorem pure_Pot_check_room {K : PySem.W.Frag} (T : TP K) : Pu_Pot_check_room K := by
  rintro ds st Kn Kx - ⟨p, a, ph, past, rfl, l, hl, h⟩
  unfold potC at l
  simp only [startD, endsD, wRet, wRetN, wAndV, wOrV, wNotV, wCB, wCons, wNil, wVar, wC, wChain, wOp, wUn, wIf, wIfE, wTv, wTru, wNot, wAnd, wOr, wSeq, wNext, wAsg, wDrop, dgN, dgT, dgCons, dgNil, dgSub, dgFld, wPar, wTup, wLst, wLstC, wFld, wSetF, wMeth, wMake, wCall, wSl, wNoPart, wPart, wStar, wLenO, wTruO, wCallN, wMakeN, wMethN, gI20, gI2, gNeg, g1I, g2I, gNotN, gIsN, D.isNon, sAdd1, sAdd2, sAdd3, sAdd4, sMul1, sMulT, sLen1, sLen2, sLen3, sInt1, sInt2, sTup1, sTup2, sLst1, sLst2, sSl1, sSl2, sSl3, sTru1, sTru2, sTru3, sDvm, List.map, List.length_cons, List.length_nil, List.replicate, List.cons_append, List.nil_append, List.append_nil, List.getElem?_cons_zero, List.getElem?_cons_succ, List.set_cons_zero, List.set_cons_succ, DL.eq_int, DL.ne_int, Bool.not_true, Bool.not_false, decide_true, decide_false, true_and, and_true]
  simp only [l, pt_past]
  refine ⟨⟨T.clP, T.noP _ (by simp)⟩, ?_⟩
  simp only [startD, endsD, wRet, wRetN, wAndV, wOrV, wNotV, wCB, wCons, wNil, wVar, wC, wChain, wOp, wUn, wIf, wIfE, wTv, wTru, wNot, wAnd, wOr, wSeq, wNext, wAsg, wDrop, dgN, dgT, dgCons, dgNil, dgSub, dgFld, wPar, wTup, wLst, wLstC, wFld, wSetF, wMeth, wMake, wCall, wSl, wNoPart, wPart, wStar, wLenO, wTruO, wCallN, wMakeN, wMethN, gI20, gI2, gNeg, g1I, g2I, gNotN, gIsN, D.isNon, sAdd1, sAdd2, sAdd3, sAdd4, sMul1, sMulT, sLen1, sLen2, sLen3, sInt1, sInt2, sTup1, sTup2, sLst1, sLst2, sSl1, sSl2, sSl3, sTru1, sTru2, sTru3, sDvm, List.map, List.length_cons, List.length_nil, List.replicate, List.cons_append, List.nil_append, List.append_nil, List.getElem?_cons_zero, List.getElem?_cons_succ, List.set_cons_zero, List.set_cons_succ, DL.eq_int, DL.ne_int, Bool.not_true, Bool.not_false, decide_true, decide_false, true_and, and_true]
  rw [List.length_map, show (((past.length : Nat) : Int) == 60) = false by simp; omega]
  simp only [startD, endsD, wRet, wRetN, wAndV, wOrV, wNotV, wCB, wCons, wNil, wVar, wC, wChain, wOp, wUn, wIf, wIfE, wTv, wTru, wNot, wAnd, wOr, wSeq, wNext, wAsg, wDrop, dgN, dgT, dgCons, dgNil, dgSub, dgFld, wPar, wTup, wLst, wLstC, wFld, wSetF, wMeth, wMake, wCall, wSl, wNoPart, wPart, wStar, wLenO, wTruO, wCallN, wMakeN, wMethN, gI20, gI2, gNeg, g1I, g2I, gNotN, gIsN, D.isNon, sAdd1, sAdd2, sAdd3, sAdd4, sMul1, sMulT, sLen1, sLen2, sLen3, sInt1, sInt2, sTup1, sTup2, sLst1, sLst2, sSl1, sSl2, sSl3, sTru1, sTru2, sTru3, sDvm, List.map, List.length_cons, List.length_nil, List.replicate, List.cons_append, List.nil_append, List.append_nil, List.getElem?_cons_zero, List.getElem?_cons_succ, List.set_cons_zero, List.set_cons_succ, DL.eq_int, DL.ne_int, Bool.not_true, Bool.not_false, decide_true, decide_false, true_and, and_true]
  exact h
theorem pure_Pot_put {K : PySem.W.Frag} (T : TP K) : Pu_Pot_put K := by
  rintro ds st Kn Kx - h
  obtain ⟨p, a, ph, past, m, n, rfl, l, r⟩ := id h
  unfold potC at l
  simp only [startD, endsD, wRet, wRetN, wAndV, wOrV, wNotV, wCB, wCons, wNil, wVar, wC, wChain, wOp, wUn, wIf, wIfE, wTv, wTru, wNot, wAnd, wOr, wSeq, wNext, wAsg, wDrop, dgN, dgT, dgCons, dgNil, dgSub, dgFld, wPar, wTup, wLst, wLstC, wFld, wSetF, wMeth, wMake, wCall, wSl, wNoPart, wPart, wStar, wLenO, wTruO, wCallN, wMakeN, wMethN, gI20, gI2, gNeg, g1I, g2I, gNotN, gIsN, D.isNon, sAdd1, sAdd2, sAdd3, sAdd4, sMul1, sMulT, sLen1, sLen2, sLen3, sInt1, sInt2, sTup1, sTup2, sLst1, sLst2, sSl1, sSl2, sSl3, sTru1, sTru2, sTru3, sDvm, List.map, List.length_cons, List.length_nil, List.replicate, List.cons_append, List.nil_append, List.append_nil, List.getElem?_cons_zero, List.getElem?_cons_succ, List.set_cons_zero, List.set_cons_succ, DL.eq_int, DL.ne_int, Bool.not_true, Bool.not_false, decide_true, decide_false, true_and, and_true]
  simp only [l]
  refine ⟨⟨trivial, rfl⟩, p, a, ph, past, rfl, l, ?_⟩
  simp only [l]
  exact ⟨⟨trivial, rfl⟩, h⟩
theorem pure_Pot_meet {K : PySem.W.Frag} (T : TP K) : Pu_Pot_meet K := by
  rintro ds st Kn Kx - h
  obtain ⟨p, a, ph, past, m, i, j, rfl, l, r⟩ := id h
  unfold potC at l
  simp only [startD, endsD, wRet, wRetN, wAndV, wOrV, wNotV, wCB, wCons, wNil, wVar, wC, wChain, wOp, wUn, wIf, wIfE, wTv, wTru, wNot, wAnd, wOr, wSeq, wNext, wAsg, wDrop, dgN, dgT, dgCons, dgNil, dgSub, dgFld, wPar, wTup, wLst, wLstC, wFld, wSetF, wMeth, wMake, wCall, wSl, wNoPart, wPart, wStar, wLenO, wTruO, wCallN, wMakeN, wMethN, gI20, gI2, gNeg, g1I, g2I, gNotN, gIsN, D.isNon, sAdd1, sAdd2, sAdd3, sAdd4, sMul1, sMulT, sLen1, sLen2, sLen3, sInt1, sInt2, sTup1, sTup2, sLst1, sLst2, sSl1, sSl2, sSl3, sTru1, sTru2, sTru3, sDvm, List.map, List.length_cons, List.length_nil, List.replicate, List.cons_append, List.nil_append, List.append_nil, List.getElem?_cons_zero, List.getElem?_cons_succ, List.set_cons_zero, List.set_cons_succ, DL.eq_int, DL.ne_int, Bool.not_true, Bool.not_false, decide_true, decide_false, true_and, and_true]
  simp only [l]
  refine ⟨⟨trivial, rfl⟩, p, a, ph, past, rfl, l, ?_⟩
  simp only [l]
  exact ⟨⟨trivial, rfl⟩, h⟩
theorem pure_PotX_lenX {K : PySem.W.Frag} (T : TP K) : Pu_PotX_lenX K := by
  rintro ds st Kn Kx - ⟨p, a, ph, past, rfl, l, h⟩
  unfold potC at l
  simp only [startD, endsD, wRet, wRetN, wAndV, wOrV, wNotV, wCB, wCons, wNil, wVar, wC, wChain, wOp, wUn, wIf, wIfE, wTv, wTru, wNot, wAnd, wOr, wSeq, wNext, wAsg, wDrop, dgN, dgT, dgCons, dgNil, dgSub, dgFld, wPar, wTup, wLst, wLstC, wFld, wSetF, wMeth, wMake, wCall, wSl, wNoPart, wPart, wStar, wLenO, wTruO, wCallN, wMakeN, wMethN, gI20, gI2, gNeg, g1I, g2I, gNotN, gIsN, D.isNon, sAdd1, sAdd2, sAdd3, sAdd4, sMul1, sMulT, sLen1, sLen2, sLen3, sInt1, sInt2, sTup1, sTup2, sLst1, sLst2, sSl1, sSl2, sSl3, sTru1, sTru2, sTru3, sDvm, List.map, List.length_cons, List.length_nil, List.replicate, List.cons_append, List.nil_append, List.append_nil, List.getElem?_cons_zero, List.getElem?_cons_succ, List.set_cons_zero, List.set_cons_succ, DL.eq_int, DL.ne_int, Bool.not_true, Bool.not_false, decide_true, decide_false, true_and, and_true]
  simp only [l, pt_kinds]
  refine ⟨⟨T.clP, T.noP _ (by simp)⟩, ?_⟩
  simp only [startD, endsD, wRet, wRetN, wAndV, wOrV, wNotV, wCB, wCons, wNil, wVar, wC, wChain, wOp, wUn, wIf, wIfE, wTv, wTru, wNot, wAnd, wOr, wSeq, wNext, wAsg, wDrop, dgN, dgT, dgCons, dgNil, dgSub, dgFld, wPar, wTup, wLst, wLstC, wFld, wSetF, wMeth, wMake, wCall, wSl, wNoPart, wPart, wStar, wLenO, wTruO, wCallN, wMakeN, wMethN, gI20, gI2, gNeg, g1I, g2I, gNotN, gIsN, D.isNon, sAdd1, sAdd2, sAdd3, sAdd4, sMul1, sMulT, sLen1, sLen2, sLen3, sInt1, sInt2, sTup1, sTup2, sLst1, sLst2, sSl1, sSl2, sSl3, sTru1, sTru2, sTru3, sDvm, List.map, List.length_cons, List.length_nil, List.replicate, List.cons_append, List.nil_append, List.append_nil, List.getElem?_cons_zero, List.getElem?_cons_succ, List.set_cons_zero, List.set_cons_succ, DL.eq_int, DL.ne_int, Bool.not_true, Bool.not_false, decide_true, decide_false, true_and, and_true]
  rw [List.length_map]
  exact h
theorem pure_Pot_undo {K : PySem.W.Frag} (T : TP K) : Pu_Pot_undo K := by
  rintro ds st Kn Kx - ⟨p, a, ph, past, ph', rfl, l, hl, h⟩
  have l0 := l
  unfold potC at l
  simp only [startD, endsD, wRet, wRetN, wAndV, wOrV, wNotV, wCB, wCons, wNil, wVar, wC, wChain, wOp, wUn, wIf, wIfE, wTv, wTru, wNot, wAnd, wOr, wSeq, wNext, wAsg, wDrop, dgN, dgT, dgCons, dgNil, dgSub, dgFld, wPar, wTup, wLst, wLstC, wFld, wSetF, wMeth, wMake, wCall, wSl, wNoPart, wPart, wStar, wLenO, wTruO, wCallN, wMakeN, wMethN, gI20, gI2, gNeg, g1I, g2I, gNotN, gIsN, D.isNon, sAdd1, sAdd2, sAdd3, sAdd4, sMul1, sMulT, sLen1, sLen2, sLen3, sInt1, sInt2, sTup1, sTup2, sLst1, sLst2, sSl1, sSl2, sSl3, sTru1, sTru2, sTru3, sDvm, List.map, List.length_cons, List.length_nil, List.replicate, List.cons_append, List.nil_append, List.append_nil, List.getElem?_cons_zero, List.getElem?_cons_succ, List.set_cons_zero, List.set_cons_succ, DL.eq_int, DL.ne_int, Bool.not_true, Bool.not_false, decide_true, decide_false, true_and, and_true]
  simp only [l]
  refine ⟨⟨trivial, rfl⟩, p, a, ph, _, rfl, l0, ?_⟩
  simp only [l, put_put, put_lookup l, pt_past]
  refine ⟨cP_no T (by simp), ?_⟩
  simp only [startD, endsD, wRet, wRetN, wAndV, wOrV, wNotV, wCB, wCons, wNil, wVar, wC, wChain, wOp, wUn, wIf, wIfE, wTv, wTru, wNot, wAnd, wOr, wSeq, wNext, wAsg, wDrop, dgN, dgT, dgCons, dgNil, dgSub, dgFld, wPar, wTup, wLst, wLstC, wFld, wSetF, wMeth, wMake, wCall, wSl, wNoPart, wPart, wStar, wLenO, wTruO, wCallN, wMakeN, wMethN, gI20, gI2, gNeg, g1I, g2I, gNotN, gIsN, D.isNon, sAdd1, sAdd2, sAdd3, sAdd4, sMul1, sMulT, sLen1, sLen2, sLen3, sInt1, sInt2, sTup1, sTup2, sLst1, sLst2, sSl1, sSl2, sSl3, sTru1, sTru2, sTru3, sDvm, List.map, List.length_cons, List.length_nil, List.replicate, List.cons_append, List.nil_append, List.append_nil, List.getElem?_cons_zero, List.getElem?_cons_succ, List.set_cons_zero, List.set_cons_succ, DL.eq_int, DL.ne_int, Bool.not_true, Bool.not_false, decide_true, decide_false, true_and, and_true]
  rw [List.length_map, List.length_append, List.length_cons, List.length_nil, show ((((past.length + (0 + 1) : Nat)) : Int) == 0) = false by simp; omega]
  simp only [startD, endsD, wRet, wRetN, wAndV, wOrV, wNotV, wCB, wCons, wNil, wVar, wC, wChain, wOp, wUn, wIf, wIfE, wTv, wTru, wNot, wAnd, wOr, wSeq, wNext, wAsg, wDrop, dgN, dgT, dgCons, dgNil, dgSub, dgFld, wPar, wTup, wLst, wLstC, wFld, wSetF, wMeth, wMake, wCall, wSl, wNoPart, wPart, wStar, wLenO, wTruO, wCallN, wMakeN, wMethN, gI20, gI2, gNeg, g1I, g2I, gNotN, gIsN, D.isNon, sAdd1, sAdd2, sAdd3, sAdd4, sMul1, sMulT, sLen1, sLen2, sLen3, sInt1, sInt2, sTup1, sTup2, sLst1, sLst2, sSl1, sSl2, sSl3, sTru1, sTru2, sTru3, sDvm, List.map, List.length_cons, List.length_nil, List.replicate, List.cons_append, List.nil_append, List.append_nil, List.getElem?_cons_zero, List.getElem?_cons_succ, List.set_cons_zero, List.set_cons_succ, DL.eq_int, DL.ne_int, Bool.not_true, Bool.not_false, decide_true, decide_false, true_and, and_true]
  simp only [l, pt_past]
  refine ⟨cP_no T (by simp), ?_⟩
  rw [List.map_append]
  refine ix_last ?_
  unfold phD
  simp only [startD, endsD, wRet, wRetN, wAndV, wOrV, wNotV, wCB, wCons, wNil, wVar, wC, wChain, wOp, wUn, wIf, wIfE, wTv, wTru, wNot, wAnd, wOr, wSeq, wNext, wAsg, wDrop, dgN, dgT, dgCons, dgNil, dgSub, dgFld, wPar, wTup, wLst, wLstC, wFld, wSetF, wMeth, wMake, wCall, wSl, wNoPart, wPart, wStar, wLenO, wTruO, wCallN, wMakeN, wMethN, gI20, gI2, gNeg, g1I, g2I, gNotN, gIsN, D.isNon, sAdd1, sAdd2, sAdd3, sAdd4, sMul1, sMulT, sLen1, sLen2, sLen3, sInt1, sInt2, sTup1, sTup2, sLst1, sLst2, sSl1, sSl2, sSl3, sTru1, sTru2, sTru3, sDvm, List.map, List.length_cons, List.length_nil, List.replicate, List.cons_append, List.nil_append, List.append_nil, List.getElem?_cons_zero, List.getElem?_cons_succ, List.set_cons_zero, List.set_cons_succ, DL.eq_int, DL.ne_int, Bool.not_true, Bool.not_false, decide_true, decide_false, true_and, and_true]
  simp only [l, put_put, put_lookup l, potF_R, pp_kinds, pp_given, pp_amounts, pp_past, pr_len, pr_past]
  refine ⟨⟨cP_no T (by simp), no6⟩, ⟨cP_no T (by simp), no6⟩, ⟨cP_no T (by simp), no6⟩, cP_no T (by simp), ?_⟩
  simp only [startD, endsD, wRet, wRetN, wAndV, wOrV, wNotV, wCB, wCons, wNil, wVar, wC, wChain, wOp, wUn, wIf, wIfE, wTv, wTru, wNot, wAnd, wOr, wSeq, wNext, wAsg, wDrop, dgN, dgT, dgCons, dgNil, dgSub, dgFld, wPar, wTup, wLst, wLstC, wFld, wSetF, wMeth, wMake, wCall, wSl, wNoPart, wPart, wStar, wLenO, wTruO, wCallN, wMakeN, wMethN, gI20, gI2, gNeg, g1I, g2I, gNotN, gIsN, D.isNon, sAdd1, sAdd2, sAdd3, sAdd4, sMul1, sMulT, sLen1, sLen2, sLen3, sInt1, sInt2, sTup1, sTup2, sLst1, sLst2, sSl1, sSl2, sSl3, sTru1, sTru2, sTru3, sDvm, List.map, List.length_cons, List.length_nil, List.replicate, List.cons_append, List.nil_append, List.append_nil, List.getElem?_cons_zero, List.getElem?_cons_succ, List.set_cons_zero, List.set_cons_succ, DL.eq_int, DL.ne_int, Bool.not_true, Bool.not_false, decide_true, decide_false, true_and, and_true]
  simp only [l, put_put, put_lookup l, potF_R, pp_kinds, pp_given, pp_amounts, pp_past, pr_len, pr_past, List.map_append, List.map]
  refine ⟨⟨cP_no T (by simp), no6⟩, ?_⟩
  rw [cut_last]
  exact h
/-- [amount + int(place == number) for place, amount in enumerate(amounts)] -/
theorem lc_bump {n : Int} {Kn : List D → Sto → Prop} {env : DEnv} (he : 6 < env.length) (e1 : env[1]? = some (some (.int n))) : ∀ (l : List Int) (k : Nat) (acc : List Int) (st : Sto), acc.length + l.length ≤ 60 →
    Kn ((acc ++ bump k n l).map D.int) st → lcL (tg2 5 6) wYes (wOp gAdd (wVar 6) (wCB gInt (wCons (wOp gEq (wVar 5) (wVar 1)) wNil))) env Kn (enumD k (l.map D.int)) (acc.map D.int) st
  | [], k, acc, st, _, h => by
    unfold bump at h
    rw [List.append_nil] at h
    exact h
  | x :: l, k, acc, st, hl, h => by
    rw [List.map_cons]
    unfold enumD lcL
    simp only [tg2, wYes, wOp, wVar, wCB, wCons, wNil]
    rw [List.getElem?_set_self (by rw [List.length_set]; omega)]
    dsimp only
    rw [List.getElem?_set_ne (by decide), List.getElem?_set_self (by omega)]
    dsimp only
    rw [List.getElem?_set_ne (by decide), List.getElem?_set_ne (by decide), e1]
    dsimp only
    rw [DL.eq_int, sInt2, sAdd1]
    have e : acc.map D.int ++ [D.int (x + if ((k : Int) == n) = true then 1 else 0)] = (acc ++ [x + if (k : Int) = n then 1 else 0]).map D.int := by
      rw [List.map_append]
      simp
    rw [List.length_cons] at hl
    refine ⟨by rw [List.length_map, sizeLine_eq]; omega, ?_⟩
    rw [e]
    refine lc_bump he e1 l (k + 1) _ st (by rw [List.length_append, List.length_cons, List.length_nil]; omega) ?_
    rw [List.append_assoc]
    exact h
theorem pure_Pot_put_in {K : PySem.W.Frag} (T : TP K) : Pu_Pot_put_in K := by
  rintro ds st Kn Kx - ⟨p, a, ph, past, m, n, rfl, l, mx, ⟨n0, n1⟩, ha, hk, hp, h⟩
  have l0 := l
  unfold potC at l
  simp only [startD, endsD, wRet, wRetN, wAndV, wOrV, wNotV, wCB, wCons, wNil, wVar, wC, wChain, wOp, wUn, wIf, wIfE, wTv, wTru, wNot, wAnd, wOr, wSeq, wNext, wAsg, wDrop, dgN, dgT, dgCons, dgNil, dgSub, dgFld, wPar, wTup, wLst, wLstC, wFld, wSetF, wMeth, wMake, wCall, wSl, wNoPart, wPart, wStar, wLenO, wTruO, wCallN, wMakeN, wMethN, gI20, gI2, gNeg, g1I, g2I, gNotN, gIsN, D.isNon, sAdd1, sAdd2, sAdd3, sAdd4, sMul1, sMulT, sLen1, sLen2, sLen3, sInt1, sInt2, sTup1, sTup2, sLst1, sLst2, sSl1, sSl2, sSl3, sTru1, sTru2, sTru3, sDvm, List.map, List.length_cons, List.length_nil, List.replicate, List.cons_append, List.nil_append, List.append_nil, List.getElem?_cons_zero, List.getElem?_cons_succ, List.set_cons_zero, List.set_cons_succ, DL.eq_int, DL.ne_int, Bool.not_true, Bool.not_false, decide_true, decide_false, true_and, and_true]
  simp only [l, pt_amounts]
  refine ⟨cP_no T (by simp), ?_⟩
  simp only [startD, endsD, wRet, wRetN, wAndV, wOrV, wNotV, wCB, wCons, wNil, wVar, wC, wChain, wOp, wUn, wIf, wIfE, wTv, wTru, wNot, wAnd, wOr, wSeq, wNext, wAsg, wDrop, dgN, dgT, dgCons, dgNil, dgSub, dgFld, wPar, wTup, wLst, wLstC, wFld, wSetF, wMeth, wMake, wCall, wSl, wNoPart, wPart, wStar, wLenO, wTruO, wCallN, wMakeN, wMethN, gI20, gI2, gNeg, g1I, g2I, gNotN, gIsN, D.isNon, sAdd1, sAdd2, sAdd3, sAdd4, sMul1, sMulT, sLen1, sLen2, sLen3, sInt1, sInt2, sTup1, sTup2, sLst1, sLst2, sSl1, sSl2, sSl3, sTru1, sTru2, sTru3, sDvm, List.map, List.length_cons, List.length_nil, List.replicate, List.cons_append, List.nil_append, List.append_nil, List.getElem?_cons_zero, List.getElem?_cons_succ, List.set_cons_zero, List.set_cons_succ, DL.eq_int, DL.ne_int, Bool.not_true, Bool.not_false, decide_true, decide_false, true_and, and_true]
  rw [List.length_map]
  refine btw n0 (by omega) ?_
  simp only [startD, endsD, wRet, wRetN, wAndV, wOrV, wNotV, wCB, wCons, wNil, wVar, wC, wChain, wOp, wUn, wIf, wIfE, wTv, wTru, wNot, wAnd, wOr, wSeq, wNext, wAsg, wDrop, dgN, dgT, dgCons, dgNil, dgSub, dgFld, wPar, wTup, wLst, wLstC, wFld, wSetF, wMeth, wMake, wCall, wSl, wNoPart, wPart, wStar, wLenO, wTruO, wCallN, wMakeN, wMethN, gI20, gI2, gNeg, g1I, g2I, gNotN, gIsN, D.isNon, sAdd1, sAdd2, sAdd3, sAdd4, sMul1, sMulT, sLen1, sLen2, sLen3, sInt1, sInt2, sTup1, sTup2, sLst1, sLst2, sSl1, sSl2, sSl3, sTru1, sTru2, sTru3, sDvm, List.map, List.length_cons, List.length_nil, List.replicate, List.cons_append, List.nil_append, List.append_nil, List.getElem?_cons_zero, List.getElem?_cons_succ, List.set_cons_zero, List.set_cons_succ, DL.eq_int, DL.ne_int, Bool.not_true, Bool.not_false, decide_true, decide_false, true_and, and_true]
  simp only [l]
  refine ⟨⟨trivial, rfl⟩, p, a, ph, past, rfl, l, hp, ?_⟩
  have mxl := mx.1
  simp only [l, pt_mix, mxl, mx_starts]
  refine ⟨cP_no T (by simp), ⟨T.clM, T.noM _ (by simp)⟩, ?_⟩
  have hn : n.toNat < m.st.length := by omega
  refine ix_pD n0 (p := m.st.getD n.toNat (0, 0)) (by rw [List.getD_eq_getElem?_getD, List.getElem?_eq_getElem hn]; rfl) ?_
  generalize m.st.getD n.toNat (0, 0) = q at h
  obtain ⟨k, g⟩ := q
  unfold pD
  simp only [startD, endsD, wRet, wRetN, wAndV, wOrV, wNotV, wCB, wCons, wNil, wVar, wC, wChain, wOp, wUn, wIf, wIfE, wTv, wTru, wNot, wAnd, wOr, wSeq, wNext, wAsg, wDrop, dgN, dgT, dgCons, dgNil, dgSub, dgFld, wPar, wTup, wLst, wLstC, wFld, wSetF, wMeth, wMake, wCall, wSl, wNoPart, wPart, wStar, wLenO, wTruO, wCallN, wMakeN, wMethN, gI20, gI2, gNeg, g1I, g2I, gNotN, gIsN, D.isNon, sAdd1, sAdd2, sAdd3, sAdd4, sMul1, sMulT, sLen1, sLen2, sLen3, sInt1, sInt2, sTup1, sTup2, sLst1, sLst2, sSl1, sSl2, sSl3, sTru1, sTru2, sTru3, sDvm, List.map, List.length_cons, List.length_nil, List.replicate, List.cons_append, List.nil_append, List.append_nil, List.getElem?_cons_zero, List.getElem?_cons_succ, List.set_cons_zero, List.set_cons_succ, DL.eq_int, DL.ne_int, Bool.not_true, Bool.not_false, decide_true, decide_false, true_and, and_true]
  simp only [wLcE]
  simp only [startD, endsD, wRet, wRetN, wAndV, wOrV, wNotV, wCB, wCons, wNil, wVar, wC, wChain, wOp, wUn, wIf, wIfE, wTv, wTru, wNot, wAnd, wOr, wSeq, wNext, wAsg, wDrop, dgN, dgT, dgCons, dgNil, dgSub, dgFld, wPar, wTup, wLst, wLstC, wFld, wSetF, wMeth, wMake, wCall, wSl, wNoPart, wPart, wStar, wLenO, wTruO, wCallN, wMakeN, wMethN, gI20, gI2, gNeg, g1I, g2I, gNotN, gIsN, D.isNon, sAdd1, sAdd2, sAdd3, sAdd4, sMul1, sMulT, sLen1, sLen2, sLen3, sInt1, sInt2, sTup1, sTup2, sLst1, sLst2, sSl1, sSl2, sSl3, sTru1, sTru2, sTru3, sDvm, List.map, List.length_cons, List.length_nil, List.replicate, List.cons_append, List.nil_append, List.append_nil, List.getElem?_cons_zero, List.getElem?_cons_succ, List.set_cons_zero, List.set_cons_succ, DL.eq_int, DL.ne_int, Bool.not_true, Bool.not_false, decide_true, decide_false, true_and, and_true]
  simp only [l, pt_amounts]
  refine ⟨cP_no T (by simp), ?_⟩
  simp only [enumOf, lcGo]
  have s3 := mx.2.s3
  refine lc_bump (n := n) (env := _) (by exact (by decide : 6 < 7)) rfl ph.am 0 [] st (by simp; omega) ?_
  simp only [startD, endsD, wRet, wRetN, wAndV, wOrV, wNotV, wCB, wCons, wNil, wVar, wC, wChain, wOp, wUn, wIf, wIfE, wTv, wTru, wNot, wAnd, wOr, wSeq, wNext, wAsg, wDrop, dgN, dgT, dgCons, dgNil, dgSub, dgFld, wPar, wTup, wLst, wLstC, wFld, wSetF, wMeth, wMake, wCall, wSl, wNoPart, wPart, wStar, wLenO, wTruO, wCallN, wMakeN, wMethN, gI20, gI2, gNeg, g1I, g2I, gNotN, gIsN, D.isNon, sAdd1, sAdd2, sAdd3, sAdd4, sMul1, sMulT, sLen1, sLen2, sLen3, sInt1, sInt2, sTup1, sTup2, sLst1, sLst2, sSl1, sSl2, sSl3, sTru1, sTru2, sTru3, sDvm, List.map, List.length_cons, List.length_nil, List.replicate, List.cons_append, List.nil_append, List.append_nil, List.getElem?_cons_zero, List.getElem?_cons_succ, List.set_cons_zero, List.set_cons_succ, DL.eq_int, DL.ne_int, Bool.not_true, Bool.not_false, decide_true, decide_false, true_and, and_true]
  simp only [l, pt_kinds, pt_given]
  refine ⟨⟨trivial, rfl⟩, cP_no T (by simp), sl_small (by decide), ?_⟩
  simp only [startD, endsD, wRet, wRetN, wAndV, wOrV, wNotV, wCB, wCons, wNil, wVar, wC, wChain, wOp, wUn, wIf, wIfE, wTv, wTru, wNot, wAnd, wOr, wSeq, wNext, wAsg, wDrop, dgN, dgT, dgCons, dgNil, dgSub, dgFld, wPar, wTup, wLst, wLstC, wFld, wSetF, wMeth, wMake, wCall, wSl, wNoPart, wPart, wStar, wLenO, wTruO, wCallN, wMakeN, wMethN, gI20, gI2, gNeg, g1I, g2I, gNotN, gIsN, D.isNon, sAdd1, sAdd2, sAdd3, sAdd4, sMul1, sMulT, sLen1, sLen2, sLen3, sInt1, sInt2, sTup1, sTup2, sLst1, sLst2, sSl1, sSl2, sSl3, sTru1, sTru2, sTru3, sDvm, List.map, List.length_cons, List.length_nil, List.replicate, List.cons_append, List.nil_append, List.append_nil, List.getElem?_cons_zero, List.getElem?_cons_succ, List.set_cons_zero, List.set_cons_succ, DL.eq_int, DL.ne_int, Bool.not_true, Bool.not_false, decide_true, decide_false, true_and, and_true]
  refine ⟨sl_small (by rw [List.length_map]; omega), ?_⟩
  simp only [l, pt_given]
  refine ⟨cP_no T (by simp), ?_⟩
  simp only [startD, endsD, wRet, wRetN, wAndV, wOrV, wNotV, wCB, wCons, wNil, wVar, wC, wChain, wOp, wUn, wIf, wIfE, wTv, wTru, wNot, wAnd, wOr, wSeq, wNext, wAsg, wDrop, dgN, dgT, dgCons, dgNil, dgSub, dgFld, wPar, wTup, wLst, wLstC, wFld, wSetF, wMeth, wMake, wCall, wSl, wNoPart, wPart, wStar, wLenO, wTruO, wCallN, wMakeN, wMethN, gI20, gI2, gNeg, g1I, g2I, gNotN, gIsN, D.isNon, sAdd1, sAdd2, sAdd3, sAdd4, sMul1, sMulT, sLen1, sLen2, sLen3, sInt1, sInt2, sTup1, sTup2, sLst1, sLst2, sSl1, sSl2, sSl3, sTru1, sTru2, sTru3, sDvm, List.map, List.length_cons, List.length_nil, List.replicate, List.cons_append, List.nil_append, List.append_nil, List.getElem?_cons_zero, List.getElem?_cons_succ, List.set_cons_zero, List.set_cons_succ, DL.eq_int, DL.ne_int, Bool.not_true, Bool.not_false, decide_true, decide_false, true_and, and_true]
  refine ⟨p, a, ph, past, ph.ks ++ [k], ph.g + g, bump 0 n ph.am, by rw [List.map_append]; rfl, l, by omega, ?_⟩
  exact h
theorem pure_Pot_let_meet {K : PySem.W.Frag} (T : TP K) : Pu_Pot_let_meet K := by
  rintro ds st Kn Kx - ⟨p, a, ph, past, m, i, j, rfl, l, mx, ⟨n0, n1, n2⟩, hl, hk, hp, h⟩
  have l0 := l
  unfold potC at l
  simp only [startD, endsD, wRet, wRetN, wAndV, wOrV, wNotV, wCB, wCons, wNil, wVar, wC, wChain, wOp, wUn, wIf, wIfE, wTv, wTru, wNot, wAnd, wOr, wSeq, wNext, wAsg, wDrop, dgN, dgT, dgCons, dgNil, dgSub, dgFld, wPar, wTup, wLst, wLstC, wFld, wSetF, wMeth, wMake, wCall, wSl, wNoPart, wPart, wStar, wLenO, wTruO, wCallN, wMakeN, wMethN, gI20, gI2, gNeg, g1I, g2I, gNotN, gIsN, D.isNon, sAdd1, sAdd2, sAdd3, sAdd4, sMul1, sMulT, sLen1, sLen2, sLen3, sInt1, sInt2, sTup1, sTup2, sLst1, sLst2, sSl1, sSl2, sSl3, sTru1, sTru2, sTru3, sDvm, List.map, List.length_cons, List.length_nil, List.replicate, List.cons_append, List.nil_append, List.append_nil, List.getElem?_cons_zero, List.getElem?_cons_succ, List.set_cons_zero, List.set_cons_succ, DL.eq_int, DL.ne_int, Bool.not_true, Bool.not_false, decide_true, decide_false, true_and, and_true]
  simp only [l, pt_kinds]
  refine ⟨sl_small (by decide), cP_no T (by simp), ?_⟩
  simp only [startD, endsD, wRet, wRetN, wAndV, wOrV, wNotV, wCB, wCons, wNil, wVar, wC, wChain, wOp, wUn, wIf, wIfE, wTv, wTru, wNot, wAnd, wOr, wSeq, wNext, wAsg, wDrop, dgN, dgT, dgCons, dgNil, dgSub, dgFld, wPar, wTup, wLst, wLstC, wFld, wSetF, wMeth, wMake, wCall, wSl, wNoPart, wPart, wStar, wLenO, wTruO, wCallN, wMakeN, wMethN, gI20, gI2, gNeg, g1I, g2I, gNotN, gIsN, D.isNon, sAdd1, sAdd2, sAdd3, sAdd4, sMul1, sMulT, sLen1, sLen2, sLen3, sInt1, sInt2, sTup1, sTup2, sLst1, sLst2, sSl1, sSl2, sSl3, sTru1, sTru2, sTru3, sDvm, List.map, List.length_cons, List.length_nil, List.replicate, List.cons_append, List.nil_append, List.append_nil, List.getElem?_cons_zero, List.getElem?_cons_succ, List.set_cons_zero, List.set_cons_succ, DL.eq_int, DL.ne_int, Bool.not_true, Bool.not_false, decide_true, decide_false, true_and, and_true]
  rw [List.length_map]
  refine ⟨i, j, ph.ks.length, rfl, ⟨n0, n1, n2⟩, ?_⟩
  simp only [startD, endsD, wRet, wRetN, wAndV, wOrV, wNotV, wCB, wCons, wNil, wVar, wC, wChain, wOp, wUn, wIf, wIfE, wTv, wTru, wNot, wAnd, wOr, wSeq, wNext, wAsg, wDrop, dgN, dgT, dgCons, dgNil, dgSub, dgFld, wPar, wTup, wLst, wLstC, wFld, wSetF, wMeth, wMake, wCall, wSl, wNoPart, wPart, wStar, wLenO, wTruO, wCallN, wMakeN, wMethN, gI20, gI2, gNeg, g1I, g2I, gNotN, gIsN, D.isNon, sAdd1, sAdd2, sAdd3, sAdd4, sMul1, sMulT, sLen1, sLen2, sLen3, sInt1, sInt2, sTup1, sTup2, sLst1, sLst2, sSl1, sSl2, sSl3, sTru1, sTru2, sTru3, sDvm, List.map, List.length_cons, List.length_nil, List.replicate, List.cons_append, List.nil_append, List.append_nil, List.getElem?_cons_zero, List.getElem?_cons_succ, List.set_cons_zero, List.set_cons_succ, DL.eq_int, DL.ne_int, Bool.not_true, Bool.not_false, decide_true, decide_false, true_and, and_true]
  simp only [l]
  refine ⟨⟨trivial, rfl⟩, p, a, ph, past, rfl, l, hp, ?_⟩
  simp only [l, pt_mix, pt_kinds]
  refine ⟨cP_no T (by simp), cP_no T (by simp), a, m, ph.ks, i, j, rfl, mx, ⟨n0, n1, n2⟩, hl, hk, ?_⟩
  simp only [startD, endsD, wRet, wRetN, wAndV, wOrV, wNotV, wCB, wCons, wNil, wVar, wC, wChain, wOp, wUn, wIf, wIfE, wTv, wTru, wNot, wAnd, wOr, wSeq, wNext, wAsg, wDrop, dgN, dgT, dgCons, dgNil, dgSub, dgFld, wPar, wTup, wLst, wLstC, wFld, wSetF, wMeth, wMake, wCall, wSl, wNoPart, wPart, wStar, wLenO, wTruO, wCallN, wMakeN, wMethN, gI20, gI2, gNeg, g1I, g2I, gNotN, gIsN, D.isNon, sAdd1, sAdd2, sAdd3, sAdd4, sMul1, sMulT, sLen1, sLen2, sLen3, sInt1, sInt2, sTup1, sTup2, sLst1, sLst2, sSl1, sSl2, sSl3, sTru1, sTru2, sTru3, sDvm, List.map, List.length_cons, List.length_nil, List.replicate, List.cons_append, List.nil_append, List.append_nil, List.getElem?_cons_zero, List.getElem?_cons_succ, List.set_cons_zero, List.set_cons_succ, DL.eq_int, DL.ne_int, Bool.not_true, Bool.not_false, decide_true, decide_false, true_and, and_true]
  simp only [l, pt_given]
  refine ⟨⟨trivial, rfl⟩, cP_no T (by simp), ?_⟩
  simp only [startD, endsD, wRet, wRetN, wAndV, wOrV, wNotV, wCB, wCons, wNil, wVar, wC, wChain, wOp, wUn, wIf, wIfE, wTv, wTru, wNot, wAnd, wOr, wSeq, wNext, wAsg, wDrop, dgN, dgT, dgCons, dgNil, dgSub, dgFld, wPar, wTup, wLst, wLstC, wFld, wSetF, wMeth, wMake, wCall, wSl, wNoPart, wPart, wStar, wLenO, wTruO, wCallN, wMakeN, wMethN, gI20, gI2, gNeg, g1I, g2I, gNotN, gIsN, D.isNon, sAdd1, sAdd2, sAdd3, sAdd4, sMul1, sMulT, sLen1, sLen2, sLen3, sInt1, sInt2, sTup1, sTup2, sLst1, sLst2, sSl1, sSl2, sSl3, sTru1, sTru2, sTru3, sDvm, List.map, List.length_cons, List.length_nil, List.replicate, List.cons_append, List.nil_append, List.append_nil, List.getElem?_cons_zero, List.getElem?_cons_succ, List.set_cons_zero, List.set_cons_succ, DL.eq_int, DL.ne_int, Bool.not_true, Bool.not_false, decide_true, decide_false, true_and, and_true]
  simp only [l, pt_amounts]
  exact ⟨cP_no T (by simp), p, a, ph, past, _, _, ph.am, rfl, l, by omega, h⟩
end K82

namespace K82
open PySem PySem.Spec PyProof.Rows L2 DL
theorem make_mix {K : PySem.W.Frag} {st : Sto} {m : Mx} {Kn : D → Sto → Prop} {Kx : KX} (ok : MxOk m.c m.st m.tb) (h : ∀ a ks, ¬ st.on a → Kn (.ref a) ((a, .ins (cM K) (mxF ⟨m.c, m.st, m.tb, ks⟩)) :: st)) :
    ∀ a, ¬ st.on a → sp_MixtureX_initX K (.ref a :: [.int m.c, .tup (m.st.map pD), .tup (m.tb.map pD)]) ((a, .ins (cM K) []) :: st) (fun d st2 => d = .non ∧ Kn (.ref a) st2) Kx := fun a na =>
  ⟨a, m.c, m.st, m.tb, rfl, new_lookup, ok, fun ks => ⟨rfl, by rw [put_new na]; exact h a ks na⟩⟩
theorem ok_pairs : MxOk 2 [(0, 0)] [(1, 1), (0, 0), (1, 0)] := ⟨by decide, by decide, by decide, by decide, by unfold okE; decide, by decide, by unfold okE; decide⟩
theorem ok_uneven : MxOk 2 [(0, 0)] [(1, 1), (0, 1), (1, 0)] := ⟨by decide, by decide, by decide, by decide, by unfold okE; decide, by decide, by unfold okE; decide⟩
theorem pure_pairs_mixture {K : PySem.W.Frag} (T : TP K) : Pu_pairs_mixture K := by
  rintro ds st Kn Kx hl h
  cases List.eq_nil_of_length_eq_zero hl
  simp only [startD, endsD, wRet, wRetN, wAndV, wOrV, wNotV, wCB, wCons, wNil, wVar, wC, wChain, wOp, wUn, wIf, wIfE, wTv, wTru, wNot, wAnd, wOr, wSeq, wNext, wAsg, wDrop, dgN, dgT, dgCons, dgNil, dgSub, dgFld, wPar, wTup, wLst, wLstC, wFld, wSetF, wMeth, wMake, wCall, wSl, wNoPart, wPart, wStar, wLenO, wTruO, wCallN, wMakeN, wMethN, gI20, gI2, gNeg, g1I, g2I, gNotN, gIsN, D.isNon, sAdd1, sAdd2, sAdd3, sAdd4, sMul1, sMulT, sLen1, sLen2, sLen3, sInt1, sInt2, sTup1, sTup2, sLst1, sLst2, sSl1, sSl2, sSl3, sTru1, sTru2, sTru3, sDvm, List.map, List.length_cons, List.length_nil, List.replicate, List.cons_append, List.nil_append, List.append_nil, List.getElem?_cons_zero, List.getElem?_cons_succ, List.set_cons_zero, List.set_cons_succ, DL.eq_int, DL.ne_int, Bool.not_true, Bool.not_false, decide_true, decide_false, true_and, and_true]
  exact ⟨sl_small (by decide), sl_small (by decide), sl_small (by decide), sl_small (by decide), sl_small (by decide), sl_small (by decide), make_mix (m := pairsM []) ok_pairs h⟩
theorem pure_uneven_mixture {K : PySem.W.Frag} (T : TP K) : Pu_uneven_mixture K := by
  rintro ds st Kn Kx hl h
  cases List.eq_nil_of_length_eq_zero hl
  simp only [startD, endsD, wRet, wRetN, wAndV, wOrV, wNotV, wCB, wCons, wNil, wVar, wC, wChain, wOp, wUn, wIf, wIfE, wTv, wTru, wNot, wAnd, wOr, wSeq, wNext, wAsg, wDrop, dgN, dgT, dgCons, dgNil, dgSub, dgFld, wPar, wTup, wLst, wLstC, wFld, wSetF, wMeth, wMake, wCall, wSl, wNoPart, wPart, wStar, wLenO, wTruO, wCallN, wMakeN, wMethN, gI20, gI2, gNeg, g1I, g2I, gNotN, gIsN, D.isNon, sAdd1, sAdd2, sAdd3, sAdd4, sMul1, sMulT, sLen1, sLen2, sLen3, sInt1, sInt2, sTup1, sTup2, sLst1, sLst2, sSl1, sSl2, sSl3, sTru1, sTru2, sTru3, sDvm, List.map, List.length_cons, List.length_nil, List.replicate, List.cons_append, List.nil_append, List.append_nil, List.getElem?_cons_zero, List.getElem?_cons_succ, List.set_cons_zero, List.set_cons_succ, DL.eq_int, DL.ne_int, Bool.not_true, Bool.not_false, decide_true, decide_false, true_and, and_true]
  exact ⟨sl_small (by decide), sl_small (by decide), sl_small (by decide), sl_small (by decide), sl_small (by decide), sl_small (by decide), make_mix (m := unevenM []) ok_uneven h⟩
theorem binAt_put {st : Sto} {b : Addr} {x y z : Int} (h : binAt st b) : (st.put b (binD x y z)).lookup b = some (binD x y z) := by
  obtain ⟨a, c, d, e⟩ := h
  exact put_lookup e
theorem at0 {x y z : D} : L2.atI [x, y, z] 0 = some x := rfl
theorem at1 {x y z : D} : L2.atI [x, y, z] 1 = some y := rfl
theorem at2 {x y z : D} : L2.atI [x, y, z] 2 = some z := rfl
theorem set_bin {st : Sto} {b : Addr} {x y z v : Int} {Kn : Sto → Prop} (l : st.lookup b = some (binD x y z)) :
    (Kn (st.put b (binD v y z)) → gSetL (.ref b) (.int 0) (.int v) st Kn) ∧ (Kn (st.put b (binD x v z)) → gSetL (.ref b) (.int 1) (.int v) st Kn) ∧ (Kn (st.put b (binD x y v)) → gSetL (.ref b) (.int 2) (.int v) st Kn) := by
  unfold binD at l
  refine ⟨fun h => ?_, fun h => ?_, fun h => ?_⟩ <;> (unfold gSetL; simp only [l]; exact h)
theorem pure_law_nip {K : PySem.W.Frag} (T : TP K) : Pu_law_nip K := by
  rintro ds st Kn Kx - ⟨b, n, rfl, ⟨x, y, z, l⟩, ⟨n1, n2⟩, h⟩
  have l0 := l
  unfold binD at l
  simp only [startD, endsD, wRet, wRetN, wAndV, wOrV, wNotV, wCB, wCons, wNil, wVar, wC, wChain, wOp, wUn, wIf, wIfE, wTv, wTru, wNot, wAnd, wOr, wSeq, wNext, wAsg, wDrop, dgN, dgT, dgCons, dgNil, dgSub, dgFld, wPar, wTup, wLst, wLstC, wFld, wSetF, wMeth, wMake, wCall, wSl, wNoPart, wPart, wStar, wLenO, wTruO, wCallN, wMakeN, wMethN, gI20, gI2, gNeg, g1I, g2I, gNotN, gIsN, D.isNon, sAdd1, sAdd2, sAdd3, sAdd4, sMul1, sMulT, sLen1, sLen2, sLen3, sInt1, sInt2, sTup1, sTup2, sLst1, sLst2, sSl1, sSl2, sSl3, sTru1, sTru2, sTru3, sDvm, List.map, List.length_cons, List.length_nil, List.replicate, List.cons_append, List.nil_append, List.append_nil, List.getElem?_cons_zero, List.getElem?_cons_succ, List.set_cons_zero, List.set_cons_succ, DL.eq_int, DL.ne_int, Bool.not_true, Bool.not_false, decide_true, decide_false, true_and, and_true]
  simp only [gIx, l, at2]
  simp only [startD, endsD, wRet, wRetN, wAndV, wOrV, wNotV, wCB, wCons, wNil, wVar, wC, wChain, wOp, wUn, wIf, wIfE, wTv, wTru, wNot, wAnd, wOr, wSeq, wNext, wAsg, wDrop, dgN, dgT, dgCons, dgNil, dgSub, dgFld, wPar, wTup, wLst, wLstC, wFld, wSetF, wMeth, wMake, wCall, wSl, wNoPart, wPart, wStar, wLenO, wTruO, wCallN, wMakeN, wMethN, gI20, gI2, gNeg, g1I, g2I, gNotN, gIsN, D.isNon, sAdd1, sAdd2, sAdd3, sAdd4, sMul1, sMulT, sLen1, sLen2, sLen3, sInt1, sInt2, sTup1, sTup2, sLst1, sLst2, sSl1, sSl2, sSl3, sTru1, sTru2, sTru3, sDvm, List.map, List.length_cons, List.length_nil, List.replicate, List.cons_append, List.nil_append, List.append_nil, List.getElem?_cons_zero, List.getElem?_cons_succ, List.set_cons_zero, List.set_cons_succ, DL.eq_int, DL.ne_int, Bool.not_true, Bool.not_false, decide_true, decide_false, true_and, and_true]
  refine (set_bin l0).2.2 ?_
  have l1 : (st.put b (binD x y (z + 1))).lookup b = some (binD x y (z + 1)) := put_lookup l
  have l1' := l1
  unfold binD at l1'
  simp only [binD, l1', at0, at1, at2]
  simp only [startD, endsD, wRet, wRetN, wAndV, wOrV, wNotV, wCB, wCons, wNil, wVar, wC, wChain, wOp, wUn, wIf, wIfE, wTv, wTru, wNot, wAnd, wOr, wSeq, wNext, wAsg, wDrop, dgN, dgT, dgCons, dgNil, dgSub, dgFld, wPar, wTup, wLst, wLstC, wFld, wSetF, wMeth, wMake, wCall, wSl, wNoPart, wPart, wStar, wLenO, wTruO, wCallN, wMakeN, wMethN, gI20, gI2, gNeg, g1I, g2I, gNotN, gIsN, D.isNon, sAdd1, sAdd2, sAdd3, sAdd4, sMul1, sMulT, sLen1, sLen2, sLen3, sInt1, sInt2, sTup1, sTup2, sLst1, sLst2, sSl1, sSl2, sSl3, sTru1, sTru2, sTru3, sDvm, List.map, List.length_cons, List.length_nil, List.replicate, List.cons_append, List.nil_append, List.append_nil, List.getElem?_cons_zero, List.getElem?_cons_succ, List.set_cons_zero, List.set_cons_succ, DL.eq_int, DL.ne_int, Bool.not_true, Bool.not_false, decide_true, decide_false, true_and, and_true]
  have fin : ∀ {v x' y' z' : Int}, 0 ≤ v → v < n → Kn (.int v) ((st.put b (binD x y (z + 1))).put b (binD x' y' z')) := fun h0 h1 => by rw [put_put]; exact h _ _ _ _ h0 h1
  by_cases c : 0 < x
  · rw [decide_eq_true c]
    simp only [binD, l1', at0, at1, at2]
    simp only [startD, endsD, wRet, wRetN, wAndV, wOrV, wNotV, wCB, wCons, wNil, wVar, wC, wChain, wOp, wUn, wIf, wIfE, wTv, wTru, wNot, wAnd, wOr, wSeq, wNext, wAsg, wDrop, dgN, dgT, dgCons, dgNil, dgSub, dgFld, wPar, wTup, wLst, wLstC, wFld, wSetF, wMeth, wMake, wCall, wSl, wNoPart, wPart, wStar, wLenO, wTruO, wCallN, wMakeN, wMethN, gI20, gI2, gNeg, g1I, g2I, gNotN, gIsN, D.isNon, sAdd1, sAdd2, sAdd3, sAdd4, sMul1, sMulT, sLen1, sLen2, sLen3, sInt1, sInt2, sTup1, sTup2, sLst1, sLst2, sSl1, sSl2, sSl3, sTru1, sTru2, sTru3, sDvm, List.map, List.length_cons, List.length_nil, List.replicate, List.cons_append, List.nil_append, List.append_nil, List.getElem?_cons_zero, List.getElem?_cons_succ, List.set_cons_zero, List.set_cons_succ, DL.eq_int, DL.ne_int, Bool.not_true, Bool.not_false, decide_true, decide_false, true_and, and_true]
    refine ⟨⟨by omega, by omega⟩, ?_⟩
    refine (set_bin l1).1 ?_
    exact fin (Int.emod_nonneg _ (by omega)) (Int.emod_lt_of_pos _ (by omega))
  · rw [decide_eq_false c]
    simp only [binD, l1', at0, at1, at2]
    simp only [startD, endsD, wRet, wRetN, wAndV, wOrV, wNotV, wCB, wCons, wNil, wVar, wC, wChain, wOp, wUn, wIf, wIfE, wTv, wTru, wNot, wAnd, wOr, wSeq, wNext, wAsg, wDrop, dgN, dgT, dgCons, dgNil, dgSub, dgFld, wPar, wTup, wLst, wLstC, wFld, wSetF, wMeth, wMake, wCall, wSl, wNoPart, wPart, wStar, wLenO, wTruO, wCallN, wMakeN, wMethN, gI20, gI2, gNeg, g1I, g2I, gNotN, gIsN, D.isNon, sAdd1, sAdd2, sAdd3, sAdd4, sMul1, sMulT, sLen1, sLen2, sLen3, sInt1, sInt2, sTup1, sTup2, sLst1, sLst2, sSl1, sSl2, sSl3, sTru1, sTru2, sTru3, sDvm, List.map, List.length_cons, List.length_nil, List.replicate, List.cons_append, List.nil_append, List.append_nil, List.getElem?_cons_zero, List.getElem?_cons_succ, List.set_cons_zero, List.set_cons_succ, DL.eq_int, DL.ne_int, Bool.not_true, Bool.not_false, decide_true, decide_false, true_and, and_true]
    refine ⟨.inr ⟨by decide, by decide⟩, ?_⟩
    simp only [binD, l1', at0, at1, at2]
    simp only [startD, endsD, wRet, wRetN, wAndV, wOrV, wNotV, wCB, wCons, wNil, wVar, wC, wChain, wOp, wUn, wIf, wIfE, wTv, wTru, wNot, wAnd, wOr, wSeq, wNext, wAsg, wDrop, dgN, dgT, dgCons, dgNil, dgSub, dgFld, wPar, wTup, wLst, wLstC, wFld, wSetF, wMeth, wMake, wCall, wSl, wNoPart, wPart, wStar, wLenO, wTruO, wCallN, wMakeN, wMethN, gI20, gI2, gNeg, g1I, g2I, gNotN, gIsN, D.isNon, sAdd1, sAdd2, sAdd3, sAdd4, sMul1, sMulT, sLen1, sLen2, sLen3, sInt1, sInt2, sTup1, sTup2, sLst1, sLst2, sSl1, sSl2, sSl3, sTru1, sTru2, sTru3, sDvm, List.map, List.length_cons, List.length_nil, List.replicate, List.cons_append, List.nil_append, List.append_nil, List.getElem?_cons_zero, List.getElem?_cons_succ, List.set_cons_zero, List.set_cons_succ, DL.eq_int, DL.ne_int, Bool.not_true, Bool.not_false, decide_true, decide_false, true_and, and_true]
    refine ⟨cmul_small (by decide) (by decide), by decide, ?_⟩
    refine (set_bin l1).2.1 ?_
    have l2 := put_lookup (c' := binD x ((y * 40013 + 9161 * (z + 1) + 1) % 2147483179) (z + 1)) l1
    unfold binD at l2
    unfold binD
    simp only [l2, at1]
    simp only [startD, endsD, wRet, wRetN, wAndV, wOrV, wNotV, wCB, wCons, wNil, wVar, wC, wChain, wOp, wUn, wIf, wIfE, wTv, wTru, wNot, wAnd, wOr, wSeq, wNext, wAsg, wDrop, dgN, dgT, dgCons, dgNil, dgSub, dgFld, wPar, wTup, wLst, wLstC, wFld, wSetF, wMeth, wMake, wCall, wSl, wNoPart, wPart, wStar, wLenO, wTruO, wCallN, wMakeN, wMethN, gI20, gI2, gNeg, g1I, g2I, gNotN, gIsN, D.isNon, sAdd1, sAdd2, sAdd3, sAdd4, sMul1, sMulT, sLen1, sLen2, sLen3, sInt1, sInt2, sTup1, sTup2, sLst1, sLst2, sSl1, sSl2, sSl3, sTru1, sTru2, sTru3, sDvm, List.map, List.length_cons, List.length_nil, List.replicate, List.cons_append, List.nil_append, List.append_nil, List.getElem?_cons_zero, List.getElem?_cons_succ, List.set_cons_zero, List.set_cons_succ, DL.eq_int, DL.ne_int, Bool.not_true, Bool.not_false, decide_true, decide_false, true_and, and_true]
    refine ⟨⟨by decide, by decide⟩, by omega, ?_⟩
    exact fin (Int.emod_nonneg _ (by omega)) (Int.emod_lt_of_pos _ (by omega))
abbrev bBin : WS := wAsg (wOp gMod (wCB gInt (wCons (wOp gAdd (wOp gAdd (wOp gMul (wVar 2) (wC (.int 61417))) (wOp gMul (wCB gInt (wCons (wVar 3) wNil)) (wC (.int 17)))) (wVar 1)) wNil)) (wC (.int 2147483179))) (dgN 2)
theorem loop_bin {DD : DEnds} {e0 e4 : Option D} {t : Int} {st : Sto} : ∀ (l : List Int) (s : Int) (e3 : Option D), (∀ s e3, DD.nx [e0, some (.int t), some (.int s), e3, e4] st) → forL (dgN 3) bBin DD (l.map D.int) [e0, some (.int t), some (.int s), e3, e4] st
  | [], s, e3, h => h s e3
  | n :: l, s, e3, h => by
    rw [List.map_cons]
    unfold forL
    simp only [startD, endsD, wRet, wRetN, wAndV, wOrV, wNotV, wCB, wCons, wNil, wVar, wC, wChain, wOp, wUn, wIf, wIfE, wTv, wTru, wNot, wAnd, wOr, wSeq, wNext, wAsg, wDrop, dgN, dgT, dgCons, dgNil, dgSub, dgFld, wPar, wTup, wLst, wLstC, wFld, wSetF, wMeth, wMake, wCall, wSl, wNoPart, wPart, wStar, wLenO, wTruO, wCallN, wMakeN, wMethN, gI20, gI2, gNeg, g1I, g2I, gNotN, gIsN, D.isNon, sAdd1, sAdd2, sAdd3, sAdd4, sMul1, sMulT, sLen1, sLen2, sLen3, sInt1, sInt2, sTup1, sTup2, sLst1, sLst2, sSl1, sSl2, sSl3, sTru1, sTru2, sTru3, sDvm, List.map, List.length_cons, List.length_nil, List.replicate, List.cons_append, List.nil_append, List.append_nil, List.getElem?_cons_zero, List.getElem?_cons_succ, List.set_cons_zero, List.set_cons_succ, DL.eq_int, DL.ne_int, Bool.not_true, Bool.not_false, decide_true, decide_false, true_and, and_true]
    refine ⟨.inr ⟨by decide, by decide⟩, .inr ⟨by decide, by decide⟩, by decide, ?_⟩
    exact loop_bin l _ _ h
theorem pure_law_bin {K : PySem.W.Frag} (T : TP K) : Pu_law_bin K := by
  rintro ds st Kn Kx - ⟨ns, t, rfl, ⟨t0, t1⟩, hl, h⟩
  simp only [startD, endsD, wRet, wRetN, wAndV, wOrV, wNotV, wCB, wCons, wNil, wVar, wC, wChain, wOp, wUn, wIf, wIfE, wTv, wTru, wNot, wAnd, wOr, wSeq, wNext, wAsg, wDrop, dgN, dgT, dgCons, dgNil, dgSub, dgFld, wPar, wTup, wLst, wLstC, wFld, wSetF, wMeth, wMake, wCall, wSl, wNoPart, wPart, wStar, wLenO, wTruO, wCallN, wMakeN, wMethN, gI20, gI2, gNeg, g1I, g2I, gNotN, gIsN, D.isNon, sAdd1, sAdd2, sAdd3, sAdd4, sMul1, sMulT, sLen1, sLen2, sLen3, sInt1, sInt2, sTup1, sTup2, sLst1, sLst2, sSl1, sSl2, sSl3, sTru1, sTru2, sTru3, sDvm, List.map, List.length_cons, List.length_nil, List.replicate, List.cons_append, List.nil_append, List.append_nil, List.getElem?_cons_zero, List.getElem?_cons_succ, List.set_cons_zero, List.set_cons_succ, DL.eq_int, DL.ne_int, Bool.not_true, Bool.not_false, decide_true, decide_false, true_and, and_true]
  refine ⟨cmul_small (by decide) (by decide), ?_⟩
  simp only [wForL]
  simp only [startD, endsD, wRet, wRetN, wAndV, wOrV, wNotV, wCB, wCons, wNil, wVar, wC, wChain, wOp, wUn, wIf, wIfE, wTv, wTru, wNot, wAnd, wOr, wSeq, wNext, wAsg, wDrop, dgN, dgT, dgCons, dgNil, dgSub, dgFld, wPar, wTup, wLst, wLstC, wFld, wSetF, wMeth, wMake, wCall, wSl, wNoPart, wPart, wStar, wLenO, wTruO, wCallN, wMakeN, wMethN, gI20, gI2, gNeg, g1I, g2I, gNotN, gIsN, D.isNon, sAdd1, sAdd2, sAdd3, sAdd4, sMul1, sMulT, sLen1, sLen2, sLen3, sInt1, sInt2, sTup1, sTup2, sLst1, sLst2, sSl1, sSl2, sSl3, sTru1, sTru2, sTru3, sDvm, List.map, List.length_cons, List.length_nil, List.replicate, List.cons_append, List.nil_append, List.append_nil, List.getElem?_cons_zero, List.getElem?_cons_succ, List.set_cons_zero, List.set_cons_succ, DL.eq_int, DL.ne_int, Bool.not_true, Bool.not_false, decide_true, decide_false, true_and, and_true]
  rw [cut_map]
  refine loop_bin _ _ _ fun s e3 => ?_
  simp only [startD, endsD, wRet, wRetN, wAndV, wOrV, wNotV, wCB, wCons, wNil, wVar, wC, wChain, wOp, wUn, wIf, wIfE, wTv, wTru, wNot, wAnd, wOr, wSeq, wNext, wAsg, wDrop, dgN, dgT, dgCons, dgNil, dgSub, dgFld, wPar, wTup, wLst, wLstC, wFld, wSetF, wMeth, wMake, wCall, wSl, wNoPart, wPart, wStar, wLenO, wTruO, wCallN, wMakeN, wMethN, gI20, gI2, gNeg, g1I, g2I, gNotN, gIsN, D.isNon, sAdd1, sAdd2, sAdd3, sAdd4, sMul1, sMulT, sLen1, sLen2, sLen3, sInt1, sInt2, sTup1, sTup2, sLst1, sLst2, sSl1, sSl2, sSl3, sTru1, sTru2, sTru3, sDvm, List.map, List.length_cons, List.length_nil, List.replicate, List.cons_append, List.nil_append, List.append_nil, List.getElem?_cons_zero, List.getElem?_cons_succ, List.set_cons_zero, List.set_cons_succ, DL.eq_int, DL.ne_int, Bool.not_true, Bool.not_false, decide_true, decide_false, true_and, and_true]
  have fin : ∀ own : Int, (wRet (wLstC (wCons (wIfE (wOr (wTv (wOp gLt (wVar 4) (wC (.int 0)))) (wTv (wOp gGe (wVar 4) (wOp gPow (wC (.int 10)) (wC (.int 18)))))) (wCB (g1I (fun _ => True) fun i => .int (if i < 0 then -i else i)) (wCons (wVar 4) wNil)) (wC (.int 0))) (wCons (wOp gMod (wCB gInt (wCons (wOp gAdd (wVar 2) (wOp gMul (wVar 4) (wC (.int 19)))) wNil)) (wC (.int 2147483179))) (wCons (wC (.int 0)) wNil)))))
      { nx := fun _ st => Kn .non st, rt := Kn, ex := fun x _ st => Kx x st } [some (.scr ns), some (.int t), some (.int s), e3, some (.int own)] st := fun own => by
    have end_ : ∀ v : Int, CMul own 19 ∧ (0 : Int) < 2147483179 ∧ 0 + 1 + 1 + 1 ≤ sizeLine ∧ ∀ (p : Addr), ¬ st.on p → Kn (.ref p) ((p, Cell.lst [.int v, .int ((s + own * 19) % 2147483179), .int 0]) :: st) := fun v =>
      ⟨.inr ⟨by decide, by decide⟩, by decide, sl_small (by decide), fun p np => h p _ _ _ np⟩
    simp only [startD, endsD, wRet, wRetN, wAndV, wOrV, wNotV, wCB, wCons, wNil, wVar, wC, wChain, wOp, wUn, wIf, wIfE, wTv, wTru, wNot, wAnd, wOr, wSeq, wNext, wAsg, wDrop, dgN, dgT, dgCons, dgNil, dgSub, dgFld, wPar, wTup, wLst, wLstC, wFld, wSetF, wMeth, wMake, wCall, wSl, wNoPart, wPart, wStar, wLenO, wTruO, wCallN, wMakeN, wMethN, gI20, gI2, gNeg, g1I, g2I, gNotN, gIsN, D.isNon, sAdd1, sAdd2, sAdd3, sAdd4, sMul1, sMulT, sLen1, sLen2, sLen3, sInt1, sInt2, sTup1, sTup2, sLst1, sLst2, sSl1, sSl2, sSl3, sTru1, sTru2, sTru3, sDvm, List.map, List.length_cons, List.length_nil, List.replicate, List.cons_append, List.nil_append, List.append_nil, List.getElem?_cons_zero, List.getElem?_cons_succ, List.set_cons_zero, List.set_cons_succ, DL.eq_int, DL.ne_int, Bool.not_true, Bool.not_false, decide_true, decide_false, true_and, and_true]
    by_cases c1 : own < 0
    · rw [decide_eq_true c1]
      simp only [startD, endsD, wRet, wRetN, wAndV, wOrV, wNotV, wCB, wCons, wNil, wVar, wC, wChain, wOp, wUn, wIf, wIfE, wTv, wTru, wNot, wAnd, wOr, wSeq, wNext, wAsg, wDrop, dgN, dgT, dgCons, dgNil, dgSub, dgFld, wPar, wTup, wLst, wLstC, wFld, wSetF, wMeth, wMake, wCall, wSl, wNoPart, wPart, wStar, wLenO, wTruO, wCallN, wMakeN, wMethN, gI20, gI2, gNeg, g1I, g2I, gNotN, gIsN, D.isNon, sAdd1, sAdd2, sAdd3, sAdd4, sMul1, sMulT, sLen1, sLen2, sLen3, sInt1, sInt2, sTup1, sTup2, sLst1, sLst2, sSl1, sSl2, sSl3, sTru1, sTru2, sTru3, sDvm, List.map, List.length_cons, List.length_nil, List.replicate, List.cons_append, List.nil_append, List.append_nil, List.getElem?_cons_zero, List.getElem?_cons_succ, List.set_cons_zero, List.set_cons_succ, DL.eq_int, DL.ne_int, Bool.not_true, Bool.not_false, decide_true, decide_false, true_and, and_true]
      exact end_ _
    · rw [decide_eq_false c1]
      simp only [startD, endsD, wRet, wRetN, wAndV, wOrV, wNotV, wCB, wCons, wNil, wVar, wC, wChain, wOp, wUn, wIf, wIfE, wTv, wTru, wNot, wAnd, wOr, wSeq, wNext, wAsg, wDrop, dgN, dgT, dgCons, dgNil, dgSub, dgFld, wPar, wTup, wLst, wLstC, wFld, wSetF, wMeth, wMake, wCall, wSl, wNoPart, wPart, wStar, wLenO, wTruO, wCallN, wMakeN, wMethN, gI20, gI2, gNeg, g1I, g2I, gNotN, gIsN, D.isNon, sAdd1, sAdd2, sAdd3, sAdd4, sMul1, sMulT, sLen1, sLen2, sLen3, sInt1, sInt2, sTup1, sTup2, sLst1, sLst2, sSl1, sSl2, sSl3, sTru1, sTru2, sTru3, sDvm, List.map, List.length_cons, List.length_nil, List.replicate, List.cons_append, List.nil_append, List.append_nil, List.getElem?_cons_zero, List.getElem?_cons_succ, List.set_cons_zero, List.set_cons_succ, DL.eq_int, DL.ne_int, Bool.not_true, Bool.not_false, decide_true, decide_false, true_and, and_true]
      refine ⟨⟨by decide, by decide, by decide⟩, ?_⟩
      by_cases c2 : (10 : Int) ^ (18 : Int).toNat ≤ own
      · rw [decide_eq_true c2]
        simp only [startD, endsD, wRet, wRetN, wAndV, wOrV, wNotV, wCB, wCons, wNil, wVar, wC, wChain, wOp, wUn, wIf, wIfE, wTv, wTru, wNot, wAnd, wOr, wSeq, wNext, wAsg, wDrop, dgN, dgT, dgCons, dgNil, dgSub, dgFld, wPar, wTup, wLst, wLstC, wFld, wSetF, wMeth, wMake, wCall, wSl, wNoPart, wPart, wStar, wLenO, wTruO, wCallN, wMakeN, wMethN, gI20, gI2, gNeg, g1I, g2I, gNotN, gIsN, D.isNon, sAdd1, sAdd2, sAdd3, sAdd4, sMul1, sMulT, sLen1, sLen2, sLen3, sInt1, sInt2, sTup1, sTup2, sLst1, sLst2, sSl1, sSl2, sSl3, sTru1, sTru2, sTru3, sDvm, List.map, List.length_cons, List.length_nil, List.replicate, List.cons_append, List.nil_append, List.append_nil, List.getElem?_cons_zero, List.getElem?_cons_succ, List.set_cons_zero, List.set_cons_succ, DL.eq_int, DL.ne_int, Bool.not_true, Bool.not_false, decide_true, decide_false, true_and, and_true]
        exact end_ _
      · rw [decide_eq_false c2]
        simp only [startD, endsD, wRet, wRetN, wAndV, wOrV, wNotV, wCB, wCons, wNil, wVar, wC, wChain, wOp, wUn, wIf, wIfE, wTv, wTru, wNot, wAnd, wOr, wSeq, wNext, wAsg, wDrop, dgN, dgT, dgCons, dgNil, dgSub, dgFld, wPar, wTup, wLst, wLstC, wFld, wSetF, wMeth, wMake, wCall, wSl, wNoPart, wPart, wStar, wLenO, wTruO, wCallN, wMakeN, wMethN, gI20, gI2, gNeg, g1I, g2I, gNotN, gIsN, D.isNon, sAdd1, sAdd2, sAdd3, sAdd4, sMul1, sMulT, sLen1, sLen2, sLen3, sInt1, sInt2, sTup1, sTup2, sLst1, sLst2, sSl1, sSl2, sSl3, sTru1, sTru2, sTru3, sDvm, List.map, List.length_cons, List.length_nil, List.replicate, List.cons_append, List.nil_append, List.append_nil, List.getElem?_cons_zero, List.getElem?_cons_succ, List.set_cons_zero, List.set_cons_succ, DL.eq_int, DL.ne_int, Bool.not_true, Bool.not_false, decide_true, decide_false, true_and, and_true]
        exact end_ _
  by_cases c : t < (ns.length : Int)
  · rw [decide_eq_true c]
    simp only [startD, endsD, wRet, wRetN, wAndV, wOrV, wNotV, wCB, wCons, wNil, wVar, wC, wChain, wOp, wUn, wIf, wIfE, wTv, wTru, wNot, wAnd, wOr, wSeq, wNext, wAsg, wDrop, dgN, dgT, dgCons, dgNil, dgSub, dgFld, wPar, wTup, wLst, wLstC, wFld, wSetF, wMeth, wMake, wCall, wSl, wNoPart, wPart, wStar, wLenO, wTruO, wCallN, wMakeN, wMethN, gI20, gI2, gNeg, g1I, g2I, gNotN, gIsN, D.isNon, sAdd1, sAdd2, sAdd3, sAdd4, sMul1, sMulT, sLen1, sLen2, sLen3, sInt1, sInt2, sTup1, sTup2, sLst1, sLst2, sSl1, sSl2, sSl3, sTru1, sTru2, sTru3, sDvm, List.map, List.length_cons, List.length_nil, List.replicate, List.cons_append, List.nil_append, List.append_nil, List.getElem?_cons_zero, List.getElem?_cons_succ, List.set_cons_zero, List.set_cons_succ, DL.eq_int, DL.ne_int, Bool.not_true, Bool.not_false, decide_true, decide_false, true_and, and_true]
    have hn : t.toNat < ns.length := by omega
    simp only [gIx, atI_nat t0 (List.getElem?_eq_getElem hn)]
    simp only [startD, endsD, wRet, wRetN, wAndV, wOrV, wNotV, wCB, wCons, wNil, wVar, wC, wChain, wOp, wUn, wIf, wIfE, wTv, wTru, wNot, wAnd, wOr, wSeq, wNext, wAsg, wDrop, dgN, dgT, dgCons, dgNil, dgSub, dgFld, wPar, wTup, wLst, wLstC, wFld, wSetF, wMeth, wMake, wCall, wSl, wNoPart, wPart, wStar, wLenO, wTruO, wCallN, wMakeN, wMethN, gI20, gI2, gNeg, g1I, g2I, gNotN, gIsN, D.isNon, sAdd1, sAdd2, sAdd3, sAdd4, sMul1, sMulT, sLen1, sLen2, sLen3, sInt1, sInt2, sTup1, sTup2, sLst1, sLst2, sSl1, sSl2, sSl3, sTru1, sTru2, sTru3, sDvm, List.map, List.length_cons, List.length_nil, List.replicate, List.cons_append, List.nil_append, List.append_nil, List.getElem?_cons_zero, List.getElem?_cons_succ, List.set_cons_zero, List.set_cons_succ, DL.eq_int, DL.ne_int, Bool.not_true, Bool.not_false, decide_true, decide_false, true_and, and_true]
    have q := fin ns[t.toNat]
    simp only [startD, endsD, wRet, wRetN, wAndV, wOrV, wNotV, wCB, wCons, wNil, wVar, wC, wChain, wOp, wUn, wIf, wIfE, wTv, wTru, wNot, wAnd, wOr, wSeq, wNext, wAsg, wDrop, dgN, dgT, dgCons, dgNil, dgSub, dgFld, wPar, wTup, wLst, wLstC, wFld, wSetF, wMeth, wMake, wCall, wSl, wNoPart, wPart, wStar, wLenO, wTruO, wCallN, wMakeN, wMethN, gI20, gI2, gNeg, g1I, g2I, gNotN, gIsN, D.isNon, sAdd1, sAdd2, sAdd3, sAdd4, sMul1, sMulT, sLen1, sLen2, sLen3, sInt1, sInt2, sTup1, sTup2, sLst1, sLst2, sSl1, sSl2, sSl3, sTru1, sTru2, sTru3, sDvm, List.map, List.length_cons, List.length_nil, List.replicate, List.cons_append, List.nil_append, List.append_nil, List.getElem?_cons_zero, List.getElem?_cons_succ, List.set_cons_zero, List.set_cons_succ, DL.eq_int, DL.ne_int, Bool.not_true, Bool.not_false, decide_true, decide_false, true_and, and_true] at q
    exact q
  · rw [decide_eq_false c]
    simp only [startD, endsD, wRet, wRetN, wAndV, wOrV, wNotV, wCB, wCons, wNil, wVar, wC, wChain, wOp, wUn, wIf, wIfE, wTv, wTru, wNot, wAnd, wOr, wSeq, wNext, wAsg, wDrop, dgN, dgT, dgCons, dgNil, dgSub, dgFld, wPar, wTup, wLst, wLstC, wFld, wSetF, wMeth, wMake, wCall, wSl, wNoPart, wPart, wStar, wLenO, wTruO, wCallN, wMakeN, wMethN, gI20, gI2, gNeg, g1I, g2I, gNotN, gIsN, D.isNon, sAdd1, sAdd2, sAdd3, sAdd4, sMul1, sMulT, sLen1, sLen2, sLen3, sInt1, sInt2, sTup1, sTup2, sLst1, sLst2, sSl1, sSl2, sSl3, sTru1, sTru2, sTru3, sDvm, List.map, List.length_cons, List.length_nil, List.replicate, List.cons_append, List.nil_append, List.append_nil, List.getElem?_cons_zero, List.getElem?_cons_succ, List.set_cons_zero, List.set_cons_succ, DL.eq_int, DL.ne_int, Bool.not_true, Bool.not_false, decide_true, decide_false, true_and, and_true]
    have q := fin s
    simp only [startD, endsD, wRet, wRetN, wAndV, wOrV, wNotV, wCB, wCons, wNil, wVar, wC, wChain, wOp, wUn, wIf, wIfE, wTv, wTru, wNot, wAnd, wOr, wSeq, wNext, wAsg, wDrop, dgN, dgT, dgCons, dgNil, dgSub, dgFld, wPar, wTup, wLst, wLstC, wFld, wSetF, wMeth, wMake, wCall, wSl, wNoPart, wPart, wStar, wLenO, wTruO, wCallN, wMakeN, wMethN, gI20, gI2, gNeg, g1I, g2I, gNotN, gIsN, D.isNon, sAdd1, sAdd2, sAdd3, sAdd4, sMul1, sMulT, sLen1, sLen2, sLen3, sInt1, sInt2, sTup1, sTup2, sLst1, sLst2, sSl1, sSl2, sSl3, sTru1, sTru2, sTru3, sDvm, List.map, List.length_cons, List.length_nil, List.replicate, List.cons_append, List.nil_append, List.append_nil, List.getElem?_cons_zero, List.getElem?_cons_succ, List.set_cons_zero, List.set_cons_succ, DL.eq_int, DL.ne_int, Bool.not_true, Bool.not_false, decide_true, decide_false, true_and, and_true] at q
    exact q
end K82

namespace K82
open PySem PySem.Spec PyProof.Rows L2 DL
theorem sIx_some {n : Nat} {d i : Int} {k : Nat} (h0 : 0 ≤ i) (h1 : i ≤ n) : HT.sIx n k (some i) = i.toNat := by
  show (if i < 0 then (i + (n : Int)).toNat else min i.toNat n) = i.toNat
  rw [if_neg (by omega)]
  omega
theorem sIx_none {n k : Nat} : HT.sIx n k none = k := by unfold HT.sIx; rfl
theorem cut1 {α : Type} {xs : List α} {i : Int} (h0 : 0 ≤ i) (h1 : i ≤ xs.length) : DL.cutD xs none (some i) = xs.take i.toNat := by
  unfold DL.cutD
  rw [sIx_some (d := 0) h0 h1, sIx_none]; simp
theorem cut2 {α : Type} {xs : List α} {i j : Int} (h0 : 0 ≤ i) (h1 : i ≤ xs.length) (h2 : 0 ≤ j) (h3 : j ≤ xs.length) : DL.cutD xs (some i) (some j) = (xs.drop i.toNat).take (j.toNat - i.toNat) := by
  unfold DL.cutD
  rw [sIx_some (d := 0) h0 h1, sIx_some (d := 0) h2 h3]
theorem cut3 {α : Type} {xs : List α} {i : Int} (h0 : 0 ≤ i) (h1 : i ≤ xs.length) : DL.cutD xs (some i) none = xs.drop i.toNat := by
  unfold DL.cutD
  rw [sIx_some (d := 0) h0 h1, sIx_none]
  rw [List.take_of_length_le (by rw [List.length_drop]; exact Nat.le_refl _)]
theorem jn_eq {ks : List Int} {k i j : Int} (h0 : 0 ≤ i) (h1 : i < j) (h2 : j < ks.length) : jn ks k i j = ks.take i.toNat ++ [k] ++ (ks.drop (i.toNat + 1)).take (j.toNat - (i.toNat + 1)) ++ ks.drop (j.toNat + 1) := by
  unfold jn
  rw [cut1 h0 (by omega), cut2 (by omega) (by omega) (by omega) (by omega), cut3 (by omega) (by omega)]
  rw [show (i + 1).toNat = i.toNat + 1 by omega, show (j + 1).toNat = j.toNat + 1 by omega]
theorem jn_len {ks : List Int} {k i j : Int} (h0 : 0 ≤ i) (h1 : i < j) (h2 : j < ks.length) : (jn ks k i j).length + 1 = ks.length := by
  rw [jn_eq h0 h1 h2]
  simp only [List.length_append, List.length_take, List.length_drop, List.length_cons, List.length_nil]
  omega
theorem jn_mem {ks : List Int} {k i j x : Int} (h0 : 0 ≤ i) (h1 : i < j) (h2 : j < ks.length) (h : x ∈ jn ks k i j) : x = k ∨ x ∈ ks := by
  rw [jn_eq h0 h1 h2] at h
  simp only [List.mem_append, List.mem_singleton] at h
  rcases h with ((h | h) | h) | h
  · exact .inr (List.mem_of_mem_take h)
  · exact .inl h
  · exact .inr (List.mem_of_mem_drop (List.mem_of_mem_take h))
  · exact .inr (List.mem_of_mem_drop h)
theorem put_on' {st : Sto} {a x : Addr} {c : Cell} : (st.put a c).on x ↔ st.on x := by rw [put_on]
structure Led (K : PySem.W.Frag) (st st' : Sto) (p a b : Addr) (m : Mx) (ph : Ph) (past : List Ph) : Prop where
  l : st'.lookup p = some (potC K a ph past)
  mx : mixAt K st' a m
  bn : binAt st' b
  on : ∀ x, st'.on x ↔ st.on x ∨ x = p
  ot : ∀ x, x ≠ b → x ≠ p → st'.lookup x = st.lookup x
  ap : a ≠ p
  ab : a ≠ b
  bp : b ≠ p
theorem Led.pot {K : PySem.W.Frag} {st st' : Sto} {p a b : Addr} {m : Mx} {ph ph' : Ph} {past past' : List Ph} (h : Led K st st' p a b m ph past) : Led K st (st'.put p (potC K a ph' past')) p a b m ph' past' := by
  refine ⟨put_lookup h.l, ⟨by rw [put_other h.ap]; exact h.mx.1, h.mx.2⟩, ?_, fun x => put_on'.trans (h.on x), fun x h1 h2 => by rw [put_other h2]; exact h.ot x h1 h2, h.ap, h.ab, h.bp⟩
  obtain ⟨x, y, z, e⟩ := h.bn
  exact ⟨x, y, z, by rw [put_other h.bp]; exact e⟩
theorem Led.bin {K : PySem.W.Frag} {st st' : Sto} {p a b : Addr} {m : Mx} {ph : Ph} {past : List Ph} {x y z : Int} (h : Led K st st' p a b m ph past) : Led K st (st'.put b (binD x y z)) p a b m ph past :=
  ⟨by rw [put_other (Ne.symm h.bp)]; exact h.l, ⟨by rw [put_other h.ab]; exact h.mx.1, h.mx.2⟩, ⟨x, y, z, binAt_put h.bn⟩, fun x => put_on'.trans (h.on x), fun x h1 h2 => by rw [put_other h1]; exact h.ot x h1 h2, h.ap, h.ab, h.bp⟩
abbrev bPut (K : PySem.W.Frag) : WS := wDrop (wMethN (He.ga K "Pot") "put" 2 (sp_Pot_put K) (wVar 3) (wCons (wC (.int 0)) wNil))
abbrev bMeet (K : PySem.W.Frag) : WS := wSeq (wAsg (wCallN 2 (sp_law_nip K) (wCons (wVar 0) (wCons (wOp gSub (wVar 5) (wC (.int 1))) wNil))) (dgN 6))
    (wDrop (wMethN (He.ga K "Pot") "meet" 3 (sp_Pot_meet K) (wVar 3) (wCons (wVar 6) (wCons (wOp gAdd (wOp gAdd (wVar 6) (wC (.int 1))) (wCallN 2 (sp_law_nip K) (wCons (wVar 0) (wCons (wOp gSub (wOp gSub (wVar 5) (wC (.int 1))) (wVar 6)) wNil)))) wNil))))
def dn : Nat → List D
  | 0 => []
  | k + 1 => .int ((k + 2 : Nat) : Int) :: dn k
theorem downD_dn : ∀ k : Nat, downD ((k + 1 : Nat) : Int) k = dn k
  | 0 => rfl
  | k + 1 => by
    have ih := downD_dn k
    unfold dn
    rw [← ih]
    unfold downD
    rw [List.range_succ_eq_map, List.map_cons, List.map_map]
    refine List.cons_eq_cons.mpr ⟨by simp; omega, List.map_congr_left fun j _ => ?_⟩
    simp only [Function.comp]
    congr 1
    push_cast
    omega
def Hist (past : List Ph) (ph : Ph) : Prop := (past ++ [ph]).head? = some ⟨[], 0, [0]⟩
theorem Hist.more {past : List Ph} {ph ph' : Ph} (h : Hist past ph) : Hist (past ++ [ph]) ph' := by
  unfold Hist at h ⊢
  rw [List.head?_append, h]; rfl
theorem loop_put {K : PySem.W.Frag} {st : Sto} {p a b : Addr} {m : Mx} {k0 g0 : Int} {n : Nat} (hm : m.st = [(k0, g0)]) (hn : n ≤ 12) {DD : DEnds} {eN : Option D} : ∀ (ds : List D) (i : Nat) (past : List Ph) (e4 : Option D) (st' : Sto), Led K st st' p a b m ⟨List.replicate i k0, i * g0, [(i : Int)]⟩ past → past.length = i → Hist past ⟨List.replicate i k0, i * g0, [(i : Int)]⟩ → i + ds.length = n →
    (∀ past e4 st', Led K st st' p a b m ⟨List.replicate n k0, n * g0, [(n : Int)]⟩ past → past.length = n → Hist past ⟨List.replicate n k0, n * g0, [(n : Int)]⟩ → DD.nx [some (.ref b), some (.ref a), eN, some (.ref p), e4, none, none] st') →
    forL (dgN 4) (bPut K) DD ds [some (.ref b), some (.ref a), eN, some (.ref p), e4, none, none] st'
  | [], i, past, e4, st', L, hp, hh, hi, h => by
    have e : i = n := by simpa using hi
    subst e
    exact h past e4 st' L hp hh
  | d :: ds, i, past, e4, st', L, hp, hh, hi, h => by
    unfold forL
    simp only [startD, endsD, wRet, wRetN, wAndV, wOrV, wNotV, wCB, wCons, wNil, wVar, wC, wChain, wOp, wUn, wIf, wIfE, wTv, wTru, wNot, wAnd, wOr, wSeq, wNext, wAsg, wDrop, dgN, dgT, dgCons, dgNil, dgSub, dgFld, wPar, wTup, wLst, wLstC, wFld, wSetF, wMeth, wMake, wCall, wSl, wNoPart, wPart, wStar, wLenO, wTruO, wCallN, wMakeN, wMethN, gI20, gI2, gNeg, g1I, g2I, gNotN, gIsN, D.isNon, sAdd1, sAdd2, sAdd3, sAdd4, sMul1, sMulT, sLen1, sLen2, sLen3, sInt1, sInt2, sTup1, sTup2, sLst1, sLst2, sSl1, sSl2, sSl3, sTru1, sTru2, sTru3, sDvm, List.map, List.length_cons, List.length_nil, List.replicate, List.cons_append, List.nil_append, List.append_nil, List.getElem?_cons_zero, List.getElem?_cons_succ, List.set_cons_zero, List.set_cons_succ, DL.eq_int, DL.ne_int, Bool.not_true, Bool.not_false, decide_true, decide_false, true_and, and_true]
    have l := L.l
    unfold potC at l
    simp only [l]
    rw [List.length_cons] at hi
    refine ⟨⟨trivial, rfl⟩, p, a, _, past, m, 0, rfl, L.l, L.mx, ⟨by decide, by rw [hm]; exact (by decide : (0 : Int) < 1)⟩, by rw [hm]; rfl, by rw [List.length_replicate]; omega, by omega, ?_⟩
    have e : (⟨List.replicate i k0 ++ [(m.st.getD (0 : Int).toNat (0, 0)).1], (i : Int) * g0 + (m.st.getD (0 : Int).toNat (0, 0)).2, bump 0 0 [(i : Int)]⟩ : Ph) = ⟨List.replicate (i + 1) k0, ((i + 1 : Nat) : Int) * g0, [((i + 1 : Nat) : Int)]⟩ := by
      rw [hm]
      have e1 : List.replicate i k0 ++ [k0] = List.replicate (i + 1) k0 := List.replicate_succ'.symm
      have e2 : (i : Int) * g0 + g0 = ((i + 1 : Nat) : Int) * g0 := by push_cast; rw [Int.add_mul]; omega
      simp only [bump]
      show (⟨List.replicate i k0 ++ [k0], (i : Int) * g0 + g0, _⟩ : Ph) = _
      rw [e1, e2]
      simp
    rw [e]
    exact loop_put hm hn ds (i + 1) _ _ _ L.pot (by rw [List.length_append, hp]; rfl) hh.more (by omega) h
theorem loop_meet {K : PySem.W.Frag} {st : Sto} {p a b : Addr} {m : Mx} {n : Nat} {am : List Int} (hn : n ≤ 12) {I : List Int → Int → Prop} (hI : ∀ (ks : List Int) (g i j : Int), I ks g → 0 ≤ i → i < j → j < ks.length → I (jn ks (metM m (kat ks i) (kat ks j)).1 i j) (g + (metM m (kat ks i) (kat ks j)).2)) {DD : DEnds} {e4 eN : Option D} :
    ∀ (k : Nat) (ks : List Int) (g : Int) (past : List Ph) (e5 e6 : Option D) (st' : Sto), Led K st st' p a b m ⟨ks, g, am⟩ past → ks.length = k + 1 → past.length + k = 2 * n - 1 → k + 1 ≤ n → I ks g → (∀ x ∈ ks, 0 ≤ x ∧ x < m.c) → Hist past ⟨ks, g, am⟩ →
    (∀ k g past e5 e6 st', Led K st st' p a b m ⟨[k], g, am⟩ past → past.length = 2 * n - 1 → I [k] g → Hist past ⟨[k], g, am⟩ → DD.nx [some (.ref b), some (.ref a), eN, some (.ref p), e4, e5, e6] st') →
    forL (dgN 5) (bMeet K) DD (dn k) [some (.ref b), some (.ref a), eN, some (.ref p), e4, e5, e6] st'
  | 0, ks, g, past, e5, e6, st', L, hk, hp, hkn, hi, hv, hh, h => by
    match ks, hk with
    | [x], _ => exact h x g past e5 e6 st' L (by omega) hi hh
  | k + 1, ks, g, past, e5, e6, st', L, hk, hp, hkn, hi, hv, hh, h => by
    unfold dn forL
    simp only [startD, endsD, wRet, wRetN, wAndV, wOrV, wNotV, wCB, wCons, wNil, wVar, wC, wChain, wOp, wUn, wIf, wIfE, wTv, wTru, wNot, wAnd, wOr, wSeq, wNext, wAsg, wDrop, dgN, dgT, dgCons, dgNil, dgSub, dgFld, wPar, wTup, wLst, wLstC, wFld, wSetF, wMeth, wMake, wCall, wSl, wNoPart, wPart, wStar, wLenO, wTruO, wCallN, wMakeN, wMethN, gI20, gI2, gNeg, g1I, g2I, gNotN, gIsN, D.isNon, sAdd1, sAdd2, sAdd3, sAdd4, sMul1, sMulT, sLen1, sLen2, sLen3, sInt1, sInt2, sTup1, sTup2, sLst1, sLst2, sSl1, sSl2, sSl3, sTru1, sTru2, sTru3, sDvm, List.map, List.length_cons, List.length_nil, List.replicate, List.cons_append, List.nil_append, List.append_nil, List.getElem?_cons_zero, List.getElem?_cons_succ, List.set_cons_zero, List.set_cons_succ, DL.eq_int, DL.ne_int, Bool.not_true, Bool.not_false, decide_true, decide_false, true_and, and_true]
    refine ⟨b, _, rfl, L.bn, ⟨by omega, by omega⟩, fun i x y z i0 i1 => ?_⟩
    simp only [startD, endsD, wRet, wRetN, wAndV, wOrV, wNotV, wCB, wCons, wNil, wVar, wC, wChain, wOp, wUn, wIf, wIfE, wTv, wTru, wNot, wAnd, wOr, wSeq, wNext, wAsg, wDrop, dgN, dgT, dgCons, dgNil, dgSub, dgFld, wPar, wTup, wLst, wLstC, wFld, wSetF, wMeth, wMake, wCall, wSl, wNoPart, wPart, wStar, wLenO, wTruO, wCallN, wMakeN, wMethN, gI20, gI2, gNeg, g1I, g2I, gNotN, gIsN, D.isNon, sAdd1, sAdd2, sAdd3, sAdd4, sMul1, sMulT, sLen1, sLen2, sLen3, sInt1, sInt2, sTup1, sTup2, sLst1, sLst2, sSl1, sSl2, sSl3, sTru1, sTru2, sTru3, sDvm, List.map, List.length_cons, List.length_nil, List.replicate, List.cons_append, List.nil_append, List.append_nil, List.getElem?_cons_zero, List.getElem?_cons_succ, List.set_cons_zero, List.set_cons_succ, DL.eq_int, DL.ne_int, Bool.not_true, Bool.not_false, decide_true, decide_false, true_and, and_true]
    have L2 := L.bin (x := x) (y := y) (z := z)
    have l := L2.l
    unfold potC at l
    simp only [l]
    refine ⟨⟨trivial, rfl⟩, ?_⟩
    refine ⟨b, _, rfl, L2.bn, ⟨by omega, by omega⟩, fun v x2 y2 z2 v0 v1 => ?_⟩
    have L3 := L2.bin (x := x2) (y := y2) (z := z2)
    have q0 : i < i + 1 + v := by omega
    have q1 : i + 1 + v < ks.length := by omega
    refine ⟨p, a, _, past, m, i, i + 1 + v, rfl, L3.l, L3.mx, ⟨i0, q0, q1⟩, by show ks.length ≤ 100; omega, hv, by omega, ?_⟩
    have hlen := jn_len (k := (metM m (kat ks i) (kat ks (i + 1 + v))).1) i0 q0 q1
    have v1' := hv _ (kat_mem i0 (by omega))
    have v2' := hv _ (kat_mem (by omega : 0 ≤ i + 1 + v) q1)
    obtain ⟨pp, e1, e2, e3, e4'⟩ := tab_get L3.mx.2 v1'.1 v1'.2 v2'.1 v2'.2
    refine loop_meet hn hI k _ _ _ _ _ _ L3.pot (by show (jn ks (metM m (kat ks i) (kat ks (i + 1 + v))).1 i (i + 1 + v)).length = k + 1; omega) (by rw [List.length_append, List.length_cons, List.length_nil]; omega) (by omega) (hI ks g i _ hi i0 q0 q1) (fun y hy => ?_) hh.more h
    rcases jn_mem i0 q0 q1 hy with q | q
    · rw [q]
      show 0 ≤ (m.tb.getD (placeI m.c (kat ks i) (kat ks (i + 1 + v))).toNat (0, 0)).1 ∧ _
      rw [← e3]
      exact ⟨e4'.1, by show (m.tb.getD (placeI m.c (kat ks i) (kat ks (i + 1 + v))).toNat (0, 0)).1 < m.c; rw [← e3]; exact e4'.2.1⟩
    · exact hv y q
theorem pure_law_led {K : PySem.W.Frag} (T : TP K) : Pu_law_led K := by
  rintro ds st Kn Kx - ⟨b, a, n, m, I, k0, g0, rfl, bn, mx, hm, ⟨n1, n12⟩, hI0, hI, h⟩
  simp only [startD, endsD, wRet, wRetN, wAndV, wOrV, wNotV, wCB, wCons, wNil, wVar, wC, wChain, wOp, wUn, wIf, wIfE, wTv, wTru, wNot, wAnd, wOr, wSeq, wNext, wAsg, wDrop, dgN, dgT, dgCons, dgNil, dgSub, dgFld, wPar, wTup, wLst, wLstC, wFld, wSetF, wMeth, wMake, wCall, wSl, wNoPart, wPart, wStar, wLenO, wTruO, wCallN, wMakeN, wMethN, gI20, gI2, gNeg, g1I, g2I, gNotN, gIsN, D.isNon, sAdd1, sAdd2, sAdd3, sAdd4, sMul1, sMulT, sLen1, sLen2, sLen3, sInt1, sInt2, sTup1, sTup2, sLst1, sLst2, sSl1, sSl2, sSl3, sTru1, sTru2, sTru3, sDvm, List.map, List.length_cons, List.length_nil, List.replicate, List.cons_append, List.nil_append, List.append_nil, List.getElem?_cons_zero, List.getElem?_cons_succ, List.set_cons_zero, List.set_cons_succ, DL.eq_int, DL.ne_int, Bool.not_true, Bool.not_false, decide_true, decide_false, true_and, and_true]
  intro p np
  obtain ⟨x, y, z, lb⟩ := id bn
  have ap : a ≠ p := ne_on mx.1 np
  have bp : b ≠ p := ne_on lb np
  have ab : a ≠ b := fun e => by
    have q := mx.1
    rw [e, lb] at q
    cases q
  refine ⟨p, a, m, rfl, new_lookup, ⟨by rw [old_lookup ap]; exact mx.1, mx.2⟩, ?_⟩
  refine ⟨rfl, ?_⟩
  rw [put_new np, hm]
  have L0 : Led K st ((p, potC K a ⟨[], 0, List.replicate [(k0, g0)].length 0⟩ []) :: st) p a b m ⟨List.replicate 0 k0, ((0 : Nat) : Int) * g0, [((0 : Nat) : Int)]⟩ [] := by
    refine ⟨?_, ⟨by rw [old_lookup ap]; exact mx.1, mx.2⟩, ⟨x, y, z, by rw [old_lookup bp]; exact lb⟩, fun w => ?_, fun w h1 h2 => old_lookup h2, ap, ab, bp⟩
    · rw [new_lookup]
      simp
    · show w ∈ p :: st.map (·.1) ↔ _
      rw [List.mem_cons]
      exact Or.comm
  simp only [wForR1]
  simp only [startD, endsD, wRet, wRetN, wAndV, wOrV, wNotV, wCB, wCons, wNil, wVar, wC, wChain, wOp, wUn, wIf, wIfE, wTv, wTru, wNot, wAnd, wOr, wSeq, wNext, wAsg, wDrop, dgN, dgT, dgCons, dgNil, dgSub, dgFld, wPar, wTup, wLst, wLstC, wFld, wSetF, wMeth, wMake, wCall, wSl, wNoPart, wPart, wStar, wLenO, wTruO, wCallN, wMakeN, wMethN, gI20, gI2, gNeg, g1I, g2I, gNotN, gIsN, D.isNon, sAdd1, sAdd2, sAdd3, sAdd4, sMul1, sMulT, sLen1, sLen2, sLen3, sInt1, sInt2, sTup1, sTup2, sLst1, sLst2, sSl1, sSl2, sSl3, sTru1, sTru2, sTru3, sDvm, List.map, List.length_cons, List.length_nil, List.replicate, List.cons_append, List.nil_append, List.append_nil, List.getElem?_cons_zero, List.getElem?_cons_succ, List.set_cons_zero, List.set_cons_succ, DL.eq_int, DL.ne_int, Bool.not_true, Bool.not_false, decide_true, decide_false, true_and, and_true]
  refine ⟨⟨by omega, by omega⟩, ?_⟩
  refine loop_put hm n12 _ 0 [] _ _ L0 rfl (by unfold Hist; simp) (by rw [rngD_length]; omega) fun past e4 st1 L1 hp hh => ?_
  simp only [startD, endsD, wRet, wRetN, wAndV, wOrV, wNotV, wCB, wCons, wNil, wVar, wC, wChain, wOp, wUn, wIf, wIfE, wTv, wTru, wNot, wAnd, wOr, wSeq, wNext, wAsg, wDrop, dgN, dgT, dgCons, dgNil, dgSub, dgFld, wPar, wTup, wLst, wLstC, wFld, wSetF, wMeth, wMake, wCall, wSl, wNoPart, wPart, wStar, wLenO, wTruO, wCallN, wMakeN, wMethN, gI20, gI2, gNeg, g1I, g2I, gNotN, gIsN, D.isNon, sAdd1, sAdd2, sAdd3, sAdd4, sMul1, sMulT, sLen1, sLen2, sLen3, sInt1, sInt2, sTup1, sTup2, sLst1, sLst2, sSl1, sSl2, sSl3, sTru1, sTru2, sTru3, sDvm, List.map, List.length_cons, List.length_nil, List.replicate, List.cons_append, List.nil_append, List.append_nil, List.getElem?_cons_zero, List.getElem?_cons_succ, List.set_cons_zero, List.set_cons_succ, DL.eq_int, DL.ne_int, Bool.not_true, Bool.not_false, decide_true, decide_false, true_and, and_true]
  simp only [wForR3]
  simp only [startD, endsD, wRet, wRetN, wAndV, wOrV, wNotV, wCB, wCons, wNil, wVar, wC, wChain, wOp, wUn, wIf, wIfE, wTv, wTru, wNot, wAnd, wOr, wSeq, wNext, wAsg, wDrop, dgN, dgT, dgCons, dgNil, dgSub, dgFld, wPar, wTup, wLst, wLstC, wFld, wSetF, wMeth, wMake, wCall, wSl, wNoPart, wPart, wStar, wLenO, wTruO, wCallN, wMakeN, wMethN, gI20, gI2, gNeg, g1I, g2I, gNotN, gIsN, D.isNon, sAdd1, sAdd2, sAdd3, sAdd4, sMul1, sMulT, sLen1, sLen2, sLen3, sInt1, sInt2, sTup1, sTup2, sLst1, sLst2, sSl1, sSl2, sSl3, sTru1, sTru2, sTru3, sDvm, List.map, List.length_cons, List.length_nil, List.replicate, List.cons_append, List.nil_append, List.append_nil, List.getElem?_cons_zero, List.getElem?_cons_succ, List.set_cons_zero, List.set_cons_succ, DL.eq_int, DL.ne_int, Bool.not_true, Bool.not_false, decide_true, decide_false, true_and, and_true]
  refine ⟨⟨by omega, by omega, by decide, by decide⟩, ?_⟩
  obtain ⟨k, rfl⟩ : ∃ k, n = k + 1 := ⟨n - 1, by omega⟩
  rw [show ((((k + 1 : Nat) : Int)) - 1).toNat = k by omega, downD_dn]
  have so := mx.2.so (k0, g0) (by rw [hm]; simp)
  refine loop_meet n12 hI k _ _ _ _ _ _ L1 (by rw [List.length_replicate]) (by omega) (Nat.le_refl _) hI0 (fun w hw => ?_) hh fun v g past' e5 e6 st2 L2 hp2 hi2 hh2 => ?_
  · rw [List.eq_of_mem_replicate hw]; exact ⟨so.1, so.2.1⟩
  · simp only [startD, endsD, wRet, wRetN, wAndV, wOrV, wNotV, wCB, wCons, wNil, wVar, wC, wChain, wOp, wUn, wIf, wIfE, wTv, wTru, wNot, wAnd, wOr, wSeq, wNext, wAsg, wDrop, dgN, dgT, dgCons, dgNil, dgSub, dgFld, wPar, wTup, wLst, wLstC, wFld, wSetF, wMeth, wMake, wCall, wSl, wNoPart, wPart, wStar, wLenO, wTruO, wCallN, wMakeN, wMethN, gI20, gI2, gNeg, g1I, g2I, gNotN, gIsN, D.isNon, sAdd1, sAdd2, sAdd3, sAdd4, sMul1, sMulT, sLen1, sLen2, sLen3, sInt1, sInt2, sTup1, sTup2, sLst1, sLst2, sSl1, sSl2, sSl3, sTru1, sTru2, sTru3, sDvm, List.map, List.length_cons, List.length_nil, List.replicate, List.cons_append, List.nil_append, List.append_nil, List.getElem?_cons_zero, List.getElem?_cons_succ, List.set_cons_zero, List.set_cons_succ, DL.eq_int, DL.ne_int, Bool.not_true, Bool.not_false, decide_true, decide_false, true_and, and_true]
    unfold Hist at hh2
    cases past' with
    | nil => simp at hp2; omega
    | cons q r =>
      have e : q = ⟨[], 0, [0]⟩ := by simpa using hh2
      subst e
      exact h p st2 v g r np hi2 (by rw [List.length_cons] at hp2; omega) L2.l L2.bn L2.on L2.ot
end K82

namespace K82
open PySem PySem.Spec PyProof.Rows L2 DL
def sumf (f : Int → Int) : List Int → Int
  | [] => 0
  | x :: r => f x + sumf f r
theorem sumf_app (f : Int → Int) : ∀ xs ys : List Int, sumf f (xs ++ ys) = sumf f xs + sumf f ys
  | [], ys => by
    show sumf f ys = 0 + sumf f ys
    omega
  | x :: xs, ys => by
    have ih := sumf_app f xs ys
    show f x + sumf f (xs ++ ys) = (f x + sumf f xs) + sumf f ys
    omega
theorem sumf_nn {f : Int → Int} (h : ∀ x, 0 ≤ f x) : ∀ xs : List Int, 0 ≤ sumf f xs
  | [] => Int.le_refl _
  | x :: xs => by unfold sumf; have := h x; have := sumf_nn h xs; omega
theorem split2 {ks : List Int} {i j : Int} (h0 : 0 ≤ i) (h1 : i < j) (h2 : j < ks.length) : ks = ks.take i.toNat ++ [kat ks i] ++ (ks.drop (i.toNat + 1)).take (j.toNat - (i.toNat + 1)) ++ [kat ks j] ++ ks.drop (j.toNat + 1) := by
  have a1 : ks = ks.take i.toNat ++ (kat ks i :: ks.drop (i.toNat + 1)) := by
    have hl : i.toNat < ks.length := by omega
    have e := kat_get h0 (by omega : i < ks.length)
    rw [List.getElem?_eq_getElem hl] at e
    rw [← Option.some.inj e, ← List.drop_eq_getElem_cons hl, List.take_append_drop]
  have hl : j.toNat - (i.toNat + 1) < (ks.drop (i.toNat + 1)).length := by rw [List.length_drop]; omega
  have e := kat_get (by omega : 0 ≤ j) h2
  have a2 : ks.drop (i.toNat + 1) = (ks.drop (i.toNat + 1)).take (j.toNat - (i.toNat + 1)) ++ (kat ks j :: ks.drop (j.toNat + 1)) := by
    have e2 : (ks.drop (i.toNat + 1))[j.toNat - (i.toNat + 1)] = kat ks j := by
      rw [List.getElem_drop]
      rw [List.getElem?_eq_getElem (by omega : j.toNat < ks.length)] at e
      have := Option.some.inj e
      rw [← this]
      congr 1
      omega
    have e3 : (ks.drop (i.toNat + 1)).drop (j.toNat - (i.toNat + 1) + 1) = ks.drop (j.toNat + 1) := by
      rw [List.drop_drop]
      congr 1
      omega
    rw [← e2, ← e3, ← List.drop_eq_getElem_cons hl, List.take_append_drop]
  conv => lhs; rw [a1, a2]
  simp
theorem sumf_jn (f : Int → Int) {ks : List Int} {k i j : Int} (h0 : 0 ≤ i) (h1 : i < j) (h2 : j < ks.length) : sumf f (jn ks k i j) + f (kat ks i) + f (kat ks j) = sumf f ks + f k := by
  have e : sumf f ks = sumf f (ks.take i.toNat ++ [kat ks i] ++ (ks.drop (i.toNat + 1)).take (j.toNat - (i.toNat + 1)) ++ [kat ks j] ++ ks.drop (j.toNat + 1)) := congrArg (sumf f) (split2 h0 h1 h2)
  rw [jn_eq h0 h1 h2]
  simp only [sumf_app, sumf] at e ⊢
  omega
theorem sumf_two {f : Int → Int} (hf : ∀ x, 0 ≤ f x) {ks : List Int} {i j : Int} (h0 : 0 ≤ i) (h1 : i < j) (h2 : j < ks.length) : f (kat ks i) + f (kat ks j) ≤ sumf f ks := by
  have e : sumf f ks = sumf f (ks.take i.toNat ++ [kat ks i] ++ (ks.drop (i.toNat + 1)).take (j.toNat - (i.toNat + 1)) ++ [kat ks j] ++ ks.drop (j.toNat + 1)) := congrArg (sumf f) (split2 h0 h1 h2)
  simp only [sumf_app, sumf] at e
  have := sumf_nn hf (ks.take i.toNat)
  have := sumf_nn hf ((ks.drop (i.toNat + 1)).take (j.toNat - (i.toNat + 1)))
  have := sumf_nn hf (ks.drop (j.toNat + 1))
  omega
theorem sumf_rep (f : Int → Int) (k : Int) : ∀ n : Nat, sumf f (List.replicate n k) = n * f k
  | 0 => by simp [sumf]
  | n + 1 => by rw [List.replicate_succ]; unfold sumf; rw [sumf_rep f k n]; push_cast; rw [Int.add_mul]; omega
/-- an invariant of a led pot: kinds in range, and g told by a sum -/
theorem jn_rg {c : Int} {ks : List Int} {k i j : Int} (h0 : 0 ≤ i) (h1 : i < j) (h2 : j < ks.length) (hk : 0 ≤ k ∧ k < c) (h : ∀ x ∈ ks, 0 ≤ x ∧ x < c) : ∀ x ∈ jn ks k i j, 0 ≤ x ∧ x < c := fun x hx => by
  rcases jn_mem h0 h1 h2 hx with q | q
  · rw [q]; exact hk
  · exact h x q
def wz (x : Int) : Int := if x = 0 then 1 else 0
def wo (x : Int) : Int := if x = 1 then 1 else 0
def I1 (n : Nat) (ks : List Int) (g : Int) : Prop := (∀ x ∈ ks, 0 ≤ x ∧ x < 2) ∧ 2 * g + sumf wz ks = n
theorem I1_step (n : Nat) (kk : List Int) : ∀ (ks : List Int) (g i j : Int), I1 n ks g → 0 ≤ i → i < j → j < ks.length → I1 n (jn ks (metM (pairsM kk) (kat ks i) (kat ks j)).1 i j) (g + (metM (pairsM kk) (kat ks i) (kat ks j)).2) := by
  rintro ks g i j ⟨hr, hs⟩ h0 h1 h2
  have ha := hr _ (kat_mem h0 (by omega))
  have hb := hr _ (kat_mem (by omega : 0 ≤ j) h2)
  have key : (0 ≤ (metM (pairsM kk) (kat ks i) (kat ks j)).1 ∧ (metM (pairsM kk) (kat ks i) (kat ks j)).1 < 2) ∧ 2 * (metM (pairsM kk) (kat ks i) (kat ks j)).2 + wz (metM (pairsM kk) (kat ks i) (kat ks j)).1 = wz (kat ks i) + wz (kat ks j) := by
    generalize kat ks i = a at ha
    generalize kat ks j = b at hb
    rw [show metM (pairsM kk) a b = metM (pairsM []) a b from rfl]
    rcases (by omega : a = 0 ∨ a = 1) with rfl | rfl <;> rcases (by omega : b = 0 ∨ b = 1) with rfl | rfl <;> decide
  have q := sumf_jn wz (k := (metM (pairsM kk) (kat ks i) (kat ks j)).1) h0 h1 h2
  exact ⟨jn_rg h0 h1 h2 key.1 hr, by omega⟩
def I3 (ks : List Int) (g : Int) : Prop := (∀ x ∈ ks, 0 ≤ x ∧ x < 2) ∧ ((sumf wz ks = 3 ∧ sumf wo ks = 0 ∧ g = 0) ∨ (sumf wz ks = 1 ∧ sumf wo ks = 1 ∧ g = 1) ∨ (sumf wz ks = 1 ∧ sumf wo ks = 0 ∧ g = 2))
def I4 (ks : List Int) (g : Int) : Prop := (∀ x ∈ ks, 0 ≤ x ∧ x < 2) ∧ ((sumf wz ks = 4 ∧ sumf wo ks = 0 ∧ g = 0) ∨ (sumf wz ks = 2 ∧ sumf wo ks = 1 ∧ g = 1) ∨ (sumf wz ks = 0 ∧ sumf wo ks = 2 ∧ g = 2) ∨ (sumf wz ks = 2 ∧ sumf wo ks = 0 ∧ g = 2) ∨ (sumf wz ks = 0 ∧ sumf wo ks = 1 ∧ (g = 2 ∨ g = 3)))
theorem wz_nn (x : Int) : 0 ≤ wz x := by unfold wz; split <;> omega
theorem wo_nn (x : Int) : 0 ≤ wo x := by unfold wo; split <;> omega
theorem un_key (kk : List Int) {a b : Int} (ha : 0 ≤ a ∧ a < 2) (hb : 0 ≤ b ∧ b < 2) : (0 ≤ (metM (unevenM kk) a b).1 ∧ (metM (unevenM kk) a b).1 < 2) ∧
    ((wz a + wz b = 2 ∧ wo a + wo b = 0 ∧ wz (metM (unevenM kk) a b).1 = 0 ∧ wo (metM (unevenM kk) a b).1 = 1 ∧ (metM (unevenM kk) a b).2 = 1) ∨ (wz a + wz b = 1 ∧ wo a + wo b = 1 ∧ wz (metM (unevenM kk) a b).1 = 1 ∧ wo (metM (unevenM kk) a b).1 = 0 ∧ (metM (unevenM kk) a b).2 = 1) ∨
      (wz a + wz b = 0 ∧ wo a + wo b = 2 ∧ wz (metM (unevenM kk) a b).1 = 0 ∧ wo (metM (unevenM kk) a b).1 = 1 ∧ (metM (unevenM kk) a b).2 = 0)) := by
  rw [show metM (unevenM kk) a b = metM (unevenM []) a b from rfl]
  rcases (by omega : a = 0 ∨ a = 1) with rfl | rfl <;> rcases (by omega : b = 0 ∨ b = 1) with rfl | rfl <;> decide
theorem I3_step (kk : List Int) : ∀ (ks : List Int) (g i j : Int), I3 ks g → 0 ≤ i → i < j → j < ks.length → I3 (jn ks (metM (unevenM kk) (kat ks i) (kat ks j)).1 i j) (g + (metM (unevenM kk) (kat ks i) (kat ks j)).2) := by
  rintro ks g i j ⟨hr, hs⟩ h0 h1 h2
  have key := un_key kk (hr _ (kat_mem h0 (by omega))) (hr _ (kat_mem (by omega : 0 ≤ j) h2))
  have q := sumf_jn wz (k := (metM (unevenM kk) (kat ks i) (kat ks j)).1) h0 h1 h2
  have q2 := sumf_jn wo (k := (metM (unevenM kk) (kat ks i) (kat ks j)).1) h0 h1 h2
  have t1 := sumf_two wz_nn h0 h1 h2
  have t2 := sumf_two wo_nn h0 h1 h2
  exact ⟨jn_rg h0 h1 h2 key.1 hr, by omega⟩
theorem I4_step (kk : List Int) : ∀ (ks : List Int) (g i j : Int), I4 ks g → 0 ≤ i → i < j → j < ks.length → I4 (jn ks (metM (unevenM kk) (kat ks i) (kat ks j)).1 i j) (g + (metM (unevenM kk) (kat ks i) (kat ks j)).2) := by
  rintro ks g i j ⟨hr, hs⟩ h0 h1 h2
  have key := un_key kk (hr _ (kat_mem h0 (by omega))) (hr _ (kat_mem (by omega : 0 ≤ j) h2))
  have q := sumf_jn wz (k := (metM (unevenM kk) (kat ks i) (kat ks j)).1) h0 h1 h2
  have q2 := sumf_jn wo (k := (metM (unevenM kk) (kat ks i) (kat ks j)).1) h0 h1 h2
  have t1 := sumf_two wz_nn h0 h1 h2
  have t2 := sumf_two wo_nn h0 h1 h2
  exact ⟨jn_rg h0 h1 h2 key.1 hr, by omega⟩
def loneM (big : Int) (ks : List Int) : Mx := ⟨1, [(0, 2)], [(0, big)], ks⟩
def thirdM (big : Int) (ks : List Int) : Mx := ⟨3, [(1, 0)], [(0, 0), (1, 0), (2, 0), (2, 0), (0, big), (1, big)], ks⟩
def I5 (n : Nat) (big : Int) (ks : List Int) (g : Int) : Prop := (∀ x ∈ ks, 0 ≤ x ∧ x < 1) ∧ ∃ t : Int, g = 2 * n + big * t ∧ t + sumf (fun _ => 1) ks = n
theorem I5_step (n : Nat) (big : Int) (kk : List Int) : ∀ (ks : List Int) (g i j : Int), I5 n big ks g → 0 ≤ i → i < j → j < ks.length → I5 n big (jn ks (metM (loneM big kk) (kat ks i) (kat ks j)).1 i j) (g + (metM (loneM big kk) (kat ks i) (kat ks j)).2) := by
  rintro ks g i j ⟨hr, t, hg, hs⟩ h0 h1 h2
  have ha := hr _ (kat_mem h0 (by omega))
  have hb := hr _ (kat_mem (by omega : 0 ≤ j) h2)
  have e : metM (loneM big kk) (kat ks i) (kat ks j) = (0, big) := by
    rw [show kat ks i = 0 by omega, show kat ks j = 0 by omega]; rfl
  rw [e]
  have q := sumf_jn (fun _ => 1) (k := 0) h0 h1 h2
  exact ⟨jn_rg h0 h1 h2 (by exact (by decide : (0 : Int) ≤ 0 ∧ (0 : Int) < 1)) hr, t + 1, by rw [Int.mul_add]; show g + big = _; omega, by show t + 1 + sumf (fun _ => 1) (jn ks 0 i j) = n; omega⟩
def I6 (n : Nat) (big : Int) (ks : List Int) (g : Int) : Prop := (∀ x ∈ ks, 0 ≤ x ∧ x < 3) ∧ ∃ t : Int, g = big * t ∧ 3 * t + sumf (fun x => x) ks = n
theorem I6_step (n : Nat) (big : Int) (kk : List Int) : ∀ (ks : List Int) (g i j : Int), I6 n big ks g → 0 ≤ i → i < j → j < ks.length → I6 n big (jn ks (metM (thirdM big kk) (kat ks i) (kat ks j)).1 i j) (g + (metM (thirdM big kk) (kat ks i) (kat ks j)).2) := by
  rintro ks g i j ⟨hr, t, hg, hs⟩ h0 h1 h2
  have ha := hr _ (kat_mem h0 (by omega))
  have hb := hr _ (kat_mem (by omega : 0 ≤ j) h2)
  have key : ∃ u : Int, (0 ≤ (metM (thirdM big kk) (kat ks i) (kat ks j)).1 ∧ (metM (thirdM big kk) (kat ks i) (kat ks j)).1 < 3) ∧ (metM (thirdM big kk) (kat ks i) (kat ks j)).2 = big * u ∧ 3 * u + (metM (thirdM big kk) (kat ks i) (kat ks j)).1 = kat ks i + kat ks j := by
    generalize kat ks i = a at ha
    generalize kat ks j = b at hb
    rcases (by omega : a = 0 ∨ a = 1 ∨ a = 2) with rfl | rfl | rfl <;> rcases (by omega : b = 0 ∨ b = 1 ∨ b = 2) with rfl | rfl | rfl
    · exact ⟨0, by exact (by decide : (0 : Int) ≤ 0 ∧ (0 : Int) < 3), (Int.mul_zero _).symm, by exact (by decide : (3 : Int) * 0 + 0 = 0 + 0)⟩
    · exact ⟨0, by exact (by decide : (0 : Int) ≤ 1 ∧ (1 : Int) < 3), (Int.mul_zero _).symm, by exact (by decide : (3 : Int) * 0 + 1 = 0 + 1)⟩
    · exact ⟨0, by exact (by decide : (0 : Int) ≤ 2 ∧ (2 : Int) < 3), (Int.mul_zero _).symm, by exact (by decide : (3 : Int) * 0 + 2 = 0 + 2)⟩
    · exact ⟨0, by exact (by decide : (0 : Int) ≤ 1 ∧ (1 : Int) < 3), (Int.mul_zero _).symm, by exact (by decide : (3 : Int) * 0 + 1 = 1 + 0)⟩
    · exact ⟨0, by exact (by decide : (0 : Int) ≤ 2 ∧ (2 : Int) < 3), (Int.mul_zero _).symm, by exact (by decide : (3 : Int) * 0 + 2 = 1 + 1)⟩
    · exact ⟨1, by exact (by decide : (0 : Int) ≤ 0 ∧ (0 : Int) < 3), (Int.mul_one _).symm, by exact (by decide : (3 : Int) * 1 + 0 = 1 + 2)⟩
    · exact ⟨0, by exact (by decide : (0 : Int) ≤ 2 ∧ (2 : Int) < 3), (Int.mul_zero _).symm, by exact (by decide : (3 : Int) * 0 + 2 = 2 + 0)⟩
    · exact ⟨1, by exact (by decide : (0 : Int) ≤ 0 ∧ (0 : Int) < 3), (Int.mul_one _).symm, by exact (by decide : (3 : Int) * 1 + 0 = 2 + 1)⟩
    · exact ⟨1, by exact (by decide : (0 : Int) ≤ 1 ∧ (1 : Int) < 3), (Int.mul_one _).symm, by exact (by decide : (3 : Int) * 1 + 1 = 2 + 2)⟩
  obtain ⟨u, k1, k2, k3⟩ := key
  have q := sumf_jn (fun x => x) (k := (metM (thirdM big kk) (kat ks i) (kat ks j)).1) h0 h1 h2
  exact ⟨jn_rg h0 h1 h2 k1 hr, t + u, by rw [k2, hg, Int.mul_add], by omega⟩
end K82

namespace K82
open PySem PySem.Spec PyProof.Rows L2 DL
/-- what stands in the end: the pot p, its mixture's place a, the bin at b -/
theorem nip_at {K : PySem.W.Frag} {st : Sto} {b : Addr} {n : Int} {Kn : KD} {Kx : KX} (bn : binAt st b) (h1 : 1 ≤ n) (h2 : n < 1073741824) (h : ∀ v st', 0 ≤ v → v < n → binAt st' b → Kn (.int v) st') : sp_law_nip K [.ref b, .int n] st Kn Kx :=
  ⟨b, n, rfl, bn, ⟨h1, h2⟩, fun v x y z v0 v1 => h v _ v0 v1 ⟨x, y, z, binAt_put bn⟩⟩
theorem new_bin {st : Sto} {a b : Addr} {c : Cell} (bn : binAt st b) (na : ¬ st.on a) : binAt ((a, c) :: st) b := by
  obtain ⟨x, y, z, e⟩ := bn
  exact ⟨x, y, z, by rw [old_lookup (ne_on e na)]; exact e⟩
/-- led, from a mixture just made at a -/
theorem led_new {K : PySem.W.Frag} {st : Sto} {a b : Addr} {m : Mx} {n : Nat} {k0 g0 : Int} {Kn : KD} {Kx : KX} (bn : binAt st b) (na : ¬ st.on a) (ok : MxOk m.c m.st m.tb) (hm : m.st = [(k0, g0)]) (n1 : 1 ≤ n) (n12 : n ≤ 12) (I : List Int → Int → Prop)
    (hI0 : I (List.replicate n k0) (n * g0)) (hI : ∀ (ks : List Int) (g i j : Int), I ks g → 0 ≤ i → i < j → j < ks.length → I (jn ks (metM m (kat ks i) (kat ks j)).1 i j) (g + (metM m (kat ks i) (kat ks j)).2))
    (h : ∀ p st' k g past, I [k] g → past.length = 2 * n - 2 → st'.lookup p = some (potC K a ⟨[k], g, [(n : Int)]⟩ (⟨[], 0, [0]⟩ :: past)) → binAt st' b → b ≠ p → Kn (.ref p) st') :
    sp_law_led K [.ref b, .ref a, .int n] ((a, .ins (cM K) (mxF m)) :: st) Kn Kx := by
  refine ⟨b, a, n, m, I, k0, g0, rfl, new_bin bn na, ⟨new_lookup, ok⟩, hm, ⟨n1, n12⟩, hI0, hI, fun p st' k g hh np hi hl l bn' on ot => h p st' k g hh hi hl l bn' fun e => ?_⟩
  obtain ⟨x, y, z, e2⟩ := bn'
  rw [e, l] at e2
  cases e2
theorem make_mixA {K : PySem.W.Frag} {st : Sto} {m : Mx} {Kn : Addr → Sto → Prop} {Kx : KX} (ok : MxOk m.c m.st m.tb) (h : ∀ a ks, ¬ st.on a → Kn a ((a, .ins (cM K) (mxF ⟨m.c, m.st, m.tb, ks⟩)) :: st)) :
    ∀ a, ¬ st.on a → sp_MixtureX_initX K [.ref a, .int m.c, .tup (m.st.map pD), .tup (m.tb.map pD)] ((a, .ins (cM K) []) :: st) (fun d st2 => d = .non ∧ Kn a st2) Kx := fun a na =>
  ⟨a, m.c, m.st, m.tb, rfl, new_lookup, ok, fun ks => ⟨rfl, by rw [put_new na]; exact h a ks na⟩⟩
theorem ne_same {d : D} {p : PyData} {st : Sto} {Kn : KD} (h : d.py = some p) (hs : SeqAt.shaped p = true) (k : Kn (.bl false) st) : gNe d d st Kn := by
  unfold gNe
  rw [h]
  exact ⟨⟨hs, hs⟩, by rw [SeqAt.eqv_refl p (SeqAt.canLay_of_shaped hs)]; exact k⟩
abbrev bUndo (K : PySem.W.Frag) : WS := wIf (wTv (wOp gNotN (wMethN (He.ga K "Pot") "undo" 1 (sp_Pot_undo K) (wVar 3) wNil) (wC .non))) (wRet (wC (.bl false))) wNext
theorem loop_undo {K : PySem.W.Frag} {p a b : Addr} {DD : DEnds} {e0 e1 e2 e5 e6 e7 : Option D} (nbp : b ≠ p) : ∀ (ds : List D) (ph : Ph) (past : List Ph) (e4 : Option D) (st : Sto), st.lookup p = some (potC K a ph past) → past.length = ds.length → past.length ≤ 100 → Hist past ph → binAt st b →
    (∀ e4 st, st.lookup p = some (potC K a ⟨[], 0, [0]⟩ []) → binAt st b → DD.nx [e0, e1, e2, some (.ref p), e4, e5, e6, e7] st) → forL (dgN 4) (bUndo K) DD ds [e0, e1, e2, some (.ref p), e4, e5, e6, e7] st
  | [], ph, past, e4, st, l, hl, _, hh, bn, h => by
    cases past with
    | nil =>
      have e : ph = ⟨[], 0, [0]⟩ := by simpa [Hist] using hh
      subst e
      exact h e4 st l bn
    | cons q r => simp at hl
  | d :: ds, ph, past, e4, st, l, hl, hc, hh, bn, h => by
    rcases List.eq_nil_or_concat past with rfl | ⟨past', ph', rfl⟩
    · simp at hl
    · rw [List.concat_eq_append] at l hl hc hh
      unfold forL
      simp only [startD, endsD, wRet, wRetN, wAndV, wOrV, wNotV, wCB, wCons, wNil, wVar, wC, wChain, wOp, wUn, wIf, wIfE, wTv, wTru, wNot, wAnd, wOr, wSeq, wNext, wAsg, wDrop, dgN, dgT, dgCons, dgNil, dgSub, dgFld, wPar, wTup, wLst, wLstC, wFld, wSetF, wMeth, wMake, wCall, wSl, wNoPart, wPart, wStar, wLenO, wTruO, wCallN, wMakeN, wMethN, gI20, gI2, gNeg, g1I, g2I, gNotN, gIsN, D.isNon, sAdd1, sAdd2, sAdd3, sAdd4, sMul1, sMulT, sLen1, sLen2, sLen3, sInt1, sInt2, sTup1, sTup2, sLst1, sLst2, sSl1, sSl2, sSl3, sTru1, sTru2, sTru3, sDvm, List.map, List.length_cons, List.length_nil, List.replicate, List.cons_append, List.nil_append, List.append_nil, List.getElem?_cons_zero, List.getElem?_cons_succ, List.set_cons_zero, List.set_cons_succ, DL.eq_int, DL.ne_int, Bool.not_true, Bool.not_false, decide_true, decide_false, true_and, and_true]
      have l0 := l
      unfold potC at l
      simp only [l]
      rw [List.length_append, List.length_cons, List.length_nil] at hl hc
      refine ⟨⟨trivial, rfl⟩, p, a, ph, past', ph', rfl, l0, by omega, ?_⟩
      simp only [startD, endsD, wRet, wRetN, wAndV, wOrV, wNotV, wCB, wCons, wNil, wVar, wC, wChain, wOp, wUn, wIf, wIfE, wTv, wTru, wNot, wAnd, wOr, wSeq, wNext, wAsg, wDrop, dgN, dgT, dgCons, dgNil, dgSub, dgFld, wPar, wTup, wLst, wLstC, wFld, wSetF, wMeth, wMake, wCall, wSl, wNoPart, wPart, wStar, wLenO, wTruO, wCallN, wMakeN, wMethN, gI20, gI2, gNeg, g1I, g2I, gNotN, gIsN, D.isNon, sAdd1, sAdd2, sAdd3, sAdd4, sMul1, sMulT, sLen1, sLen2, sLen3, sInt1, sInt2, sTup1, sTup2, sLst1, sLst2, sSl1, sSl2, sSl3, sTru1, sTru2, sTru3, sDvm, List.map, List.length_cons, List.length_nil, List.replicate, List.cons_append, List.nil_append, List.append_nil, List.getElem?_cons_zero, List.getElem?_cons_succ, List.set_cons_zero, List.set_cons_succ, DL.eq_int, DL.ne_int, Bool.not_true, Bool.not_false, decide_true, decide_false, true_and, and_true]
      refine loop_undo nbp ds ph' past' _ _ (put_lookup l) (by rw [List.length_cons] at hl; omega) (by omega) ?_ ?_ h
      · unfold Hist at hh ⊢
        cases past' with
        | nil => simpa using hh
        | cons q r => simpa using hh
      · obtain ⟨x, y, z, e⟩ := bn
        exact ⟨x, y, z, by rw [put_other nbp]; exact e⟩
theorem ok_lone {big : Int} (h0 : 0 ≤ big) (h1 : big ≤ 1000000) : MxOk 1 [(0, 2)] [(0, big)] := ⟨by decide, by decide, by decide, by decide, by unfold okE; decide, by exact (by decide : (1 : Int) = 1 * (1 + 1) / 2), fun p hp => by
  have e : p = (0, big) := by simpa using hp
  subst e
  exact ⟨by exact (by decide : (0 : Int) ≤ 0), by exact (by decide : (0 : Int) < 1), h0, h1⟩⟩
theorem ok_third {big : Int} (h0 : 0 ≤ big) (h1 : big ≤ 1000000) : MxOk 3 [(1, 0)] [(0, 0), (1, 0), (2, 0), (2, 0), (0, big), (1, big)] := ⟨by decide, by decide, by decide, by decide, by unfold okE; decide, by exact (by decide : (6 : Int) = 3 * (3 + 1) / 2), fun p hp => by
  have e : p = (0, 0) ∨ p = (1, 0) ∨ p = (2, 0) ∨ p = (2, 0) ∨ p = (0, big) ∨ p = (1, big) := by simpa using hp
  unfold okE
  rcases e with rfl | rfl | rfl | rfl | rfl | rfl <;> (dsimp only; omega)⟩
theorem pure_law_right {K : PySem.W.Frag} (T : TP K) : Pu_law_right K := by
  rintro ds st Kn Kx - ⟨b, rfl, bn, h⟩
  simp only [startD, endsD, wRet, wRetN, wAndV, wOrV, wNotV, wCB, wCons, wNil, wVar, wC, wChain, wOp, wUn, wIf, wIfE, wTv, wTru, wNot, wAnd, wOr, wSeq, wNext, wAsg, wDrop, dgN, dgT, dgCons, dgNil, dgSub, dgFld, wPar, wTup, wLst, wLstC, wFld, wSetF, wMeth, wMake, wCall, wSl, wNoPart, wPart, wStar, wLenO, wTruO, wCallN, wMakeN, wMethN, gI20, gI2, gNeg, g1I, g2I, gNotN, gIsN, D.isNon, sAdd1, sAdd2, sAdd3, sAdd4, sMul1, sMulT, sLen1, sLen2, sLen3, sInt1, sInt2, sTup1, sTup2, sLst1, sLst2, sSl1, sSl2, sSl3, sTru1, sTru2, sTru3, sDvm, List.map, List.length_cons, List.length_nil, List.replicate, List.cons_append, List.nil_append, List.append_nil, List.getElem?_cons_zero, List.getElem?_cons_succ, List.set_cons_zero, List.set_cons_succ, DL.eq_int, DL.ne_int, Bool.not_true, Bool.not_false, decide_true, decide_false, true_and, and_true]
  refine nip_at bn (by decide) (by decide) fun v0 st1 v0a v0b bn1 => ?_
  simp only [startD, endsD, wRet, wRetN, wAndV, wOrV, wNotV, wCB, wCons, wNil, wVar, wC, wChain, wOp, wUn, wIf, wIfE, wTv, wTru, wNot, wAnd, wOr, wSeq, wNext, wAsg, wDrop, dgN, dgT, dgCons, dgNil, dgSub, dgFld, wPar, wTup, wLst, wLstC, wFld, wSetF, wMeth, wMake, wCall, wSl, wNoPart, wPart, wStar, wLenO, wTruO, wCallN, wMakeN, wMethN, gI20, gI2, gNeg, g1I, g2I, gNotN, gIsN, D.isNon, sAdd1, sAdd2, sAdd3, sAdd4, sMul1, sMulT, sLen1, sLen2, sLen3, sInt1, sInt2, sTup1, sTup2, sLst1, sLst2, sSl1, sSl2, sSl3, sTru1, sTru2, sTru3, sDvm, List.map, List.length_cons, List.length_nil, List.replicate, List.cons_append, List.nil_append, List.append_nil, List.getElem?_cons_zero, List.getElem?_cons_succ, List.set_cons_zero, List.set_cons_succ, DL.eq_int, DL.ne_int, Bool.not_true, Bool.not_false, decide_true, decide_false, true_and, and_true]
  refine ⟨⟨by decide, by decide, by decide⟩, ?_⟩
  refine nip_at bn1 (by decide) (by decide) fun big st2 b0 b1 bn2 => ?_
  obtain ⟨n, hn⟩ : ∃ n : Nat, 1 + v0 = (n : Int) := ⟨(1 + v0).toNat, by omega⟩
  rw [hn]
  intro a1 ks1 na1
  refine led_new (m := pairsM ks1) bn2 na1 ok_pairs rfl (by omega) (by omega) (I1 n) ⟨fun x hx => by rw [List.eq_of_mem_replicate hx]; decide, by rw [sumf_rep]; show 2 * (n * 0) + n * 1 = (n : Int); omega⟩ (I1_step n ks1) fun p st3 k g past hI hl l bn3 nbp => ?_
  have l0 := l
  unfold potC at l
  simp only [startD, endsD, wRet, wRetN, wAndV, wOrV, wNotV, wCB, wCons, wNil, wVar, wC, wChain, wOp, wUn, wIf, wIfE, wTv, wTru, wNot, wAnd, wOr, wSeq, wNext, wAsg, wDrop, dgN, dgT, dgCons, dgNil, dgSub, dgFld, wPar, wTup, wLst, wLstC, wFld, wSetF, wMeth, wMake, wCall, wSl, wNoPart, wPart, wStar, wLenO, wTruO, wCallN, wMakeN, wMethN, gI20, gI2, gNeg, g1I, g2I, gNotN, gIsN, D.isNon, sAdd1, sAdd2, sAdd3, sAdd4, sMul1, sMulT, sLen1, sLen2, sLen3, sInt1, sInt2, sTup1, sTup2, sLst1, sLst2, sSl1, sSl2, sSl3, sTru1, sTru2, sTru3, sDvm, List.map, List.length_cons, List.length_nil, List.replicate, List.cons_append, List.nil_append, List.append_nil, List.getElem?_cons_zero, List.getElem?_cons_succ, List.set_cons_zero, List.set_cons_succ, DL.eq_int, DL.ne_int, Bool.not_true, Bool.not_false, decide_true, decide_false, true_and, and_true]
  simp only [l, pt_given, pt_amounts, pt_kinds]
  obtain ⟨hr, hs⟩ := hI
  have hk := hr k (by simp)
  have hs : 2 * g + (wz k + 0) = n := hs
  have hk2 : (k = 0 ∧ wz k = 1) ∨ (k = 1 ∧ wz k = 0) := by
    rcases (by omega : k = 0 ∨ k = 1) with rfl | rfl <;> decide
  refine ⟨cP_no T (by simp), trivial, p, a1, _, _, rfl, l0, ⟨by simp, by simp⟩, ?_⟩
  simp only [l, pt_amounts, pt_kinds]
  refine ⟨cP_no T (by simp), sl_small (by decide), ⟨by decide, by decide⟩, sl_small (by decide), sl_small (by decide), ?_⟩
  rw [show (n : Int) / 2 = g by omega]
  refine ne_same rfl rfl ?_
  simp only [l, pt_kinds]
  refine ⟨cP_no T (by simp), by decide, sl_small (by decide), ?_⟩
  rw [show (if ((n : Int) % 2 == 0) = true then (1 : Int) else 0) = k by
    rcases hk2 with ⟨e, q⟩ | ⟨e, q⟩
    · rw [if_neg (by simp; omega)]; exact e.symm
    · rw [if_pos (by simp; omega)]; exact e.symm]
  refine ne_same rfl rfl ?_
  simp only [wForR1]
  simp only [startD, endsD, wRet, wRetN, wAndV, wOrV, wNotV, wCB, wCons, wNil, wVar, wC, wChain, wOp, wUn, wIf, wIfE, wTv, wTru, wNot, wAnd, wOr, wSeq, wNext, wAsg, wDrop, dgN, dgT, dgCons, dgNil, dgSub, dgFld, wPar, wTup, wLst, wLstC, wFld, wSetF, wMeth, wMake, wCall, wSl, wNoPart, wPart, wStar, wLenO, wTruO, wCallN, wMakeN, wMethN, gI20, gI2, gNeg, g1I, g2I, gNotN, gIsN, D.isNon, sAdd1, sAdd2, sAdd3, sAdd4, sMul1, sMulT, sLen1, sLen2, sLen3, sInt1, sInt2, sTup1, sTup2, sLst1, sLst2, sSl1, sSl2, sSl3, sTru1, sTru2, sTru3, sDvm, List.map, List.length_cons, List.length_nil, List.replicate, List.cons_append, List.nil_append, List.append_nil, List.getElem?_cons_zero, List.getElem?_cons_succ, List.set_cons_zero, List.set_cons_succ, DL.eq_int, DL.ne_int, Bool.not_true, Bool.not_false, decide_true, decide_false, true_and, and_true]
  refine ⟨cmul_small (by decide) (by decide), ⟨by omega, by omega⟩, ?_⟩
  refine loop_undo nbp _ _ _ _ _ l0 (by rw [rngD_length, List.length_cons]; omega) (by rw [List.length_cons]; omega) rfl bn3 fun e4 st4 l4 bn4 => ?_
  have l5 := l4
  unfold potC at l5
  simp only [startD, endsD, wRet, wRetN, wAndV, wOrV, wNotV, wCB, wCons, wNil, wVar, wC, wChain, wOp, wUn, wIf, wIfE, wTv, wTru, wNot, wAnd, wOr, wSeq, wNext, wAsg, wDrop, dgN, dgT, dgCons, dgNil, dgSub, dgFld, wPar, wTup, wLst, wLstC, wFld, wSetF, wMeth, wMake, wCall, wSl, wNoPart, wPart, wStar, wLenO, wTruO, wCallN, wMakeN, wMethN, gI20, gI2, gNeg, g1I, g2I, gNotN, gIsN, D.isNon, sAdd1, sAdd2, sAdd3, sAdd4, sMul1, sMulT, sLen1, sLen2, sLen3, sInt1, sInt2, sTup1, sTup2, sLst1, sLst2, sSl1, sSl2, sSl3, sTru1, sTru2, sTru3, sDvm, List.map, List.length_cons, List.length_nil, List.replicate, List.cons_append, List.nil_append, List.append_nil, List.getElem?_cons_zero, List.getElem?_cons_succ, List.set_cons_zero, List.set_cons_succ, DL.eq_int, DL.ne_int, Bool.not_true, Bool.not_false, decide_true, decide_false, true_and, and_true]
  simp only [l5, pt_given, pt_amounts, pt_kinds]
  refine ⟨cP_no T (by simp), cP_no T (by simp), cP_no T (by simp), sl_small (by decide), sl_small (by decide), sl_small (by decide), sl_small (by decide), ?_⟩
  refine ne_same (p := .list [.int 0, .tuple [], .tuple [.int 0]]) rfl rfl ?_
  simp only [l5]
  refine ⟨trivial, p, a1, _, _, rfl, l4, ⟨by simp, by simp⟩, ?_⟩
  show sp_uneven_mixture K [] st4 _ _
  intro a2 ks2 na2
  refine led_new (m := unevenM ks2) (n := 3) bn4 na2 ok_uneven rfl (by decide) (by decide) I3 ⟨fun x hx => by rw [List.eq_of_mem_replicate hx]; decide, .inl (by decide)⟩ (I3_step ks2) fun p2 st5 k2 g2 past2 hI2 hl2 l6 bn5 nbp2 => ?_
  unfold potC at l6
  simp only [l6, pt_given]
  refine ⟨cP_no T (by simp), ?_⟩
  intro a3 ks3 na3
  refine led_new (m := unevenM ks3) (n := 4) bn5 na3 ok_uneven rfl (by decide) (by decide) I4 ⟨fun x hx => by rw [List.eq_of_mem_replicate hx]; decide, .inl (by decide)⟩ (I4_step ks3) fun p3 st6 k3 g3 past3 hI3 hl3 l7 bn6 nbp3 => ?_
  unfold potC at l7
  simp only [l7, pt_given]
  refine ⟨cP_no T (by simp), sl_small (by decide), sl_small (by decide), sl_small (by decide), sl_small (by decide), ?_⟩
  have eg2 : g2 = 2 := by
    obtain ⟨hr2, hs2⟩ := hI2
    have hk := hr2 k2 (by simp)
    have hs2 : ((wz k2 + 0 = 3 ∧ wo k2 + 0 = 0 ∧ g2 = 0) ∨ (wz k2 + 0 = 1 ∧ wo k2 + 0 = 1 ∧ g2 = 1) ∨ (wz k2 + 0 = 1 ∧ wo k2 + 0 = 0 ∧ g2 = 2)) := hs2
    have hk2 : (wz k2 = 1 ∧ wo k2 = 0) ∨ (wz k2 = 0 ∧ wo k2 = 1) := by
      rcases (by omega : k2 = 0 ∨ k2 = 1) with rfl | rfl <;> decide
    omega
  have eg3 : g3 = 2 ∨ g3 = 3 := by
    obtain ⟨hr2, hs2⟩ := hI3
    have hk := hr2 k3 (by simp)
    have hs2 : ((wz k3 + 0 = 4 ∧ wo k3 + 0 = 0 ∧ g3 = 0) ∨ (wz k3 + 0 = 2 ∧ wo k3 + 0 = 1 ∧ g3 = 1) ∨ (wz k3 + 0 = 0 ∧ wo k3 + 0 = 2 ∧ g3 = 2) ∨ (wz k3 + 0 = 2 ∧ wo k3 + 0 = 0 ∧ g3 = 2) ∨ (wz k3 + 0 = 0 ∧ wo k3 + 0 = 1 ∧ (g3 = 2 ∨ g3 = 3))) := hs2
    have hk2 : (wz k3 = 1 ∧ wo k3 = 0) ∨ (wz k3 = 0 ∧ wo k3 = 1) := by
      rcases (by omega : k3 = 0 ∨ k3 = 1) with rfl | rfl <;> decide
    omega
  have inD : ∀ {Kn : KD}, Kn (.bl false) st6 → gInD true (.lst [.int g2, .int g3]) (.lst [.lst [.int 2, .int 2], .lst [.int 2, .int 3]]) st6 Kn := fun {Kn} q => by
    subst eg2
    rcases eg3 with rfl | rfl
    · exact ⟨⟨rfl, rfl⟩, q⟩
    · exact ⟨⟨rfl, rfl⟩, q⟩
  refine inD ?_
  simp only [startD, endsD, wRet, wRetN, wAndV, wOrV, wNotV, wCB, wCons, wNil, wVar, wC, wChain, wOp, wUn, wIf, wIfE, wTv, wTru, wNot, wAnd, wOr, wSeq, wNext, wAsg, wDrop, dgN, dgT, dgCons, dgNil, dgSub, dgFld, wPar, wTup, wLst, wLstC, wFld, wSetF, wMeth, wMake, wCall, wSl, wNoPart, wPart, wStar, wLenO, wTruO, wCallN, wMakeN, wMethN, gI20, gI2, gNeg, g1I, g2I, gNotN, gIsN, D.isNon, sAdd1, sAdd2, sAdd3, sAdd4, sMul1, sMulT, sLen1, sLen2, sLen3, sInt1, sInt2, sTup1, sTup2, sLst1, sLst2, sSl1, sSl2, sSl3, sTru1, sTru2, sTru3, sDvm, List.map, List.length_cons, List.length_nil, List.replicate, List.cons_append, List.nil_append, List.append_nil, List.getElem?_cons_zero, List.getElem?_cons_succ, List.set_cons_zero, List.set_cons_succ, DL.eq_int, DL.ne_int, Bool.not_true, Bool.not_false, decide_true, decide_false, true_and, and_true]
  have hb : big ≤ 1000000 := by
    have e : (10 : Int) ^ (6 : Int).toNat = 1000000 := by decide
    omega
  refine ⟨sl_small (by decide), sl_small (by decide), sl_small (by decide), sl_small (by decide), make_mixA (m := loneM big []) (ok_lone b0 hb) fun a4 ks4 na4 => ?_⟩
  refine led_new (m := loneM big ks4) bn6 na4 (ok_lone b0 hb) rfl (by omega) (by omega) (I5 n big) ⟨fun x hx => by rw [List.eq_of_mem_replicate hx]; decide, 0, by omega, by rw [sumf_rep]; omega⟩ (I5_step n big ks4) fun p4 st7 k4 g4 past4 hI4 hl4 l8 bn7 nbp4 => ?_
  unfold potC at l8
  simp only [l8, pt_given]
  obtain ⟨hr4, t4, hg4, hs4⟩ := hI4
  have hs4 : t4 + (1 + 0) = n := hs4
  refine ⟨cP_no T (by simp), cmul_small (by decide) (by decide), cmul_small (by omega) (by omega), ?_⟩
  rw [DL.ne_int, show (!(g4 == 2 * (n : Int) + big * ((n : Int) - 1))) = false by
    rw [hg4, show (n : Int) - 1 = t4 by omega]; simp]
  simp only [startD, endsD, wRet, wRetN, wAndV, wOrV, wNotV, wCB, wCons, wNil, wVar, wC, wChain, wOp, wUn, wIf, wIfE, wTv, wTru, wNot, wAnd, wOr, wSeq, wNext, wAsg, wDrop, dgN, dgT, dgCons, dgNil, dgSub, dgFld, wPar, wTup, wLst, wLstC, wFld, wSetF, wMeth, wMake, wCall, wSl, wNoPart, wPart, wStar, wLenO, wTruO, wCallN, wMakeN, wMethN, gI20, gI2, gNeg, g1I, g2I, gNotN, gIsN, D.isNon, sAdd1, sAdd2, sAdd3, sAdd4, sMul1, sMulT, sLen1, sLen2, sLen3, sInt1, sInt2, sTup1, sTup2, sLst1, sLst2, sSl1, sSl2, sSl3, sTru1, sTru2, sTru3, sDvm, List.map, List.length_cons, List.length_nil, List.replicate, List.cons_append, List.nil_append, List.append_nil, List.getElem?_cons_zero, List.getElem?_cons_succ, List.set_cons_zero, List.set_cons_succ, DL.eq_int, DL.ne_int, Bool.not_true, Bool.not_false, decide_true, decide_false, true_and, and_true]
  refine ⟨sl_small (by decide), sl_small (by decide), sl_small (by decide), sl_small (by decide), sl_small (by decide), sl_small (by decide), sl_small (by decide), sl_small (by decide), sl_small (by decide), make_mixA (m := thirdM big []) (ok_third b0 hb) fun a5 ks5 na5 => ?_⟩
  refine led_new (m := thirdM big ks5) bn7 na5 (ok_third b0 hb) rfl (by omega) (by omega) (I6 n big) ⟨fun x hx => by rw [List.eq_of_mem_replicate hx]; decide, 0, by omega, by rw [sumf_rep]; omega⟩ (I6_step n big ks5) fun p5 st8 k5 g5 past5 hI5 hl5 l9 bn8 nbp5 => ?_
  unfold potC at l9
  simp only [l9, pt_given]
  obtain ⟨hr5, t5, hg5, hs5⟩ := hI5
  have hs5 : 3 * t5 + (k5 + 0) = n := hs5
  have hk5 := hr5 k5 (by simp)
  refine ⟨cP_no T (by simp), ⟨by decide, by decide⟩, cmul_small (by omega) (by omega), ?_⟩
  rw [DL.eq_int, show (g5 == big * ((n : Int) / 3)) = true by
    rw [hg5, show (n : Int) / 3 = t5 by omega]; simp]
  exact h _
theorem lc_law {K : PySem.W.Frag} {ns : List Int} (hl : ns.length ≤ 63) {Kn : List D → Sto → Prop} {env : DEnv} (he : 1 < env.length) (e0 : env[0]? = some (some (.scr ns))) : ∀ (l : List Int) (k : Nat) (st : Sto), (∀ t ∈ l, 0 ≤ t ∧ t < 100) → k + l.length ≤ 60 → (∀ st, Kn ((List.replicate (k + l.length) true).map D.bl) st) →
    lcL (tg1 1) wYes (wCallN 1 (sp_law_right K) (wCons (wCallN 2 (sp_law_bin K) (wCons (wVar 0) (wCons (wVar 1) wNil))) wNil)) env Kn (l.map D.int) ((List.replicate k true).map D.bl) st
  | [], k, st, _, _, h => h st
  | t :: l, k, st, ht, hk, h => by
    rw [List.map_cons]
    unfold lcL
    simp only [tg1, wYes, wVar, wCallN, wCall, wCons, wNil]
    rw [List.getElem?_set_ne (by decide), e0]
    dsimp only
    rw [List.getElem?_set_self (by omega)]
    dsimp only
    have q := ht t List.mem_cons_self
    refine ⟨rfl, ns, t, rfl, q, hl, fun b x y z nb => ?_⟩
    refine ⟨rfl, b, rfl, ⟨x, y, z, new_lookup⟩, fun st' => ?_⟩
    rw [List.length_cons] at hk
    refine ⟨by rw [List.length_map, List.length_replicate, sizeLine_eq]; omega, ?_⟩
    have e : (List.replicate k true).map D.bl ++ [D.bl true] = (List.replicate (k + 1) true).map D.bl := by
      rw [List.replicate_succ', List.map_append]; rfl
    rw [e]
    refine lc_law hl he e0 l (k + 1) st' (fun u hu => ht u (List.mem_cons_of_mem _ hu)) (by omega) fun st => ?_
    have q := h st
    rw [List.length_cons, show k + (l.length + 1) = k + 1 + l.length by omega] at q
    exact q
theorem blsOf_map' : ∀ bs : List Bool, blsOf (bs.map D.bl) = some bs
  | [] => rfl
  | b :: bs => by
    have ih := blsOf_map' bs
    rw [List.map_cons]
    first
      | (unfold blsOf; rw [ih])
      | (simp only [blsOf, ih])
theorem pure_law {K : PySem.W.Frag} (T : TP K) : Pu_law K := by
  rintro ds st Kn Kx - ⟨ns, rfl, hl, h⟩
  simp only [startD, endsD, wRet, wRetN, wAndV, wOrV, wNotV, wCB, wCons, wNil, wVar, wC, wChain, wOp, wUn, wIf, wIfE, wTv, wTru, wNot, wAnd, wOr, wSeq, wNext, wAsg, wDrop, dgN, dgT, dgCons, dgNil, dgSub, dgFld, wPar, wTup, wLst, wLstC, wFld, wSetF, wMeth, wMake, wCall, wSl, wNoPart, wPart, wStar, wLenO, wTruO, wCallN, wMakeN, wMethN, gI20, gI2, gNeg, g1I, g2I, gNotN, gIsN, D.isNon, sAdd1, sAdd2, sAdd3, sAdd4, sMul1, sMulT, sLen1, sLen2, sLen3, sInt1, sInt2, sTup1, sTup2, sLst1, sLst2, sSl1, sSl2, sSl3, sTru1, sTru2, sTru3, sDvm, List.map, List.length_cons, List.length_nil, List.replicate, List.cons_append, List.nil_append, List.append_nil, List.getElem?_cons_zero, List.getElem?_cons_succ, List.set_cons_zero, List.set_cons_succ, DL.eq_int, DL.ne_int, Bool.not_true, Bool.not_false, decide_true, decide_false, true_and, and_true]
  simp only [wLcR1]
  simp only [startD, endsD, wRet, wRetN, wAndV, wOrV, wNotV, wCB, wCons, wNil, wVar, wC, wChain, wOp, wUn, wIf, wIfE, wTv, wTru, wNot, wAnd, wOr, wSeq, wNext, wAsg, wDrop, dgN, dgT, dgCons, dgNil, dgSub, dgFld, wPar, wTup, wLst, wLstC, wFld, wSetF, wMeth, wMake, wCall, wSl, wNoPart, wPart, wStar, wLenO, wTruO, wCallN, wMakeN, wMethN, gI20, gI2, gNeg, g1I, g2I, gNotN, gIsN, D.isNon, sAdd1, sAdd2, sAdd3, sAdd4, sMul1, sMulT, sLen1, sLen2, sLen3, sInt1, sInt2, sTup1, sTup2, sLst1, sLst2, sSl1, sSl2, sSl3, sTru1, sTru2, sTru3, sDvm, List.map, List.length_cons, List.length_nil, List.replicate, List.cons_append, List.nil_append, List.append_nil, List.getElem?_cons_zero, List.getElem?_cons_succ, List.set_cons_zero, List.set_cons_succ, DL.eq_int, DL.ne_int, Bool.not_true, Bool.not_false, decide_true, decide_false, true_and, and_true]
  simp only [lcGo]
  have hm : ∃ m : Nat, m ≤ 5 ∧ (if (if 5 < (ns.length : Int) then 5 else (ns.length : Int)) > 2 then if 5 < (ns.length : Int) then 5 else (ns.length : Int) else 2) = (m : Int) := by
    refine ⟨(if (if 5 < (ns.length : Int) then 5 else (ns.length : Int)) > 2 then if 5 < (ns.length : Int) then 5 else (ns.length : Int) else 2).toNat, ?_, ?_⟩ <;> (repeat' split) <;> omega
  obtain ⟨m, m5, em⟩ := hm
  rw [em]
  refine ⟨⟨by omega, by omega⟩, ?_⟩
  rw [Int.toNat_natCast]
  have er : rngD 0 m = ((List.range m).map fun (k : Nat) => (k : Int)).map D.int := by
    unfold rngD
    rw [List.map_map]
    refine List.map_congr_left fun k _ => ?_
    simp
  rw [er]
  refine lc_law hl (by exact (by decide : 1 < 2)) rfl _ 0 st (fun t ht => ?_) (by rw [List.length_map, List.length_range]; omega) fun st' => ?_
  · obtain ⟨k, hk, e⟩ := List.mem_map.mp ht
    have := List.mem_range.mp hk
    omega
  · show gAll (fun bs => bs.all id) [.lst _] st' Kn
    unfold gAll
    simp only [blsOf_map']
    have e : (List.replicate (0 + ((List.range m).map fun (k : Nat) => (k : Int)).length) true).all id = true := by
      rw [List.all_eq_true]
      intro x hx
      rw [List.eq_of_mem_replicate hx]; rfl
    rw [e]
    exact h st'
end K82
set_option maxHeartbeats 0
namespace K82
open PySem PySem.Spec PyProof.Rows L2 DL
abbrev top (i : Nat) : Stmt := PySem.Challenge.pw_givenonce_k82_known_pots.main.body.getD i (.Pass ⟨0, 0, 0, 0⟩)
abbrev s_is_between : Stmt := top 20
theorem sc_is_between : FnScope ["value", "low", "high"] ["value", "low", "high"] (defScope s_is_between) := ⟨rfl, rfl, rfl, by decide +kernel, rfl, by decide +kernel, by decide +kernel⟩
abbrev s_is_entry : Stmt := top 21
theorem sc_is_entry : FnScope ["value", "count"] ["value", "count"] (defScope s_is_entry) := ⟨rfl, rfl, rfl, by decide +kernel, rfl, by decide +kernel, by decide +kernel⟩
abbrev s_wrong_entry : Stmt := top 22
theorem sc_wrong_entry : FnScope ["entries", "count", "index", "entry"] ["entries", "count"] (defScope s_wrong_entry) := ⟨rfl, rfl, rfl, by decide +kernel, rfl, by decide +kernel, by decide +kernel⟩
abbrev s_check_starts : Stmt := top 24
theorem sc_check_starts : FnScope ["value", "count", "index"] ["value", "count"] (defScope s_check_starts) := ⟨rfl, rfl, rfl, by decide +kernel, rfl, by decide +kernel, by decide +kernel⟩
abbrev s_check_table : Stmt := top 25
theorem sc_check_table : FnScope ["value", "count", "size", "index"] ["value", "count", "size"] (defScope s_check_table) := ⟨rfl, rfl, rfl, by decide +kernel, rfl, by decide +kernel, by decide +kernel⟩
abbrev s_place_in_table : Stmt := top 26
theorem sc_place_in_table : FnScope ["count", "one", "other", "low", "high"] ["count", "one", "other"] (defScope s_place_in_table) := ⟨rfl, rfl, rfl, by decide +kernel, rfl, by decide +kernel, by decide +kernel⟩
abbrev s_arising : Stmt := top 27
theorem sc_arising : FnScope ["count", "starts", "table", "found", "before", "one", "fresh", "kind", "gift", "other"] ["count", "starts", "table"] (defScope s_arising) := ⟨rfl, rfl, rfl, by decide +kernel, rfl, by decide +kernel, by decide +kernel⟩
abbrev s_MixtureX_initX : Stmt := clsAt (top 28) 0
theorem sc_MixtureX_initX : FnScope ["self", "count", "starts", "table"] ["self", "count", "starts", "table"] (defScope s_MixtureX_initX) := ⟨rfl, rfl, rfl, by decide +kernel, rfl, by decide +kernel, by decide +kernel⟩
abbrev s_Mixture_met : Stmt := clsAt (top 28) 1
theorem sc_Mixture_met : FnScope ["self", "one", "other"] ["self", "one", "other"] (defScope s_Mixture_met) := ⟨rfl, rfl, rfl, by decide +kernel, rfl, by decide +kernel, by decide +kernel⟩
abbrev s_check_mixture : Stmt := top 29
theorem sc_check_mixture : FnScope ["value"] ["value"] (defScope s_check_mixture) := ⟨rfl, rfl, rfl, by decide +kernel, rfl, by decide +kernel, by decide +kernel⟩
abbrev s_is_pair_of_places : Stmt := top 30
theorem sc_is_pair_of_places : FnScope ["value", "size"] ["value", "size"] (defScope s_is_pair_of_places) := ⟨rfl, rfl, rfl, by decide +kernel, rfl, by decide +kernel, by decide +kernel⟩
abbrev s_joined : Stmt := top 31
theorem sc_joined : FnScope ["mixture", "kinds", "i", "j", "kind", "gift"] ["mixture", "kinds", "i", "j"] (defScope s_joined) := ⟨rfl, rfl, rfl, by decide +kernel, rfl, by decide +kernel, by decide +kernel⟩
abbrev s_PotX_initX : Stmt := clsAt (top 36) 0
theorem sc_PotX_initX : FnScope ["self", "mixture"] ["self", "mixture"] (defScope s_PotX_initX) := ⟨rfl, rfl, rfl, by decide +kernel, rfl, by decide +kernel, by decide +kernel⟩
abbrev s_Pot_become : Stmt := clsAt (top 36) 1
theorem sc_Pot_become : FnScope ["self", "kinds", "given", "amounts"] ["self", "kinds", "given", "amounts"] (defScope s_Pot_become) := ⟨rfl, rfl, rfl, by decide +kernel, rfl, by decide +kernel, by decide +kernel⟩
abbrev s_Pot_check_idle : Stmt := clsAt (top 36) 2
theorem sc_Pot_check_idle : FnScope ["self"] ["self"] (defScope s_Pot_check_idle) := ⟨rfl, rfl, rfl, by decide +kernel, rfl, by decide +kernel, by decide +kernel⟩
abbrev s_Pot_check_room : Stmt := clsAt (top 36) 3
theorem sc_Pot_check_room : FnScope ["self"] ["self"] (defScope s_Pot_check_room) := ⟨rfl, rfl, rfl, by decide +kernel, rfl, by decide +kernel, by decide +kernel⟩
abbrev s_Pot_put_in : Stmt := clsAt (top 36) 4
theorem sc_Pot_put_in : FnScope ["self", "number", "kind", "gift", "amounts", "place", "amount"] ["self", "number"] (defScope s_Pot_put_in) := ⟨rfl, rfl, rfl, by decide +kernel, rfl, by decide +kernel, by decide +kernel⟩
abbrev s_Pot_let_meet : Stmt := clsAt (top 36) 5
theorem sc_Pot_let_meet : FnScope ["self", "i", "j", "kinds", "gift"] ["self", "i", "j"] (defScope s_Pot_let_meet) := ⟨rfl, rfl, rfl, by decide +kernel, rfl, by decide +kernel, by decide +kernel⟩
abbrev s_Pot_put : Stmt := clsAt (top 36) 6
theorem sc_Pot_put : FnScope ["self", "number"] ["self", "number"] (defScope s_Pot_put) := ⟨rfl, rfl, rfl, by decide +kernel, rfl, by decide +kernel, by decide +kernel⟩
abbrev s_Pot_meet : Stmt := clsAt (top 36) 7
theorem sc_Pot_meet : FnScope ["self", "i", "j"] ["self", "i", "j"] (defScope s_Pot_meet) := ⟨rfl, rfl, rfl, by decide +kernel, rfl, by decide +kernel, by decide +kernel⟩
abbrev s_Pot_undo : Stmt := clsAt (top 36) 10
theorem sc_Pot_undo : FnScope ["self"] ["self"] (defScope s_Pot_undo) := ⟨rfl, rfl, rfl, by decide +kernel, rfl, by decide +kernel, by decide +kernel⟩
abbrev s_PotX_lenX : Stmt := clsAt (top 36) 12
theorem sc_PotX_lenX : FnScope ["self"] ["self"] (defScope s_PotX_lenX) := ⟨rfl, rfl, rfl, by decide +kernel, rfl, by decide +kernel, by decide +kernel⟩
abbrev s_pairs_mixture : Stmt := top 38
theorem sc_pairs_mixture : FnScope [] [] (defScope s_pairs_mixture) := ⟨rfl, rfl, rfl, by decide +kernel, rfl, by decide +kernel, by decide +kernel⟩
abbrev s_uneven_mixture : Stmt := top 39
theorem sc_uneven_mixture : FnScope [] [] (defScope s_uneven_mixture) := ⟨rfl, rfl, rfl, by decide +kernel, rfl, by decide +kernel, by decide +kernel⟩
abbrev s_law_bin : Stmt := top 41
theorem sc_law_bin : FnScope ["script", "turn", "state", "each", "own"] ["script", "turn"] (defScope s_law_bin) := ⟨rfl, rfl, rfl, by decide +kernel, rfl, by decide +kernel, by decide +kernel⟩
abbrev s_law_nip : Stmt := top 42
theorem sc_law_nip : FnScope ["bin_here", "size", "digit"] ["bin_here", "size"] (defScope s_law_nip) := ⟨rfl, rfl, rfl, by decide +kernel, rfl, by decide +kernel, by decide +kernel⟩
abbrev s_law_led : Stmt := top 43
theorem sc_law_led : FnScope ["bin_here", "here", "many", "pot_here", "turn", "left", "a"] ["bin_here", "here", "many"] (defScope s_law_led) := ⟨rfl, rfl, rfl, by decide +kernel, rfl, by decide +kernel, by decide +kernel⟩
abbrev s_law_right : Stmt := top 44
theorem sc_law_right : FnScope ["bin_here", "many", "big", "pot_here", "turn", "uneven", "lone", "third"] ["bin_here"] (defScope s_law_right) := ⟨rfl, rfl, rfl, by decide +kernel, rfl, by decide +kernel, by decide +kernel⟩
abbrev s_law : Stmt := top 45
theorem sc_law : FnScope ["script", "turn"] ["script"] (defScope s_law) := ⟨rfl, rfl, rfl, by decide +kernel, rfl, by decide +kernel, by decide +kernel⟩
-- facts
def fn : List He.DefD := [⟨("is_between", none), "is_between", "is_between", defArgs s_is_between, defBody s_is_between, defScope s_is_between, [], []⟩,
  ⟨("is_entry", none), "is_entry", "is_entry", defArgs s_is_entry, defBody s_is_entry, defScope s_is_entry, [], []⟩,
  ⟨("wrong_entry", none), "wrong_entry", "wrong_entry", defArgs s_wrong_entry, defBody s_wrong_entry, defScope s_wrong_entry, [], []⟩,
  ⟨("check_starts", none), "check_starts", "check_starts", defArgs s_check_starts, defBody s_check_starts, defScope s_check_starts, [], []⟩,
  ⟨("check_table", none), "check_table", "check_table", defArgs s_check_table, defBody s_check_table, defScope s_check_table, [], []⟩,
  ⟨("place_in_table", none), "place_in_table", "place_in_table", defArgs s_place_in_table, defBody s_place_in_table, defScope s_place_in_table, [], []⟩,
  ⟨("arising", none), "arising", "arising", defArgs s_arising, defBody s_arising, defScope s_arising, [], []⟩,
  ⟨("Mixture", some "__init__"), "__init__", "Mixture.__init__", defArgs s_MixtureX_initX, defBody s_MixtureX_initX, defScope s_MixtureX_initX, [], []⟩,
  ⟨("Mixture", some "met"), "met", "Mixture.met", defArgs s_Mixture_met, defBody s_Mixture_met, defScope s_Mixture_met, [], []⟩,
  ⟨("check_mixture", none), "check_mixture", "check_mixture", defArgs s_check_mixture, defBody s_check_mixture, defScope s_check_mixture, [], []⟩,
  ⟨("is_pair_of_places", none), "is_pair_of_places", "is_pair_of_places", defArgs s_is_pair_of_places, defBody s_is_pair_of_places, defScope s_is_pair_of_places, [], []⟩,
  ⟨("joined", none), "joined", "joined", defArgs s_joined, defBody s_joined, defScope s_joined, [], []⟩,
  ⟨("Pot", some "__init__"), "__init__", "Pot.__init__", defArgs s_PotX_initX, defBody s_PotX_initX, defScope s_PotX_initX, [], []⟩,
  ⟨("Pot", some "become"), "become", "Pot.become", defArgs s_Pot_become, defBody s_Pot_become, defScope s_Pot_become, [], []⟩,
  ⟨("Pot", some "check_idle"), "check_idle", "Pot.check_idle", defArgs s_Pot_check_idle, defBody s_Pot_check_idle, defScope s_Pot_check_idle, [], []⟩,
  ⟨("Pot", some "check_room"), "check_room", "Pot.check_room", defArgs s_Pot_check_room, defBody s_Pot_check_room, defScope s_Pot_check_room, [], []⟩,
  ⟨("Pot", some "put_in"), "put_in", "Pot.put_in", defArgs s_Pot_put_in, defBody s_Pot_put_in, defScope s_Pot_put_in, [], []⟩,
  ⟨("Pot", some "let_meet"), "let_meet", "Pot.let_meet", defArgs s_Pot_let_meet, defBody s_Pot_let_meet, defScope s_Pot_let_meet, [], []⟩,
  ⟨("Pot", some "put"), "put", "Pot.put", defArgs s_Pot_put, defBody s_Pot_put, defScope s_Pot_put, [], []⟩,
  ⟨("Pot", some "meet"), "meet", "Pot.meet", defArgs s_Pot_meet, defBody s_Pot_meet, defScope s_Pot_meet, [], []⟩,
  ⟨("Pot", some "undo"), "undo", "Pot.undo", defArgs s_Pot_undo, defBody s_Pot_undo, defScope s_Pot_undo, [], []⟩,
  ⟨("Pot", some "__len__"), "__len__", "Pot.__len__", defArgs s_PotX_lenX, defBody s_PotX_lenX, defScope s_PotX_lenX, [], []⟩,
  ⟨("pairs_mixture", none), "pairs_mixture", "pairs_mixture", defArgs s_pairs_mixture, defBody s_pairs_mixture, defScope s_pairs_mixture, [], []⟩,
  ⟨("uneven_mixture", none), "uneven_mixture", "uneven_mixture", defArgs s_uneven_mixture, defBody s_uneven_mixture, defScope s_uneven_mixture, [], []⟩,
  ⟨("_law_bin", none), "_law_bin", "_law_bin", defArgs s_law_bin, defBody s_law_bin, defScope s_law_bin, [], []⟩,
  ⟨("_law_nip", none), "_law_nip", "_law_nip", defArgs s_law_nip, defBody s_law_nip, defScope s_law_nip, [], []⟩,
  ⟨("_law_led", none), "_law_led", "_law_led", defArgs s_law_led, defBody s_law_led, defScope s_law_led, [], []⟩,
  ⟨("_law_right", none), "_law_right", "_law_right", defArgs s_law_right, defBody s_law_right, defScope s_law_right, [], []⟩,
  ⟨("law", none), "law", "law", defArgs s_law, defBody s_law, defScope s_law, [], []⟩]
def fa : List He.Fa := [.free "isinstance", .free "int", .free "bool", .free "tuple", .free "len", .int "MOST_GIFT" 1000000, .free "enumerate", .int "MOST_INPUTS" 3, .free "max", .free "min", .free "sorted", .free "set", .free "list", .int "MOST_KINDS" 8, .glo "Mixture", .cls "Mixture", .meth "Mixture" "met", .int "MOST_DEEDS" 60, .cls "Pot", .meth "Pot" "check_room", .meth "Pot" "become", .meth "Pot" "check_idle", .meth "Pot" "put_in", .meth "Pot" "let_meet", .mkr "Mixture", .free "abs", .free "divmod", .mkr "Pot", .glo "Pot", .meth "Pot" "put", .free "range", .meth "Pot" "meet", .meth "Pot" "__len__", .noat "Pot" "__bool__", .meth "Pot" "undo", .free "all", .glo "is_between", .glo "is_entry", .glo "wrong_entry", .glo "check_starts", .glo "check_table", .glo "place_in_table", .glo "arising", .glo "check_mixture", .glo "is_pair_of_places", .glo "joined", .glo "pairs_mixture", .glo "uneven_mixture", .glo "_law_bin", .glo "_law_nip", .glo "_law_led", .glo "_law_right", .glo "law", .noat "Mixture" "count", .noat "Mixture" "starts", .noat "Mixture" "table", .noat "Mixture" "told", .noat "Mixture" "kinds", .noat "Mixture" "__bool__", .noat "Pot" "mixture", .noat "Pot" "kinds", .noat "Pot" "given", .noat "Pot" "amounts", .noat "Pot" "past", .noat "Pot" "busy"]

def insB (K : PySem.W.Frag) (x : Str) : Bool := decide (PySem.W.findIn K (.ref (He.ga K x)) "__class__" = some (some (.builtin "object.__class__"))) && (decide (PySem.W.specialIn K (.builtin "object.__class__") "__get__" = some (some (.builtin "getset_descriptor.__get__"))) && (decide (PySem.W.takesIn K (.builtin "object.__class__") = some true) && decide (PySem.W.mroIn K (He.ga K x) (.type "object") = some true)))
def noLst (K : PySem.W.Frag) : Bool := K.all fun p => !(p.2.cls == .type "list")
def ex (K : PySem.W.Frag) : Bool := noLst K && (insB K "Mixture" && insB K "Pot")
theorem insB_ok {K : PySem.W.Frag} {x : Str} (c : Cls K (He.ga K x)) (h : insB K x = true) : InsTy K (He.ga K x) := by
  unfold insB at h
  simp only [Bool.and_eq_true, decide_eq_true_eq] at h
  exact ⟨c, h.1, h.2.1, h.2.2.1, h.2.2.2⟩
theorem noLst_ok {K : PySem.W.Frag} (h : noLst K = true) {a : Addr} {o : Obj} (l : K.lookup a = some o) (c : o.cls = .type "list") : False := by
  have q := List.all_eq_true.mp h _ (He.lookup_mem l)
  simp only [c] at q
  exact absurd q (by decide)
def loose0 : List PySem.Str := [("_wall" : PySem.Str), ("InputError" : PySem.Str), ("StateError" : PySem.Str), ("SizeError" : PySem.Str), ("NotAMixture" : PySem.Str), ("InvalidCount" : PySem.Str), ("InvalidKind" : PySem.Str), ("InvalidStarts" : PySem.Str), ("InvalidTable" : PySem.Str), ("InvalidOrder" : PySem.Str), ("InvalidDeeds" : PySem.Str), ("NothingToUndo" : PySem.Str)]
def loose1 : List PySem.Str := [("Busy" : PySem.Str), ("TooMany" : PySem.Str), ("MOST_KINDS" : PySem.Str), ("MOST_INPUTS" : PySem.Str), ("MOST_GIFT" : PySem.Str), ("MOST_DEEDS" : PySem.Str), ("is_between" : PySem.Str), ("is_entry" : PySem.Str), ("wrong_entry" : PySem.Str), ("check_starts" : PySem.Str), ("check_table" : PySem.Str), ("place_in_table" : PySem.Str)]
def loose2 : List PySem.Str := [("arising" : PySem.Str), ("Mixture" : PySem.Str), ("check_mixture" : PySem.Str), ("is_pair_of_places" : PySem.Str), ("joined" : PySem.Str), ("Mark" : PySem.Str), ("Together" : PySem.Str), ("is_deed" : PySem.Str), ("Pot" : PySem.Str), ("pairs_mixture" : PySem.Str), ("uneven_mixture" : PySem.Str), ("_law_bin" : PySem.Str)]
def loose3 : List PySem.Str := [("_law_nip" : PySem.Str), ("_law_led" : PySem.Str), ("_law_right" : PySem.Str)]
def loose : List PySem.Str := loose0 ++ loose1 ++ loose2 ++ loose3
abbrev R : PySem.W.OpenRow := PySem.W.OpenLaw.row PySem.Challenge.rw_givenonce_k82_known_pots
abbrev hk : PySem.W.Hook := He.hookX 4 fa fn [] [] ex
def ob (s : PySem.W.SharedT) : He.AlX := He.obsX 4 fa fn [] [] ex (HandSHeadRun.getT s)
theorem ob_eq (s : PySem.W.SharedT) : ob s = hk.obs s.abs := He.obsX_eq (HandSHeadRun.getT_eq s)
theorem run (w : World) : HandSHeadRun.RunEq R (PySem.W.view R.prog [45]) hk ob 9000 loose w := by
  intro os
  kernel_rfl

structure TX (K : PySem.W.Frag) (mg : Str → Option Value) : Prop where
  tp : TP K
  says : He.SaysD fa fn K
  glo : ∀ (i : Nat) {x : Str}, fa[i]? = some (.glo x) → mg x = some (.ref (He.ga K x))
  free : ∀ (i : Nat) {x : Str}, fa[i]? = some (.free x) → mg x = none
  int : ∀ (i : Nat) {x : Str} {j : Int}, fa[i]? = some (.int x j) → ∃ t, mg x = some (.int j t)
  str : ∀ (i : Nat) {x z : Str}, fa[i]? = some (.str x z) → ∃ t, mg x = some (.str z t)
  mtc : ∀ (i : Nat) {x m : Str}, fa[i]? = some (.meth x m) → Meth K (He.ga K x) m (He.ma K (He.ga K x) m)
  cl : ∀ (i : Nat) {x : Str}, fa[i]? = some (.cls x) → Cls K (He.ga K x)
  mkc : ∀ (i : Nat) {x : Str}, fa[i]? = some (.mkr x) → Mk K (He.ga K x) (He.ma K (He.ga K x) "__init__")
  no : ∀ (i : Nat) {x f : Str}, fa[i]? = some (.noat x f) → NoAttr K (He.ga K x) f

theorem tx_of {K : PySem.W.Frag} {h : Heap} {mg : Str → Option Value} (X : K.In h) (G : h.Ns mainGlobals mg) (c : He.SaysD fa fn K) (e : ex K = true) : TX K mg := by
  have e2 : (insB K "Mixture" && insB K "Pot") = true := (Bool.and_eq_true_iff.mp e).2
  simp only [Bool.and_eq_true] at e2
  have clM : Cls K (He.ga K "Mixture") := He.cls_ok (c.fact 15 (f := .cls "Mixture") rfl)
  have clP : Cls K (He.ga K "Pot") := He.cls_ok (c.fact 18 (f := .cls "Pot") rfl)
  have noM : ∀ f : Str, f ∈ (["count", "starts", "table", "told", "kinds"] : List Str) → NoAttr K (cM K) f := fun f hf => by
    simp only [List.mem_cons, List.not_mem_nil, or_false] at hf
    rcases hf with rfl | rfl | rfl | rfl | rfl
    · exact He.noat_ok (c.fact 53 (f := .noat "Mixture" "count") rfl)
    · exact He.noat_ok (c.fact 54 (f := .noat "Mixture" "starts") rfl)
    · exact He.noat_ok (c.fact 55 (f := .noat "Mixture" "table") rfl)
    · exact He.noat_ok (c.fact 56 (f := .noat "Mixture" "told") rfl)
    · exact He.noat_ok (c.fact 57 (f := .noat "Mixture" "kinds") rfl)
  have noP : ∀ f : Str, f ∈ (["mixture", "kinds", "given", "amounts", "past", "busy"] : List Str) → NoAttr K (cP K) f := fun f hf => by
    simp only [List.mem_cons, List.not_mem_nil, or_false] at hf
    rcases hf with rfl | rfl | rfl | rfl | rfl | rfl
    · exact He.noat_ok (c.fact 59 (f := .noat "Pot" "mixture") rfl)
    · exact He.noat_ok (c.fact 60 (f := .noat "Pot" "kinds") rfl)
    · exact He.noat_ok (c.fact 61 (f := .noat "Pot" "given") rfl)
    · exact He.noat_ok (c.fact 62 (f := .noat "Pot" "amounts") rfl)
    · exact He.noat_ok (c.fact 63 (f := .noat "Pot" "past") rfl)
    · exact He.noat_ok (c.fact 64 (f := .noat "Pot" "busy") rfl)
  exact ⟨⟨clM, clP, insB_ok clM e2.1, noM, noP⟩, c, fun i x h => He.glo_ok X G (c.fact i h), fun i x h => He.free_ok X G (c.fact i h), fun i x j h => He.int_ok X G (c.fact i h), fun i x z h => He.str_ok X G (c.fact i h), fun i x m h => He.meth_ok (c.fact i h), fun i x h => He.cls_ok (c.fact i h), fun i x h => He.mkr_ok (c.fact i h), fun i x f h => He.noat_ok (c.fact i h)⟩
theorem ok_is_between {P : Program} {w : World} {K : PySem.W.Frag} {mg : Str → Option Value} {base : Heap} (T : TX K mg) : OkF P w K mg base 1 "is_between" (He.fAd K ("is_between", none)) ["value", "low", "high"] (sp_is_between K) := by
  obtain ⟨fd, F⟩ := T.says.def_ 0 (d := ⟨("is_between", none), "is_between", "is_between", defArgs s_is_between, defBody s_is_between, defScope s_is_between, [], []⟩) rfl
  have bd : Binds K fd ["value", "low", "high"] [] := FunD.bindsN F fun _ _ _ _ _ _ us hl => match us, hl with | [_, _, _], _ => rfl
  refine ⟨fd, fn_d (wb := wb_is_between K) F sc_is_between (fun cdv A outer s H E hr tk => ?_) (pure_is_between T.tp), ⟨fun _ => T.glo 36 rfl, F.kp, bd⟩⟩
  have h := (show PDSs (defX P w K mg base ["value", "low", "high"] "is_between" (defScope s_is_between) (He.fAd K ("is_between", none)) cdv A outer s H E) (fun cls d _ H => E cls d H) (defBody s_is_between) _ from (pds_one (pds_ret (pd_and (pd_callB call_isi calll_isi (by rfl) (T.free 0 rfl) (by rfl) (pda_cons (pd_var (pv 0)) (pda_cons (pd_ty (by rfl) (T.free 1 rfl) (by rfl)) pda_nil))) (pd_and (pd_not (pd_callB call_isi calll_isi (by rfl) (T.free 0 rfl) (by rfl) (pda_cons (pd_var (pv 0)) (pda_cons (pd_ty (by rfl) (T.free 2 rfl) (by rfl)) pda_nil)))) (pd_one (pd_chain op_le op_le (opl_rI0 fun _ _ _ _ => mk_bl) (opl_rI0 fun _ _ _ _ => mk_bl) (pd_var (pv 1)) (pd_var (pv 0)) (pd_var (pv 2)))))))))
  exact h
theorem ok_is_entry {P : Program} {w : World} {K : PySem.W.Frag} {mg : Str → Option Value} {base : Heap} (T : TX K mg) : OkF P w K mg base 2 "is_entry" (He.fAd K ("is_entry", none)) ["value", "count"] (sp_is_entry K) := by
  obtain ⟨fd_is_between, F_is_between, O_is_between⟩ := ok_is_between (P := P) (w := w) (base := base) T
  obtain ⟨fd, F⟩ := T.says.def_ 1 (d := ⟨("is_entry", none), "is_entry", "is_entry", defArgs s_is_entry, defBody s_is_entry, defScope s_is_entry, [], []⟩) rfl
  have bd : Binds K fd ["value", "count"] [] := FunD.bindsN F fun _ _ _ _ _ _ us hl => match us, hl with | [_, _], _ => rfl
  refine ⟨fd, fn_d (wb := wb_is_entry K) F sc_is_entry (fun cdv A outer s H E hr tk => ?_) (pure_is_entry T.tp), ⟨fun _ => T.glo 37 rfl, F.kp, bd⟩⟩
  have h := (show PDSs (defX P w K mg base ["value", "count"] "is_entry" (defScope s_is_entry) (He.fAd K ("is_entry", none)) cdv A outer s H E) (fun cls d _ H => E cls d H) (defBody s_is_entry) _ from (pds_cons (pds_if (pdt_w (pdw_or (pdt_not (pdt_val (pd_callB call_isi calll_isi (by rfl) (T.free 0 rfl) (by rfl) (pda_cons (pd_var (pv 0)) (pda_cons (pd_ty (by rfl) (T.free 3 rfl) (by rfl)) pda_nil))))) (pdw_or1 (pdt_cmp (op_neD (hu64 hr)) opl_ne (pd_callB call_len calll_len (by rfl) (T.free 4 rfl) (by rfl) (pda_cons (pd_var (pv 0)) pda_nil)) pd_int (nomark _))))) (pds_one (pds_ret pd_bl)) pds_nil)
      (pds_one (pds_ret (pd_and (pd_call F_is_between (hr.mono (by decide)) tk (by rfl) (O_is_between.mg (by decide)) O_is_between.kp O_is_between.bd (pda_cons (pd_ix ix_seq opl_ix (pd_var (pv 0)) pd_int) (pda_cons pd_int (pda_cons (pd_op op_sub (opl_rI0 fun _ _ _ _ => mk_int) (pd_var (pv 1)) pd_int) pda_nil)))) (pd_one (pd_call F_is_between (hr.mono (by decide)) tk (by rfl) (O_is_between.mg (by decide)) O_is_between.kp O_is_between.bd (pda_cons (pd_ix ix_seq opl_ix (pd_var (pv 0)) pd_int) (pda_cons pd_int (pda_cons (pd_gint (by rfl) (T.int 5 rfl)) pda_nil))))))))))
  exact h
theorem ok_wrong_entry {P : Program} {w : World} {K : PySem.W.Frag} {mg : Str → Option Value} {base : Heap} (T : TX K mg) : OkF P w K mg base 3 "wrong_entry" (He.fAd K ("wrong_entry", none)) ["entries", "count"] (sp_wrong_entry K) := by
  obtain ⟨fd_is_entry, F_is_entry, O_is_entry⟩ := ok_is_entry (P := P) (w := w) (base := base) T
  obtain ⟨fd, F⟩ := T.says.def_ 2 (d := ⟨("wrong_entry", none), "wrong_entry", "wrong_entry", defArgs s_wrong_entry, defBody s_wrong_entry, defScope s_wrong_entry, [], []⟩) rfl
  have bd : Binds K fd ["entries", "count"] [] := FunD.bindsN F fun _ _ _ _ _ _ us hl => match us, hl with | [_, _], _ => rfl
  refine ⟨fd, fn_d (wb := wb_wrong_entry K) F sc_wrong_entry (fun cdv A outer s H E hr tk => ?_) (pure_wrong_entry T.tp), ⟨fun _ => T.glo 38 rfl, F.kp, bd⟩⟩
  have h := (show PDSs (defX P w K mg base ["entries", "count", "index", "entry"] "wrong_entry" (defScope s_wrong_entry) (He.fAd K ("wrong_entry", none)) cdv A outer s H E) (fun cls d _ H => E cls d H) (defBody s_wrong_entry) _ from (pds_cons (pds_forE (passes_of (by rfl)) (by rfl) (by rfl) (T.free 6 rfl) (pda_cons (pd_var (pv 0)) pda_nil) (pdg_tup (by rfl) (pdgs_cons (pdg_name (i := 2) sc_wrong_entry.nd (by rfl) (by first | exact .inl rfl | exact .inr rfl)) (pdgs_cons (pdg_name (i := 3) sc_wrong_entry.nd (by rfl) (by first | exact .inl rfl | exact .inr rfl)) pdgs_nil))) (pds_one (pds_if (pdt_not (pdt_val (pd_call F_is_entry (hr.mono (by decide)) tk (by rfl) (O_is_entry.mg (by decide)) O_is_entry.kp O_is_entry.bd (pda_cons (pd_var (pv 3)) (pda_cons (pd_var (pv 1)) pda_nil))))) (pds_one (pds_ret (pd_var (pv 2)))) pds_nil)))
      (pds_one (pds_ret pd_non))))
  exact h
theorem ok_check_starts {P : Program} {w : World} {K : PySem.W.Frag} {mg : Str → Option Value} {base : Heap} (T : TX K mg) : OkF P w K mg base 4 "check_starts" (He.fAd K ("check_starts", none)) ["value", "count"] (sp_check_starts K) := by
  obtain ⟨fd_wrong_entry, F_wrong_entry, O_wrong_entry⟩ := ok_wrong_entry (P := P) (w := w) (base := base) T
  obtain ⟨fd, F⟩ := T.says.def_ 3 (d := ⟨("check_starts", none), "check_starts", "check_starts", defArgs s_check_starts, defBody s_check_starts, defScope s_check_starts, [], []⟩) rfl
  have bd : Binds K fd ["value", "count"] [] := FunD.bindsN F fun _ _ _ _ _ _ us hl => match us, hl with | [_, _], _ => rfl
  refine ⟨fd, fn_d (wb := wb_check_starts K) F sc_check_starts (fun cdv A outer s H E hr tk => ?_) (pure_check_starts T.tp), ⟨fun _ => T.glo 39 rfl, F.kp, bd⟩⟩
  have h := (show PDSs (defX P w K mg base ["value", "count", "index"] "check_starts" (defScope s_check_starts) (He.fAd K ("check_starts", none)) cdv A outer s H E) (fun cls d _ H => E cls d H) (defBody s_check_starts) _ from (pds_cons (pds_if (pdt_w (pdw_or (pdt_not (pdt_val (pd_callB call_isi calll_isi (by rfl) (T.free 0 rfl) (by rfl) (pda_cons (pd_var (pv 0)) (pda_cons (pd_ty (by rfl) (T.free 3 rfl) (by rfl)) pda_nil))))) (pdw_or1 (pdt_not (pdt_chain op_le op_le (opl_rI0 fun _ _ _ _ => mk_bl) (opl_rI0 fun _ _ _ _ => mk_bl) pd_int (pd_callB call_len calll_len (by rfl) (T.free 4 rfl) (by rfl) (pda_cons (pd_var (pv 0)) pda_nil)) (pd_gint (by rfl) (T.int 7 rfl))))))) (pds_one pds_never) pds_nil)
      (pds_cons (pds_set (i := 2) sc_check_starts.nd (by rfl) (by first | exact .inl rfl | exact .inr rfl) (pd_call F_wrong_entry (hr.mono (by decide)) tk (by rfl) (O_wrong_entry.mg (by decide)) O_wrong_entry.kp O_wrong_entry.bd (pda_cons (pd_var (pv 0)) (pda_cons (pd_var (pv 1)) pda_nil))))
      (pds_one (pds_if (pdt_cmp op_notN opl_notN (pd_var (pv 2)) pd_non (nomark _)) (pds_one pds_never) pds_nil)))))
  exact h
theorem ok_check_table {P : Program} {w : World} {K : PySem.W.Frag} {mg : Str → Option Value} {base : Heap} (T : TX K mg) : OkF P w K mg base 4 "check_table" (He.fAd K ("check_table", none)) ["value", "count", "size"] (sp_check_table K) := by
  obtain ⟨fd_wrong_entry, F_wrong_entry, O_wrong_entry⟩ := ok_wrong_entry (P := P) (w := w) (base := base) T
  obtain ⟨fd, F⟩ := T.says.def_ 4 (d := ⟨("check_table", none), "check_table", "check_table", defArgs s_check_table, defBody s_check_table, defScope s_check_table, [], []⟩) rfl
  have bd : Binds K fd ["value", "count", "size"] [] := FunD.bindsN F fun _ _ _ _ _ _ us hl => match us, hl with | [_, _, _], _ => rfl
  refine ⟨fd, fn_d (wb := wb_check_table K) F sc_check_table (fun cdv A outer s H E hr tk => ?_) (pure_check_table T.tp), ⟨fun _ => T.glo 40 rfl, F.kp, bd⟩⟩
  have h := (show PDSs (defX P w K mg base ["value", "count", "size", "index"] "check_table" (defScope s_check_table) (He.fAd K ("check_table", none)) cdv A outer s H E) (fun cls d _ H => E cls d H) (defBody s_check_table) _ from (pds_cons (pds_if (pdt_w (pdw_or (pdt_not (pdt_val (pd_callB call_isi calll_isi (by rfl) (T.free 0 rfl) (by rfl) (pda_cons (pd_var (pv 0)) (pda_cons (pd_ty (by rfl) (T.free 3 rfl) (by rfl)) pda_nil))))) (pdw_or1 (pdt_cmp (op_neD (hu64 hr)) opl_ne (pd_callB call_len calll_len (by rfl) (T.free 4 rfl) (by rfl) (pda_cons (pd_var (pv 0)) pda_nil)) (pd_var (pv 2)) (nomark _))))) (pds_one pds_never) pds_nil)
      (pds_cons (pds_set (i := 3) sc_check_table.nd (by rfl) (by first | exact .inl rfl | exact .inr rfl) (pd_call F_wrong_entry (hr.mono (by decide)) tk (by rfl) (O_wrong_entry.mg (by decide)) O_wrong_entry.kp O_wrong_entry.bd (pda_cons (pd_var (pv 0)) (pda_cons (pd_var (pv 1)) pda_nil))))
      (pds_one (pds_if (pdt_cmp op_notN opl_notN (pd_var (pv 3)) pd_non (nomark _)) (pds_one pds_never) pds_nil)))))
  exact h
theorem ok_place_in_table {P : Program} {w : World} {K : PySem.W.Frag} {mg : Str → Option Value} {base : Heap} (T : TX K mg) : OkF P w K mg base 1 "place_in_table" (He.fAd K ("place_in_table", none)) ["count", "one", "other"] (sp_place_in_table K) := by
  obtain ⟨fd, F⟩ := T.says.def_ 5 (d := ⟨("place_in_table", none), "place_in_table", "place_in_table", defArgs s_place_in_table, defBody s_place_in_table, defScope s_place_in_table, [], []⟩) rfl
  have bd : Binds K fd ["count", "one", "other"] [] := FunD.bindsN F fun _ _ _ _ _ _ us hl => match us, hl with | [_, _, _], _ => rfl
  refine ⟨fd, fn_d (wb := wb_place_in_table K) F sc_place_in_table (fun cdv A outer s H E hr tk => ?_) (pure_place_in_table T.tp), ⟨fun _ => T.glo 41 rfl, F.kp, bd⟩⟩
  have h := (show PDSs (defX P w K mg base ["count", "one", "other", "low", "high"] "place_in_table" (defScope s_place_in_table) (He.fAd K ("place_in_table", none)) cdv A outer s H E) (fun cls d _ H => E cls d H) (defBody s_place_in_table) _ from (pds_cons (PS.imp (ps_par (i := 3) (j := 4) (by rfl) sc_place_in_table.nd (by rfl) (by rfl) (by decide) (by rfl) (by rfl) (pda_cons (pd_callB (call_min2 (by rfl)) (calll_2I fun _ _ _ _ => mk_int) (by rfl) (T.free 9 rfl) (by rfl) (pda_cons (pd_var (pv 1)) (pda_cons (pd_var (pv 2)) pda_nil))) (pda_cons (pd_callB (call_max2 (by rfl)) (calll_2I fun _ _ _ _ => mk_int) (by rfl) (T.free 8 rfl) (by rfl) (pda_cons (pd_var (pv 1)) (pda_cons (pd_var (pv 2)) pda_nil))) pda_nil)) (by rfl)) fun _ _ _ h => wpar_imp h)
      (pds_one (pds_ret (pd_op op_sub (opl_rI0 fun _ _ _ _ => mk_int) (pd_op op_addX opl_add (pd_op op_sub (opl_rI0 fun _ _ _ _ => mk_int) (pd_op op_mulXX opl_mul (pd_var (pv 3)) (pd_var (pv 0))) (pd_op op_fdiv (opl_rI fun _ _ _ _ => mk_int) (pd_op op_mulXX opl_mul (pd_var (pv 3)) (pd_op op_sub (opl_rI0 fun _ _ _ _ => mk_int) (pd_var (pv 3)) pd_int)) pd_int)) (pd_var (pv 4))) (pd_var (pv 3)))))))
  exact h
theorem ok_arising {P : Program} {w : World} {K : PySem.W.Frag} {mg : Str → Option Value} {base : Heap} (T : TX K mg) : OkF P w K mg base 2 "arising" (He.fAd K ("arising", none)) ["count", "starts", "table"] (sp_arising K) := by
  obtain ⟨fd_place_in_table, F_place_in_table, O_place_in_table⟩ := ok_place_in_table (P := P) (w := w) (base := base) T
  obtain ⟨fd, F⟩ := T.says.def_ 6 (d := ⟨("arising", none), "arising", "arising", defArgs s_arising, defBody s_arising, defScope s_arising, [], []⟩) rfl
  have bd : Binds K fd ["count", "starts", "table"] [] := FunD.bindsN F fun _ _ _ _ _ _ us hl => match us, hl with | [_, _, _], _ => rfl
  refine ⟨fd, fn_d (wb := wb_arising K) F sc_arising (fun cdv A outer s H E hr tk => ?_) (pure_arising T.tp), ⟨fun _ => T.glo 42 rfl, F.kp, bd⟩⟩
  have h := (show PDSs (defX P w K mg base ["count", "starts", "table", "found", "before", "one", "fresh", "kind", "gift", "other"] "arising" (defScope s_arising) (He.fAd K ("arising", none)) cdv A outer s H E) (fun cls d _ H => E cls d H) (defBody s_arising) _ from (pds_cons (pds_set (i := 3) sc_arising.nd (by rfl) (by first | exact .inl rfl | exact .inr rfl) (pd_sortSet (by rfl) (by rfl) (T.free 10 rfl) (by rfl) (T.free 11 rfl) (pd_lcT (by rfl) sc_arising.nd (pd_var (pv 1)) (lcOk0 (own := [("kind", 7), ("gift", 8)]) (blkOk_by (by kernel_rfl)) (tgt2 (by decide) (by decide)) (fun _ _ _ _ _ => pg_tup (by rfl) (pgs_cons (pg_name (i := 7) sc_arising.nd (by rfl) (by first | exact .inl rfl | exact .inr rfl)) (pgs_cons (pg_name (i := 8) sc_arising.nd (by rfl) (by first | exact .inl rfl | exact .inr rfl)) pgs_nil))) (fun _ _ _ _ _ => (pd_var (pv 7)))))))
      (pds_cons (pds_set (i := 4) sc_arising.nd (by rfl) (by first | exact .inl rfl | exact .inr rfl) pd_int)
      (pds_cons (pds_while (passes_of (by rfl)) (pdt_cmp (op_neD (hu64 hr)) opl_ne (pd_var (pv 4)) (pd_callB call_len calll_len (by rfl) (T.free 4 rfl) (by rfl) (pda_cons (pd_var (pv 3)) pda_nil)) (nomark _)) (pds_cons (pds_set (i := 4) sc_arising.nd (by rfl) (by first | exact .inl rfl | exact .inr rfl) (pd_callB call_len calll_len (by rfl) (T.free 4 rfl) (by rfl) (pda_cons (pd_var (pv 3)) pda_nil)))
      (pds_one (pds_forL (passes_of (by rfl)) (by rfl) (pd_callT call_list_of calll_listOf (by rfl) (T.free 12 rfl) (by rfl) (pda_cons (pd_var (pv 3)) pda_nil)) (pdg_name (i := 5) sc_arising.nd (by rfl) (by first | exact .inl rfl | exact .inr rfl)) (pds_cons (pds_setLcL (by rfl) sc_arising.nd (i := 6) (by rfl) (by rfl) (by rfl) (pd_var (pv 3)) (lcOk0 (own := [("other", 9)]) (blkOk_by (by kernel_rfl)) (tgt1 (by decide)) (fun _ _ _ _ _ => pg_name (i := 9) sc_arising.nd (by rfl) (by first | exact .inl rfl | exact .inr rfl)) (fun _ _ _ _ _ => (pd_ix ix_seq opl_ix (pd_ix ix_seq opl_ix (pd_var (pv 2)) (pd_call F_place_in_table (hr.mono (by decide)) takes0 (by rfl) (O_place_in_table.mg (by decide)) O_place_in_table.kp O_place_in_table.bd (pda_cons (pd_var (pv 0)) (pda_cons (pd_var (pv 5)) (pda_cons (pd_var (pv 9)) pda_nil))))) pd_int))))
      (pds_one (pds_set (i := 3) sc_arising.nd (by rfl) (by first | exact .inl rfl | exact .inr rfl) (pd_sortSet (by rfl) (by rfl) (T.free 10 rfl) (by rfl) (T.free 11 rfl) (pd_op op_addX opl_add (pd_var (pv 3)) (pd_var (pv 6)))))))))))
      (pds_one (pds_ret (pd_callT call_tuple_of calll_tupOf (by rfl) (T.free 3 rfl) (by rfl) (pda_cons (pd_var (pv 3)) pda_nil))))))))
  exact h
theorem ok_MixtureX_initX {P : Program} {w : World} {K : PySem.W.Frag} {mg : Str → Option Value} {base : Heap} (T : TX K mg) : OkF P w K mg base 5 "" (He.fAd K ("Mixture", some "__init__")) ["self", "count", "starts", "table"] (sp_MixtureX_initX K) := by
  obtain ⟨fd_is_between, F_is_between, O_is_between⟩ := ok_is_between (P := P) (w := w) (base := base) T
  obtain ⟨fd_check_starts, F_check_starts, O_check_starts⟩ := ok_check_starts (P := P) (w := w) (base := base) T
  obtain ⟨fd_check_table, F_check_table, O_check_table⟩ := ok_check_table (P := P) (w := w) (base := base) T
  obtain ⟨fd_arising, F_arising, O_arising⟩ := ok_arising (P := P) (w := w) (base := base) T
  obtain ⟨fd, F⟩ := T.says.def_ 7 (d := ⟨("Mixture", some "__init__"), "__init__", "Mixture.__init__", defArgs s_MixtureX_initX, defBody s_MixtureX_initX, defScope s_MixtureX_initX, [], []⟩) rfl
  have bd : Binds K fd ["self", "count", "starts", "table"] [] := FunD.bindsN F fun _ _ _ _ _ _ us hl => match us, hl with | [_, _, _, _], _ => rfl
  refine ⟨fd, fn_d (wb := wb_MixtureX_initX K) F sc_MixtureX_initX (fun cdv A outer s H E hr tk => ?_) (pure_MixtureX_initX T.tp), ⟨fun h => absurd rfl h, F.kp, bd⟩⟩
  have h := (show PDSs (defX P w K mg base ["self", "count", "starts", "table"] "Mixture.__init__" (defScope s_MixtureX_initX) (He.fAd K ("Mixture", some "__init__")) cdv A outer s H E) (fun cls d _ H => E cls d H) (defBody s_MixtureX_initX) _ from (pds_cons (pds_if (pdt_not (pdt_val (pd_call F_is_between (hr.mono (by decide)) tk (by rfl) (O_is_between.mg (by decide)) O_is_between.kp O_is_between.bd (pda_cons (pd_var (pv 1)) (pda_cons pd_int (pda_cons (pd_gint (by rfl) (T.int 13 rfl)) pda_nil)))))) (pds_one pds_never) pds_nil)
      (pds_cons (pds_expr (pd_call F_check_starts (hr.mono (by decide)) tk (by rfl) (O_check_starts.mg (by decide)) O_check_starts.kp O_check_starts.bd (pda_cons (pd_var (pv 2)) (pda_cons (pd_var (pv 1)) pda_nil))))
      (pds_cons (pds_expr (pd_call F_check_table (hr.mono (by decide)) tk (by rfl) (O_check_table.mg (by decide)) O_check_table.kp O_check_table.bd (pda_cons (pd_var (pv 3)) (pda_cons (pd_var (pv 1)) (pda_cons (pd_op op_fdiv (opl_rI fun _ _ _ _ => mk_int) (pd_op op_mulXX opl_mul (pd_var (pv 1)) (pd_op op_addX opl_add (pd_var (pv 1)) pd_int)) pd_int) pda_nil)))))
      (pds_cons (pds_setF (f := "count") (pd_var (pv 0)) (pd_var (pv 1)))
      (pds_cons (pds_setF (f := "starts") (pd_var (pv 0)) (pd_var (pv 2)))
      (pds_cons (pds_setF (f := "table") (pd_var (pv 0)) (pd_var (pv 3)))
      (pds_cons (pds_setF (f := "told") (pd_var (pv 0)) (pd_tup (pda_cons (pd_var (pv 1)) (pda_cons (pd_var (pv 2)) (pda_cons (pd_var (pv 3)) pda_nil)))))
      (pds_one (pds_setF (f := "kinds") (pd_var (pv 0)) (pd_call F_arising (hr.mono (by decide)) tk (by rfl) (O_arising.mg (by decide)) O_arising.kp O_arising.bd (pda_cons (pd_var (pv 1)) (pda_cons (pd_var (pv 2)) (pda_cons (pd_var (pv 3)) pda_nil))))))))))))))
  exact h
theorem ok_Mixture_met {P : Program} {w : World} {K : PySem.W.Frag} {mg : Str → Option Value} {base : Heap} (T : TX K mg) : OkF P w K mg base 2 "" (He.fAd K ("Mixture", some "met")) ["self", "one", "other"] (sp_Mixture_met K) := by
  obtain ⟨fd_place_in_table, F_place_in_table, O_place_in_table⟩ := ok_place_in_table (P := P) (w := w) (base := base) T
  obtain ⟨fd, F⟩ := T.says.def_ 8 (d := ⟨("Mixture", some "met"), "met", "Mixture.met", defArgs s_Mixture_met, defBody s_Mixture_met, defScope s_Mixture_met, [], []⟩) rfl
  have bd : Binds K fd ["self", "one", "other"] [] := FunD.bindsN F fun _ _ _ _ _ _ us hl => match us, hl with | [_, _, _], _ => rfl
  refine ⟨fd, fn_d (wb := wb_Mixture_met K) F sc_Mixture_met (fun cdv A outer s H E hr tk => ?_) (pure_Mixture_met T.tp), ⟨fun h => absurd rfl h, F.kp, bd⟩⟩
  have h := (show PDSs (defX P w K mg base ["self", "one", "other"] "Mixture.met" (defScope s_Mixture_met) (He.fAd K ("Mixture", some "met")) cdv A outer s H E) (fun cls d _ H => E cls d H) (defBody s_Mixture_met) _ from (pds_one (pds_ret (pd_ix ix_seq opl_ix (pd_fld (f := "table") (pd_var (pv 0))) (pd_call F_place_in_table (hr.mono (by decide)) tk (by rfl) (O_place_in_table.mg (by decide)) O_place_in_table.kp O_place_in_table.bd (pda_cons (pd_fld (f := "count") (pd_var (pv 0))) (pda_cons (pd_var (pv 1)) (pda_cons (pd_var (pv 2)) pda_nil))))))))
  exact h
theorem ok_check_mixture {P : Program} {w : World} {K : PySem.W.Frag} {mg : Str → Option Value} {base : Heap} (T : TX K mg) : OkF P w K mg base 1 "check_mixture" (He.fAd K ("check_mixture", none)) ["value"] (sp_check_mixture K) := by
  obtain ⟨fd, F⟩ := T.says.def_ 9 (d := ⟨("check_mixture", none), "check_mixture", "check_mixture", defArgs s_check_mixture, defBody s_check_mixture, defScope s_check_mixture, [], []⟩) rfl
  have bd : Binds K fd ["value"] [] := FunD.bindsN F fun _ _ _ _ _ _ us hl => match us, hl with | [_], _ => rfl
  refine ⟨fd, fn_d (wb := wb_check_mixture K) F sc_check_mixture (fun cdv A outer s H E hr tk => ?_) (pure_check_mixture T.tp), ⟨fun _ => T.glo 43 rfl, F.kp, bd⟩⟩
  have h := (show PDSs (defX P w K mg base ["value"] "check_mixture" (defScope s_check_mixture) (He.fAd K ("check_mixture", none)) cdv A outer s H E) (fun cls d _ H => E cls d H) (defBody s_check_mixture) _ from (pds_one (pds_if (pdt_not (pdt_val (pd_callB call_isi calll_isi (by rfl) (T.free 0 rfl) (by rfl) (pda_cons (pd_var (pv 0)) (pda_cons (pd_ref (by rfl) (T.glo 14 rfl)) pda_nil))))) (pds_one pds_never) pds_nil)))
  exact h
theorem ok_is_pair_of_places {P : Program} {w : World} {K : PySem.W.Frag} {mg : Str → Option Value} {base : Heap} (T : TX K mg) : OkF P w K mg base 2 "is_pair_of_places" (He.fAd K ("is_pair_of_places", none)) ["value", "size"] (sp_is_pair_of_places K) := by
  obtain ⟨fd_is_between, F_is_between, O_is_between⟩ := ok_is_between (P := P) (w := w) (base := base) T
  obtain ⟨fd, F⟩ := T.says.def_ 10 (d := ⟨("is_pair_of_places", none), "is_pair_of_places", "is_pair_of_places", defArgs s_is_pair_of_places, defBody s_is_pair_of_places, defScope s_is_pair_of_places, [], []⟩) rfl
  have bd : Binds K fd ["value", "size"] [] := FunD.bindsN F fun _ _ _ _ _ _ us hl => match us, hl with | [_, _], _ => rfl
  refine ⟨fd, fn_d (wb := wb_is_pair_of_places K) F sc_is_pair_of_places (fun cdv A outer s H E hr tk => ?_) (pure_is_pair_of_places T.tp), ⟨fun _ => T.glo 44 rfl, F.kp, bd⟩⟩
  have h := (show PDSs (defX P w K mg base ["value", "size"] "is_pair_of_places" (defScope s_is_pair_of_places) (He.fAd K ("is_pair_of_places", none)) cdv A outer s H E) (fun cls d _ H => E cls d H) (defBody s_is_pair_of_places) _ from (pds_cons (pds_if (pdt_w (pdw_or (pdt_not (pdt_val (pd_callB call_isi calll_isi (by rfl) (T.free 0 rfl) (by rfl) (pda_cons (pd_var (pv 0)) (pda_cons (pd_ty (by rfl) (T.free 3 rfl) (by rfl)) pda_nil))))) (pdw_or1 (pdt_cmp (op_neD (hu64 hr)) opl_ne (pd_callB call_len calll_len (by rfl) (T.free 4 rfl) (by rfl) (pda_cons (pd_var (pv 0)) pda_nil)) pd_int (nomark _))))) (pds_one (pds_ret pd_bl)) pds_nil)
      (pds_one (pds_ret (pd_and (pd_call F_is_between (hr.mono (by decide)) tk (by rfl) (O_is_between.mg (by decide)) O_is_between.kp O_is_between.bd (pda_cons (pd_ix ix_seq opl_ix (pd_var (pv 0)) pd_int) (pda_cons pd_int (pda_cons (pd_op op_sub (opl_rI0 fun _ _ _ _ => mk_int) (pd_var (pv 1)) pd_int) pda_nil)))) (pd_and (pd_call F_is_between (hr.mono (by decide)) tk (by rfl) (O_is_between.mg (by decide)) O_is_between.kp O_is_between.bd (pda_cons (pd_ix ix_seq opl_ix (pd_var (pv 0)) pd_int) (pda_cons pd_int (pda_cons (pd_op op_sub (opl_rI0 fun _ _ _ _ => mk_int) (pd_var (pv 1)) pd_int) pda_nil)))) (pd_one (pd_cmp op_lt (opl_rI0 fun _ _ _ _ => mk_bl) (pd_ix ix_seq opl_ix (pd_var (pv 0)) pd_int) (pd_ix ix_seq opl_ix (pd_var (pv 0)) pd_int) (nomark _)))))))))
  exact h
theorem ok_joined {P : Program} {w : World} {K : PySem.W.Frag} {mg : Str → Option Value} {base : Heap} (T : TX K mg) : OkF P w K mg base 3 "joined" (He.fAd K ("joined", none)) ["mixture", "kinds", "i", "j"] (sp_joined K) := by
  obtain ⟨fd_Mixture_met, F_Mixture_met, O_Mixture_met⟩ := ok_Mixture_met (P := P) (w := w) (base := base) T
  obtain ⟨fd, F⟩ := T.says.def_ 11 (d := ⟨("joined", none), "joined", "joined", defArgs s_joined, defBody s_joined, defScope s_joined, [], []⟩) rfl
  have bd : Binds K fd ["mixture", "kinds", "i", "j"] [] := FunD.bindsN F fun _ _ _ _ _ _ us hl => match us, hl with | [_, _, _, _], _ => rfl
  refine ⟨fd, fn_d (wb := wb_joined K) F sc_joined (fun cdv A outer s H E hr tk => ?_) (pure_joined T.tp), ⟨fun _ => T.glo 45 rfl, F.kp, bd⟩⟩
  have h := (show PDSs (defX P w K mg base ["mixture", "kinds", "i", "j", "kind", "gift"] "joined" (defScope s_joined) (He.fAd K ("joined", none)) cdv A outer s H E) (fun cls d _ H => E cls d H) (defBody s_joined) _ from (pds_cons (pds_asg (pd_meth (T.cl 15 rfl) (T.mtc 16 rfl) F_Mixture_met (hr.mono (by decide)) tk O_Mixture_met.bd (pd_var (pv 0)) (pda_cons (pd_ix ix_seq opl_ix (pd_var (pv 1)) (pd_var (pv 2))) (pda_cons (pd_ix ix_seq opl_ix (pd_var (pv 1)) (pd_var (pv 3))) pda_nil))) (pdg_tup (by rfl) (pdgs_cons (pdg_name (i := 4) sc_joined.nd (by rfl) (by first | exact .inl rfl | exact .inr rfl)) (pdgs_cons (pdg_name (i := 5) sc_joined.nd (by rfl) (by first | exact .inl rfl | exact .inr rfl)) pdgs_nil))))
      (pds_one (pds_ret (pd_tup (pda_cons (pd_op op_addX opl_add (pd_op op_addX opl_add (pd_op op_addX opl_add (pd_slice (pd_var (pv 1)) pdo_none (pdo_some (pd_var (pv 2)))) (pd_tup (pda_cons (pd_var (pv 4)) pda_nil))) (pd_slice (pd_var (pv 1)) (pdo_some (pd_op op_addX opl_add (pd_var (pv 2)) pd_int)) (pdo_some (pd_var (pv 3))))) (pd_slice (pd_var (pv 1)) (pdo_some (pd_op op_addX opl_add (pd_var (pv 3)) pd_int)) pdo_none)) (pda_cons (pd_var (pv 5)) pda_nil)))))))
  exact h
theorem ok_PotX_initX {P : Program} {w : World} {K : PySem.W.Frag} {mg : Str → Option Value} {base : Heap} (T : TX K mg) : OkF P w K mg base 2 "" (He.fAd K ("Pot", some "__init__")) ["self", "mixture"] (sp_PotX_initX K) := by
  obtain ⟨fd_check_mixture, F_check_mixture, O_check_mixture⟩ := ok_check_mixture (P := P) (w := w) (base := base) T
  obtain ⟨fd, F⟩ := T.says.def_ 12 (d := ⟨("Pot", some "__init__"), "__init__", "Pot.__init__", defArgs s_PotX_initX, defBody s_PotX_initX, defScope s_PotX_initX, [], []⟩) rfl
  have bd : Binds K fd ["self", "mixture"] [] := FunD.bindsN F fun _ _ _ _ _ _ us hl => match us, hl with | [_, _], _ => rfl
  refine ⟨fd, fn_d (wb := wb_PotX_initX K) F sc_PotX_initX (fun cdv A outer s H E hr tk => ?_) (pure_PotX_initX T.tp), ⟨fun h => absurd rfl h, F.kp, bd⟩⟩
  have h := (show PDSs (defX P w K mg base ["self", "mixture"] "Pot.__init__" (defScope s_PotX_initX) (He.fAd K ("Pot", some "__init__")) cdv A outer s H E) (fun cls d _ H => E cls d H) (defBody s_PotX_initX) _ from (pds_cons (pds_expr (pd_call F_check_mixture (hr.mono (by decide)) tk (by rfl) (O_check_mixture.mg (by decide)) O_check_mixture.kp O_check_mixture.bd (pda_cons (pd_var (pv 1)) pda_nil)))
      (pds_cons (pds_setF (f := "mixture") (pd_var (pv 0)) (pd_var (pv 1)))
      (pds_cons (pds_setF (f := "kinds") (pd_var (pv 0)) (pd_tup pda_nil))
      (pds_cons (pds_setF (f := "given") (pd_var (pv 0)) pd_int)
      (pds_cons (pds_setF (f := "amounts") (pd_var (pv 0)) (pd_op op_mulTup opl_mulTup (pd_tup (pda_cons pd_int pda_nil)) (pd_callB call_len calll_len (by rfl) (T.free 4 rfl) (by rfl) (pda_cons (pd_fld (f := "starts") (pd_var (pv 1))) pda_nil))))
      (pds_cons (pds_setF (f := "past") (pd_var (pv 0)) (pd_tup pda_nil))
      (pds_one (pds_setF (f := "busy") (pd_var (pv 0)) pd_bl)))))))))
  exact h
theorem ok_Pot_become {P : Program} {w : World} {K : PySem.W.Frag} {mg : Str → Option Value} {base : Heap} (T : TX K mg) : OkF P w K mg base 1 "" (He.fAd K ("Pot", some "become")) ["self", "kinds", "given", "amounts"] (sp_Pot_become K) := by
  obtain ⟨fd, F⟩ := T.says.def_ 13 (d := ⟨("Pot", some "become"), "become", "Pot.become", defArgs s_Pot_become, defBody s_Pot_become, defScope s_Pot_become, [], []⟩) rfl
  have bd : Binds K fd ["self", "kinds", "given", "amounts"] [] := FunD.bindsN F fun _ _ _ _ _ _ us hl => match us, hl with | [_, _, _, _], _ => rfl
  refine ⟨fd, fn_d (wb := wb_Pot_become K) F sc_Pot_become (fun cdv A outer s H E hr tk => ?_) (pure_Pot_become T.tp), ⟨fun h => absurd rfl h, F.kp, bd⟩⟩
  have h := (show PDSs (defX P w K mg base ["self", "kinds", "given", "amounts"] "Pot.become" (defScope s_Pot_become) (He.fAd K ("Pot", some "become")) cdv A outer s H E) (fun cls d _ H => E cls d H) (defBody s_Pot_become) _ from (pds_cons (pds_setF (f := "past") (pd_var (pv 0)) (pd_tup (pda_star (pd_fld (f := "past") (pd_var (pv 0))) (pda_cons (pd_tup (pda_cons (pd_fld (f := "kinds") (pd_var (pv 0))) (pda_cons (pd_fld (f := "given") (pd_var (pv 0))) (pda_cons (pd_fld (f := "amounts") (pd_var (pv 0))) pda_nil)))) pda_nil))))
      (pds_one (pds_asg (pd_tup (pda_cons (pd_var (pv 1)) (pda_cons (pd_var (pv 2)) (pda_cons (pd_var (pv 3)) pda_nil)))) (pdg_tup (by rfl) (pdgs_cons (pdg_fld (f := "kinds") (pd_var (pv 0))) (pdgs_cons (pdg_fld (f := "given") (pd_var (pv 0))) (pdgs_cons (pdg_fld (f := "amounts") (pd_var (pv 0))) pdgs_nil))))))))
  exact h
theorem ok_Pot_check_idle {P : Program} {w : World} {K : PySem.W.Frag} {mg : Str → Option Value} {base : Heap} (T : TX K mg) : OkF P w K mg base 1 "" (He.fAd K ("Pot", some "check_idle")) ["self"] (sp_Pot_check_idle K) := by
  obtain ⟨fd, F⟩ := T.says.def_ 14 (d := ⟨("Pot", some "check_idle"), "check_idle", "Pot.check_idle", defArgs s_Pot_check_idle, defBody s_Pot_check_idle, defScope s_Pot_check_idle, [], []⟩) rfl
  have bd : Binds K fd ["self"] [] := FunD.bindsN F fun _ _ _ _ _ _ us hl => match us, hl with | [_], _ => rfl
  refine ⟨fd, fn_d (wb := wb_Pot_check_idle K) F sc_Pot_check_idle (fun cdv A outer s H E hr tk => ?_) (pure_Pot_check_idle T.tp), ⟨fun h => absurd rfl h, F.kp, bd⟩⟩
  have h := (show PDSs (defX P w K mg base ["self"] "Pot.check_idle" (defScope s_Pot_check_idle) (He.fAd K ("Pot", some "check_idle")) cdv A outer s H E) (fun cls d _ H => E cls d H) (defBody s_Pot_check_idle) _ from (pds_one (pds_if (pdt_tru (pd_fld (f := "busy") (pd_var (pv 0)))) (pds_one pds_never) pds_nil)))
  exact h
theorem ok_Pot_check_room {P : Program} {w : World} {K : PySem.W.Frag} {mg : Str → Option Value} {base : Heap} (T : TX K mg) : OkF P w K mg base 1 "" (He.fAd K ("Pot", some "check_room")) ["self"] (sp_Pot_check_room K) := by
  obtain ⟨fd, F⟩ := T.says.def_ 15 (d := ⟨("Pot", some "check_room"), "check_room", "Pot.check_room", defArgs s_Pot_check_room, defBody s_Pot_check_room, defScope s_Pot_check_room, [], []⟩) rfl
  have bd : Binds K fd ["self"] [] := FunD.bindsN F fun _ _ _ _ _ _ us hl => match us, hl with | [_], _ => rfl
  refine ⟨fd, fn_d (wb := wb_Pot_check_room K) F sc_Pot_check_room (fun cdv A outer s H E hr tk => ?_) (pure_Pot_check_room T.tp), ⟨fun h => absurd rfl h, F.kp, bd⟩⟩
  have h := (show PDSs (defX P w K mg base ["self"] "Pot.check_room" (defScope s_Pot_check_room) (He.fAd K ("Pot", some "check_room")) cdv A outer s H E) (fun cls d _ H => E cls d H) (defBody s_Pot_check_room) _ from (pds_one (pds_if (pdt_cmp (op_eqD (hu64 hr)) opl_eq (pd_callB call_len calll_len (by rfl) (T.free 4 rfl) (by rfl) (pda_cons (pd_fld (f := "past") (pd_var (pv 0))) pda_nil)) (pd_gint (by rfl) (T.int 17 rfl)) (nomark _)) (pds_one pds_never) pds_nil)))
  exact h
theorem ok_Pot_put_in {P : Program} {w : World} {K : PySem.W.Frag} {mg : Str → Option Value} {base : Heap} (T : TX K mg) : OkF P w K mg base 2 "" (He.fAd K ("Pot", some "put_in")) ["self", "number"] (sp_Pot_put_in K) := by
  obtain ⟨fd_is_between, F_is_between, O_is_between⟩ := ok_is_between (P := P) (w := w) (base := base) T
  obtain ⟨fd_Pot_check_room, F_Pot_check_room, O_Pot_check_room⟩ := ok_Pot_check_room (P := P) (w := w) (base := base) T
  obtain ⟨fd_Pot_become, F_Pot_become, O_Pot_become⟩ := ok_Pot_become (P := P) (w := w) (base := base) T
  obtain ⟨fd, F⟩ := T.says.def_ 16 (d := ⟨("Pot", some "put_in"), "put_in", "Pot.put_in", defArgs s_Pot_put_in, defBody s_Pot_put_in, defScope s_Pot_put_in, [], []⟩) rfl
  have bd : Binds K fd ["self", "number"] [] := FunD.bindsN F fun _ _ _ _ _ _ us hl => match us, hl with | [_, _], _ => rfl
  refine ⟨fd, fn_d (wb := wb_Pot_put_in K) F sc_Pot_put_in (fun cdv A outer s H E hr tk => ?_) (pure_Pot_put_in T.tp), ⟨fun h => absurd rfl h, F.kp, bd⟩⟩
  have h := (show PDSs (defX P w K mg base ["self", "number", "kind", "gift", "amounts", "place", "amount"] "Pot.put_in" (defScope s_Pot_put_in) (He.fAd K ("Pot", some "put_in")) cdv A outer s H E) (fun cls d _ H => E cls d H) (defBody s_Pot_put_in) _ from (pds_cons (pds_if (pdt_not (pdt_val (pd_call F_is_between (hr.mono (by decide)) tk (by rfl) (O_is_between.mg (by decide)) O_is_between.kp O_is_between.bd (pda_cons (pd_var (pv 1)) (pda_cons pd_int (pda_cons (pd_op op_sub (opl_rI0 fun _ _ _ _ => mk_int) (pd_callB call_len calll_len (by rfl) (T.free 4 rfl) (by rfl) (pda_cons (pd_fld (f := "amounts") (pd_var (pv 0))) pda_nil)) pd_int) pda_nil)))))) (pds_one pds_never) pds_nil)
      (pds_cons (pds_expr (pd_meth0 (T.cl 18 rfl) (T.mtc 19 rfl) F_Pot_check_room (hr.mono (by decide)) tk O_Pot_check_room.bd (pd_var (pv 0))))
      (pds_cons (pds_asg (pd_ix ix_seq opl_ix (pd_fld (f := "starts") (pd_fld (f := "mixture") (pd_var (pv 0)))) (pd_var (pv 1))) (pdg_tup (by rfl) (pdgs_cons (pdg_name (i := 2) sc_Pot_put_in.nd (by rfl) (by first | exact .inl rfl | exact .inr rfl)) (pdgs_cons (pdg_name (i := 3) sc_Pot_put_in.nd (by rfl) (by first | exact .inl rfl | exact .inr rfl)) pdgs_nil))))
      (pds_cons (pds_set (i := 4) sc_Pot_put_in.nd (by rfl) (by first | exact .inl rfl | exact .inr rfl) (pd_callT call_tuple_of calll_tupOf (by rfl) (T.free 3 rfl) (by rfl) (pda_cons (pd_lcE (by rfl) sc_Pot_put_in.nd (by rfl) (T.free 6 rfl) (pda_cons (pd_fld (f := "amounts") (pd_var (pv 0))) pda_nil) (lcOk0 (own := [("place", 5), ("amount", 6)]) (blkOk_by (by kernel_rfl)) (tgt2 (by decide) (by decide)) (fun _ _ _ _ _ => pg_tup (by rfl) (pgs_cons (pg_name (i := 5) sc_Pot_put_in.nd (by rfl) (by first | exact .inl rfl | exact .inr rfl)) (pgs_cons (pg_name (i := 6) sc_Pot_put_in.nd (by rfl) (by first | exact .inl rfl | exact .inr rfl)) pgs_nil))) (fun _ _ _ _ _ => (pd_op op_addX opl_add (pd_var (pv 6)) (pd_callT call_int1 calll_int (by rfl) (T.free 1 rfl) (by rfl) (pda_cons (pd_cmp (op_eqD (hu64 hr)) opl_eq (pd_var (pv 5)) (pd_var (pv 1)) (nomark _)) pda_nil)))))) pda_nil)))
      (pds_cons (pds_expr (pd_meth (T.cl 18 rfl) (T.mtc 20 rfl) F_Pot_become (hr.mono (by decide)) tk O_Pot_become.bd (pd_var (pv 0)) (pda_cons (pd_op op_addX opl_add (pd_fld (f := "kinds") (pd_var (pv 0))) (pd_tup (pda_cons (pd_var (pv 2)) pda_nil))) (pda_cons (pd_op op_addX opl_add (pd_fld (f := "given") (pd_var (pv 0))) (pd_var (pv 3))) (pda_cons (pd_var (pv 4)) pda_nil)))))
      (pds_one (pds_ret (pd_var (pv 3))))))))))
  exact h
theorem ok_Pot_let_meet {P : Program} {w : World} {K : PySem.W.Frag} {mg : Str → Option Value} {base : Heap} (T : TX K mg) : OkF P w K mg base 4 "" (He.fAd K ("Pot", some "let_meet")) ["self", "i", "j"] (sp_Pot_let_meet K) := by
  obtain ⟨fd_is_pair_of_places, F_is_pair_of_places, O_is_pair_of_places⟩ := ok_is_pair_of_places (P := P) (w := w) (base := base) T
  obtain ⟨fd_Pot_check_room, F_Pot_check_room, O_Pot_check_room⟩ := ok_Pot_check_room (P := P) (w := w) (base := base) T
  obtain ⟨fd_joined, F_joined, O_joined⟩ := ok_joined (P := P) (w := w) (base := base) T
  obtain ⟨fd_Pot_become, F_Pot_become, O_Pot_become⟩ := ok_Pot_become (P := P) (w := w) (base := base) T
  obtain ⟨fd, F⟩ := T.says.def_ 17 (d := ⟨("Pot", some "let_meet"), "let_meet", "Pot.let_meet", defArgs s_Pot_let_meet, defBody s_Pot_let_meet, defScope s_Pot_let_meet, [], []⟩) rfl
  have bd : Binds K fd ["self", "i", "j"] [] := FunD.bindsN F fun _ _ _ _ _ _ us hl => match us, hl with | [_, _, _], _ => rfl
  refine ⟨fd, fn_d (wb := wb_Pot_let_meet K) F sc_Pot_let_meet (fun cdv A outer s H E hr tk => ?_) (pure_Pot_let_meet T.tp), ⟨fun h => absurd rfl h, F.kp, bd⟩⟩
  have h := (show PDSs (defX P w K mg base ["self", "i", "j", "kinds", "gift"] "Pot.let_meet" (defScope s_Pot_let_meet) (He.fAd K ("Pot", some "let_meet")) cdv A outer s H E) (fun cls d _ H => E cls d H) (defBody s_Pot_let_meet) _ from (pds_cons (pds_if (pdt_not (pdt_val (pd_call F_is_pair_of_places (hr.mono (by decide)) tk (by rfl) (O_is_pair_of_places.mg (by decide)) O_is_pair_of_places.kp O_is_pair_of_places.bd (pda_cons (pd_tup (pda_cons (pd_var (pv 1)) (pda_cons (pd_var (pv 2)) pda_nil))) (pda_cons (pd_callB call_len calll_len (by rfl) (T.free 4 rfl) (by rfl) (pda_cons (pd_fld (f := "kinds") (pd_var (pv 0))) pda_nil)) pda_nil))))) (pds_one pds_never) pds_nil)
      (pds_cons (pds_expr (pd_meth0 (T.cl 18 rfl) (T.mtc 19 rfl) F_Pot_check_room (hr.mono (by decide)) tk O_Pot_check_room.bd (pd_var (pv 0))))
      (pds_cons (pds_asg (pd_call F_joined (hr.mono (by decide)) tk (by rfl) (O_joined.mg (by decide)) O_joined.kp O_joined.bd (pda_cons (pd_fld (f := "mixture") (pd_var (pv 0))) (pda_cons (pd_fld (f := "kinds") (pd_var (pv 0))) (pda_cons (pd_var (pv 1)) (pda_cons (pd_var (pv 2)) pda_nil))))) (pdg_tup (by rfl) (pdgs_cons (pdg_name (i := 3) sc_Pot_let_meet.nd (by rfl) (by first | exact .inl rfl | exact .inr rfl)) (pdgs_cons (pdg_name (i := 4) sc_Pot_let_meet.nd (by rfl) (by first | exact .inl rfl | exact .inr rfl)) pdgs_nil))))
      (pds_cons (pds_expr (pd_meth (T.cl 18 rfl) (T.mtc 20 rfl) F_Pot_become (hr.mono (by decide)) tk O_Pot_become.bd (pd_var (pv 0)) (pda_cons (pd_var (pv 3)) (pda_cons (pd_op op_addX opl_add (pd_fld (f := "given") (pd_var (pv 0))) (pd_var (pv 4))) (pda_cons (pd_fld (f := "amounts") (pd_var (pv 0))) pda_nil)))))
      (pds_one (pds_ret (pd_var (pv 4)))))))))
  exact h
theorem ok_Pot_put {P : Program} {w : World} {K : PySem.W.Frag} {mg : Str → Option Value} {base : Heap} (T : TX K mg) : OkF P w K mg base 3 "" (He.fAd K ("Pot", some "put")) ["self", "number"] (sp_Pot_put K) := by
  obtain ⟨fd_Pot_check_idle, F_Pot_check_idle, O_Pot_check_idle⟩ := ok_Pot_check_idle (P := P) (w := w) (base := base) T
  obtain ⟨fd_Pot_put_in, F_Pot_put_in, O_Pot_put_in⟩ := ok_Pot_put_in (P := P) (w := w) (base := base) T
  obtain ⟨fd, F⟩ := T.says.def_ 18 (d := ⟨("Pot", some "put"), "put", "Pot.put", defArgs s_Pot_put, defBody s_Pot_put, defScope s_Pot_put, [], []⟩) rfl
  have bd : Binds K fd ["self", "number"] [] := FunD.bindsN F fun _ _ _ _ _ _ us hl => match us, hl with | [_, _], _ => rfl
  refine ⟨fd, fn_d (wb := wb_Pot_put K) F sc_Pot_put (fun cdv A outer s H E hr tk => ?_) (pure_Pot_put T.tp), ⟨fun h => absurd rfl h, F.kp, bd⟩⟩
  have h := (show PDSs (defX P w K mg base ["self", "number"] "Pot.put" (defScope s_Pot_put) (He.fAd K ("Pot", some "put")) cdv A outer s H E) (fun cls d _ H => E cls d H) (defBody s_Pot_put) _ from (pds_cons (pds_expr (pd_meth0 (T.cl 18 rfl) (T.mtc 21 rfl) F_Pot_check_idle (hr.mono (by decide)) tk O_Pot_check_idle.bd (pd_var (pv 0))))
      (pds_one (pds_ret (pd_meth (T.cl 18 rfl) (T.mtc 22 rfl) F_Pot_put_in (hr.mono (by decide)) tk O_Pot_put_in.bd (pd_var (pv 0)) (pda_cons (pd_var (pv 1)) pda_nil))))))
  exact h
theorem ok_Pot_meet {P : Program} {w : World} {K : PySem.W.Frag} {mg : Str → Option Value} {base : Heap} (T : TX K mg) : OkF P w K mg base 5 "" (He.fAd K ("Pot", some "meet")) ["self", "i", "j"] (sp_Pot_meet K) := by
  obtain ⟨fd_Pot_check_idle, F_Pot_check_idle, O_Pot_check_idle⟩ := ok_Pot_check_idle (P := P) (w := w) (base := base) T
  obtain ⟨fd_Pot_let_meet, F_Pot_let_meet, O_Pot_let_meet⟩ := ok_Pot_let_meet (P := P) (w := w) (base := base) T
  obtain ⟨fd, F⟩ := T.says.def_ 19 (d := ⟨("Pot", some "meet"), "meet", "Pot.meet", defArgs s_Pot_meet, defBody s_Pot_meet, defScope s_Pot_meet, [], []⟩) rfl
  have bd : Binds K fd ["self", "i", "j"] [] := FunD.bindsN F fun _ _ _ _ _ _ us hl => match us, hl with | [_, _, _], _ => rfl
  refine ⟨fd, fn_d (wb := wb_Pot_meet K) F sc_Pot_meet (fun cdv A outer s H E hr tk => ?_) (pure_Pot_meet T.tp), ⟨fun h => absurd rfl h, F.kp, bd⟩⟩
  have h := (show PDSs (defX P w K mg base ["self", "i", "j"] "Pot.meet" (defScope s_Pot_meet) (He.fAd K ("Pot", some "meet")) cdv A outer s H E) (fun cls d _ H => E cls d H) (defBody s_Pot_meet) _ from (pds_cons (pds_expr (pd_meth0 (T.cl 18 rfl) (T.mtc 21 rfl) F_Pot_check_idle (hr.mono (by decide)) tk O_Pot_check_idle.bd (pd_var (pv 0))))
      (pds_one (pds_ret (pd_meth (T.cl 18 rfl) (T.mtc 23 rfl) F_Pot_let_meet (hr.mono (by decide)) tk O_Pot_let_meet.bd (pd_var (pv 0)) (pda_cons (pd_var (pv 1)) (pda_cons (pd_var (pv 2)) pda_nil)))))))
  exact h
theorem ok_Pot_undo {P : Program} {w : World} {K : PySem.W.Frag} {mg : Str → Option Value} {base : Heap} (T : TX K mg) : OkF P w K mg base 2 "" (He.fAd K ("Pot", some "undo")) ["self"] (sp_Pot_undo K) := by
  obtain ⟨fd_Pot_check_idle, F_Pot_check_idle, O_Pot_check_idle⟩ := ok_Pot_check_idle (P := P) (w := w) (base := base) T
  obtain ⟨fd, F⟩ := T.says.def_ 20 (d := ⟨("Pot", some "undo"), "undo", "Pot.undo", defArgs s_Pot_undo, defBody s_Pot_undo, defScope s_Pot_undo, [], []⟩) rfl
  have bd : Binds K fd ["self"] [] := FunD.bindsN F fun _ _ _ _ _ _ us hl => match us, hl with | [_], _ => rfl
  refine ⟨fd, fn_d (wb := wb_Pot_undo K) F sc_Pot_undo (fun cdv A outer s H E hr tk => ?_) (pure_Pot_undo T.tp), ⟨fun h => absurd rfl h, F.kp, bd⟩⟩
  have h := (show PDSs (defX P w K mg base ["self"] "Pot.undo" (defScope s_Pot_undo) (He.fAd K ("Pot", some "undo")) cdv A outer s H E) (fun cls d _ H => E cls d H) (defBody s_Pot_undo) _ from (pds_cons (pds_expr (pd_meth0 (T.cl 18 rfl) (T.mtc 21 rfl) F_Pot_check_idle (hr.mono (by decide)) tk O_Pot_check_idle.bd (pd_var (pv 0))))
      (pds_cons (pds_if (pdt_cmp (op_eqD (hu64 hr)) opl_eq (pd_callB call_len calll_len (by rfl) (T.free 4 rfl) (by rfl) (pda_cons (pd_fld (f := "past") (pd_var (pv 0))) pda_nil)) pd_int (nomark _)) (pds_one pds_never) pds_nil)
      (pds_cons (pds_asg (pd_ix ix_seq opl_ix (pd_fld (f := "past") (pd_var (pv 0))) (pd_un un_neg unl_neg pd_int)) (pdg_tup (by rfl) (pdgs_cons (pdg_fld (f := "kinds") (pd_var (pv 0))) (pdgs_cons (pdg_fld (f := "given") (pd_var (pv 0))) (pdgs_cons (pdg_fld (f := "amounts") (pd_var (pv 0))) pdgs_nil)))))
      (pds_one (pds_setF (f := "past") (pd_var (pv 0)) (pd_slice (pd_fld (f := "past") (pd_var (pv 0))) pdo_none (pdo_some (pd_un un_neg unl_neg pd_int)))))))))
  exact h
theorem ok_PotX_lenX {P : Program} {w : World} {K : PySem.W.Frag} {mg : Str → Option Value} {base : Heap} (T : TX K mg) : OkF P w K mg base 1 "" (He.fAd K ("Pot", some "__len__")) ["self"] (sp_PotX_lenX K) := by
  obtain ⟨fd, F⟩ := T.says.def_ 21 (d := ⟨("Pot", some "__len__"), "__len__", "Pot.__len__", defArgs s_PotX_lenX, defBody s_PotX_lenX, defScope s_PotX_lenX, [], []⟩) rfl
  have bd : Binds K fd ["self"] [] := FunD.bindsN F fun _ _ _ _ _ _ us hl => match us, hl with | [_], _ => rfl
  refine ⟨fd, fn_d (wb := wb_PotX_lenX K) F sc_PotX_lenX (fun cdv A outer s H E hr tk => ?_) (pure_PotX_lenX T.tp), ⟨fun h => absurd rfl h, F.kp, bd⟩⟩
  have h := (show PDSs (defX P w K mg base ["self"] "Pot.__len__" (defScope s_PotX_lenX) (He.fAd K ("Pot", some "__len__")) cdv A outer s H E) (fun cls d _ H => E cls d H) (defBody s_PotX_lenX) _ from (pds_one (pds_ret (pd_callB call_len calll_len (by rfl) (T.free 4 rfl) (by rfl) (pda_cons (pd_fld (f := "kinds") (pd_var (pv 0))) pda_nil)))))
  exact h
theorem ok_pairs_mixture {P : Program} {w : World} {K : PySem.W.Frag} {mg : Str → Option Value} {base : Heap} (T : TX K mg) : OkF P w K mg base 7 "pairs_mixture" (He.fAd K ("pairs_mixture", none)) [] (sp_pairs_mixture K) := by
  obtain ⟨fd_MixtureX_initX, F_MixtureX_initX, O_MixtureX_initX⟩ := ok_MixtureX_initX (P := P) (w := w) (base := base) T
  obtain ⟨fd, F⟩ := T.says.def_ 22 (d := ⟨("pairs_mixture", none), "pairs_mixture", "pairs_mixture", defArgs s_pairs_mixture, defBody s_pairs_mixture, defScope s_pairs_mixture, [], []⟩) rfl
  have bd : Binds K fd [] [] := FunD.bindsN F fun _ _ _ _ _ _ us hl => match us, hl with | [], _ => rfl
  refine ⟨fd, fn_d (wb := wb_pairs_mixture K) F sc_pairs_mixture (fun cdv A outer s H E hr tk => ?_) (pure_pairs_mixture T.tp), ⟨fun _ => T.glo 46 rfl, F.kp, bd⟩⟩
  have h := (show PDSs (defX P w K mg base [] "pairs_mixture" (defScope s_pairs_mixture) (He.fAd K ("pairs_mixture", none)) cdv A outer s H E) (fun cls d _ H => E cls d H) (defBody s_pairs_mixture) _ from (pds_one (pds_ret (pd_make (T.mkc 24 rfl) F_MixtureX_initX (hr.mono (by decide)) tk (by rfl) (T.glo 14 rfl) O_MixtureX_initX.bd (pda_cons pd_int (pda_cons (pd_tup (pda_cons (pd_tup (pda_cons pd_int (pda_cons pd_int pda_nil))) pda_nil)) (pda_cons (pd_tup (pda_cons (pd_tup (pda_cons pd_int (pda_cons pd_int pda_nil))) (pda_cons (pd_tup (pda_cons pd_int (pda_cons pd_int pda_nil))) (pda_cons (pd_tup (pda_cons pd_int (pda_cons pd_int pda_nil))) pda_nil)))) pda_nil)))))))
  exact h
theorem ok_uneven_mixture {P : Program} {w : World} {K : PySem.W.Frag} {mg : Str → Option Value} {base : Heap} (T : TX K mg) : OkF P w K mg base 7 "uneven_mixture" (He.fAd K ("uneven_mixture", none)) [] (sp_uneven_mixture K) := by
  obtain ⟨fd_MixtureX_initX, F_MixtureX_initX, O_MixtureX_initX⟩ := ok_MixtureX_initX (P := P) (w := w) (base := base) T
  obtain ⟨fd, F⟩ := T.says.def_ 23 (d := ⟨("uneven_mixture", none), "uneven_mixture", "uneven_mixture", defArgs s_uneven_mixture, defBody s_uneven_mixture, defScope s_uneven_mixture, [], []⟩) rfl
  have bd : Binds K fd [] [] := FunD.bindsN F fun _ _ _ _ _ _ us hl => match us, hl with | [], _ => rfl
  refine ⟨fd, fn_d (wb := wb_uneven_mixture K) F sc_uneven_mixture (fun cdv A outer s H E hr tk => ?_) (pure_uneven_mixture T.tp), ⟨fun _ => T.glo 47 rfl, F.kp, bd⟩⟩
  have h := (show PDSs (defX P w K mg base [] "uneven_mixture" (defScope s_uneven_mixture) (He.fAd K ("uneven_mixture", none)) cdv A outer s H E) (fun cls d _ H => E cls d H) (defBody s_uneven_mixture) _ from (pds_one (pds_ret (pd_make (T.mkc 24 rfl) F_MixtureX_initX (hr.mono (by decide)) tk (by rfl) (T.glo 14 rfl) O_MixtureX_initX.bd (pda_cons pd_int (pda_cons (pd_tup (pda_cons (pd_tup (pda_cons pd_int (pda_cons pd_int pda_nil))) pda_nil)) (pda_cons (pd_tup (pda_cons (pd_tup (pda_cons pd_int (pda_cons pd_int pda_nil))) (pda_cons (pd_tup (pda_cons pd_int (pda_cons pd_int pda_nil))) (pda_cons (pd_tup (pda_cons pd_int (pda_cons pd_int pda_nil))) pda_nil)))) pda_nil)))))))
  exact h
theorem ok_law_bin {P : Program} {w : World} {K : PySem.W.Frag} {mg : Str → Option Value} {base : Heap} (T : TX K mg) : OkF P w K mg base 1 "_law_bin" (He.fAd K ("_law_bin", none)) ["script", "turn"] (sp_law_bin K) := by
  obtain ⟨fd, F⟩ := T.says.def_ 24 (d := ⟨("_law_bin", none), "_law_bin", "_law_bin", defArgs s_law_bin, defBody s_law_bin, defScope s_law_bin, [], []⟩) rfl
  have bd : Binds K fd ["script", "turn"] [] := FunD.bindsN F fun _ _ _ _ _ _ us hl => match us, hl with | [_, _], _ => rfl
  refine ⟨fd, fn_d (wb := wb_law_bin K) F sc_law_bin (fun cdv A outer s H E hr tk => ?_) (pure_law_bin T.tp), ⟨fun _ => T.glo 48 rfl, F.kp, bd⟩⟩
  have h := (show PDSs (defX P w K mg base ["script", "turn", "state", "each", "own"] "_law_bin" (defScope s_law_bin) (He.fAd K ("_law_bin", none)) cdv A outer s H E) (fun cls d _ H => E cls d H) (defBody s_law_bin) _ from (pds_cons (pds_set (i := 2) sc_law_bin.nd (by rfl) (by first | exact .inl rfl | exact .inr rfl) (pd_op op_addX opl_add pd_int (pd_op op_mulXX opl_mul pd_int (pd_var (pv 1)))))
      (pds_cons (pds_forL (passes_of (by rfl)) (by rfl) (pd_slice (pd_var (pv 0)) pdo_none (pdo_some pd_int)) (pdg_name (i := 3) sc_law_bin.nd (by rfl) (by first | exact .inl rfl | exact .inr rfl)) (pds_one (pds_set (i := 2) sc_law_bin.nd (by rfl) (by first | exact .inl rfl | exact .inr rfl) (pd_op op_mod (opl_rI fun _ _ _ _ => mk_int) (pd_callT call_int1 calll_int (by rfl) (T.free 1 rfl) (by rfl) (pda_cons (pd_op op_addX opl_add (pd_op op_addX opl_add (pd_op op_mulXX opl_mul (pd_var (pv 2)) pd_int) (pd_op op_mulXX opl_mul (pd_callT call_int1 calll_int (by rfl) (T.free 1 rfl) (by rfl) (pda_cons (pd_var (pv 3)) pda_nil)) pd_int)) (pd_var (pv 1))) pda_nil)) pd_int))))
      (pds_cons (pds_set (i := 4) sc_law_bin.nd (by rfl) (by first | exact .inl rfl | exact .inr rfl) (pd_if (pdt_cmp op_lt (opl_rI0 fun _ _ _ _ => mk_bl) (pd_var (pv 1)) (pd_callB call_len calll_len (by rfl) (T.free 4 rfl) (by rfl) (pda_cons (pd_var (pv 0)) pda_nil)) (nomark _)) (pd_callT call_int1 calll_int (by rfl) (T.free 1 rfl) (by rfl) (pda_cons (pd_ix ix_seq opl_ix (pd_var (pv 0)) (pd_var (pv 1))) pda_nil)) (pd_var (pv 2))))
      (pds_one (pds_ret (pd_lstC (pda_cons (pd_if (pdt_w (pdw_or (pdt_cmp op_lt (opl_rI0 fun _ _ _ _ => mk_bl) (pd_var (pv 4)) pd_int (nomark _)) (pdw_or1 (pdt_cmp op_ge (opl_rI0 fun _ _ _ _ => mk_bl) (pd_var (pv 4)) (pd_op op_pow (opl_rI fun _ _ _ _ => mk_int) pd_int pd_int) (nomark _))))) (pd_callB call_abs calll_abs (by rfl) (T.free 25 rfl) (by rfl) (pda_cons (pd_var (pv 4)) pda_nil)) pd_int) (pda_cons (pd_op op_mod (opl_rI fun _ _ _ _ => mk_int) (pd_callT call_int1 calll_int (by rfl) (T.free 1 rfl) (by rfl) (pda_cons (pd_op op_addX opl_add (pd_var (pv 2)) (pd_op op_mulXX opl_mul (pd_var (pv 4)) pd_int)) pda_nil)) pd_int) (pda_cons pd_int pda_nil))))))))))
  exact h
theorem ok_law_nip {P : Program} {w : World} {K : PySem.W.Frag} {mg : Str → Option Value} {base : Heap} (T : TX K mg) : OkF P w K mg base 1 "_law_nip" (He.fAd K ("_law_nip", none)) ["bin_here", "size"] (sp_law_nip K) := by
  obtain ⟨fd, F⟩ := T.says.def_ 25 (d := ⟨("_law_nip", none), "_law_nip", "_law_nip", defArgs s_law_nip, defBody s_law_nip, defScope s_law_nip, [], []⟩) rfl
  have bd : Binds K fd ["bin_here", "size"] [] := FunD.bindsN F fun _ _ _ _ _ _ us hl => match us, hl with | [_, _], _ => rfl
  refine ⟨fd, fn_d (wb := wb_law_nip K) F sc_law_nip (fun cdv A outer s H E hr tk => ?_) (pure_law_nip T.tp), ⟨fun _ => T.glo 49 rfl, F.kp, bd⟩⟩
  have h := (show PDSs (defX P w K mg base ["bin_here", "size", "digit"] "_law_nip" (defScope s_law_nip) (He.fAd K ("_law_nip", none)) cdv A outer s H E) (fun cls d _ H => E cls d H) (defBody s_law_nip) _ from (pds_cons (pds_asg (pd_op op_addX opl_add (pd_ix ix_seq opl_ix (pd_var (pv 0)) pd_int) pd_int) (pdg_sub set_list setl_list (pd_var (pv 0)) pd_int))
      (pds_cons (pds_if (pdt_cmp op_gt (opl_rI0 fun _ _ _ _ => mk_bl) (pd_ix ix_seq opl_ix (pd_var (pv 0)) pd_int) pd_int (nomark _)) (pds_cons (pds_asg (pd_callB call_divmod calll_divmod (by rfl) (T.free 26 rfl) (by rfl) (pda_cons (pd_ix ix_seq opl_ix (pd_var (pv 0)) pd_int) (pda_cons (pd_var (pv 1)) pda_nil))) (pdg_tup (by rfl) (pdgs_cons (pdg_sub set_list setl_list (pd_var (pv 0)) pd_int) (pdgs_cons (pdg_name (i := 2) sc_law_nip.nd (by rfl) (by first | exact .inl rfl | exact .inr rfl)) pdgs_nil))))
      (pds_one (pds_ret (pd_var (pv 2))))) pds_nil)
      (pds_cons (pds_asg (pd_op op_mod (opl_rI fun _ _ _ _ => mk_int) (pd_callT call_int1 calll_int (by rfl) (T.free 1 rfl) (by rfl) (pda_cons (pd_op op_addX opl_add (pd_op op_addX opl_add (pd_op op_mulXX opl_mul (pd_ix ix_seq opl_ix (pd_var (pv 0)) pd_int) pd_int) (pd_op op_mulXX opl_mul pd_int (pd_ix ix_seq opl_ix (pd_var (pv 0)) pd_int))) pd_int) pda_nil)) pd_int) (pdg_sub set_list setl_list (pd_var (pv 0)) pd_int))
      (pds_one (pds_ret (pd_op op_mod (opl_rI fun _ _ _ _ => mk_int) (pd_callT call_int1 calll_int (by rfl) (T.free 1 rfl) (by rfl) (pda_cons (pd_op op_fdiv (opl_rI fun _ _ _ _ => mk_int) (pd_ix ix_seq opl_ix (pd_var (pv 0)) pd_int) pd_int) pda_nil)) (pd_var (pv 1)))))))))
  exact h
theorem ok_law_led {P : Program} {w : World} {K : PySem.W.Frag} {mg : Str → Option Value} {base : Heap} (T : TX K mg) : OkF P w K mg base 6 "_law_led" (He.fAd K ("_law_led", none)) ["bin_here", "here", "many"] (sp_law_led K) := by
  obtain ⟨fd_PotX_initX, F_PotX_initX, O_PotX_initX⟩ := ok_PotX_initX (P := P) (w := w) (base := base) T
  obtain ⟨fd_Pot_put, F_Pot_put, O_Pot_put⟩ := ok_Pot_put (P := P) (w := w) (base := base) T
  obtain ⟨fd_law_nip, F_law_nip, O_law_nip⟩ := ok_law_nip (P := P) (w := w) (base := base) T
  obtain ⟨fd_Pot_meet, F_Pot_meet, O_Pot_meet⟩ := ok_Pot_meet (P := P) (w := w) (base := base) T
  obtain ⟨fd, F⟩ := T.says.def_ 26 (d := ⟨("_law_led", none), "_law_led", "_law_led", defArgs s_law_led, defBody s_law_led, defScope s_law_led, [], []⟩) rfl
  have bd : Binds K fd ["bin_here", "here", "many"] [] := FunD.bindsN F fun _ _ _ _ _ _ us hl => match us, hl with | [_, _, _], _ => rfl
  refine ⟨fd, fn_d (wb := wb_law_led K) F sc_law_led (fun cdv A outer s H E hr tk => ?_) (pure_law_led T.tp), ⟨fun _ => T.glo 50 rfl, F.kp, bd⟩⟩
  have h := (show PDSs (defX P w K mg base ["bin_here", "here", "many", "pot_here", "turn", "left", "a"] "_law_led" (defScope s_law_led) (He.fAd K ("_law_led", none)) cdv A outer s H E) (fun cls d _ H => E cls d H) (defBody s_law_led) _ from (pds_cons (pds_set (i := 3) sc_law_led.nd (by rfl) (by first | exact .inl rfl | exact .inr rfl) (pd_make (T.mkc 27 rfl) F_PotX_initX (hr.mono (by decide)) tk (by rfl) (T.glo 28 rfl) O_PotX_initX.bd (pda_cons (pd_var (pv 1)) pda_nil)))
      (pds_cons (pds_forR1 (passes_of (by rfl)) (by rfl) (by rfl) (T.free 30 rfl) (pda_cons (pd_var (pv 2)) pda_nil) (pdg_name (i := 4) sc_law_led.nd (by rfl) (by first | exact .inl rfl | exact .inr rfl)) (pds_one (pds_expr (pd_meth (T.cl 18 rfl) (T.mtc 29 rfl) F_Pot_put (hr.mono (by decide)) tk O_Pot_put.bd (pd_var (pv 3)) (pda_cons pd_int pda_nil)))))
      (pds_cons (pds_forR3 (passes_of (by rfl)) (by rfl) (by rfl) (T.free 30 rfl) (pda_cons (pd_var (pv 2)) (pda_cons pd_int (pda_cons (pd_un un_neg unl_neg pd_int) pda_nil))) (pdg_name (i := 5) sc_law_led.nd (by rfl) (by first | exact .inl rfl | exact .inr rfl)) (pds_cons (pds_set (i := 6) sc_law_led.nd (by rfl) (by first | exact .inl rfl | exact .inr rfl) (pd_call F_law_nip (hr.mono (by decide)) tk (by rfl) (O_law_nip.mg (by decide)) O_law_nip.kp O_law_nip.bd (pda_cons (pd_var (pv 0)) (pda_cons (pd_op op_sub (opl_rI0 fun _ _ _ _ => mk_int) (pd_var (pv 5)) pd_int) pda_nil))))
      (pds_one (pds_expr (pd_meth (T.cl 18 rfl) (T.mtc 31 rfl) F_Pot_meet (hr.mono (by decide)) tk O_Pot_meet.bd (pd_var (pv 3)) (pda_cons (pd_var (pv 6)) (pda_cons (pd_op op_addX opl_add (pd_op op_addX opl_add (pd_var (pv 6)) pd_int) (pd_call F_law_nip (hr.mono (by decide)) tk (by rfl) (O_law_nip.mg (by decide)) O_law_nip.kp O_law_nip.bd (pda_cons (pd_var (pv 0)) (pda_cons (pd_op op_sub (opl_rI0 fun _ _ _ _ => mk_int) (pd_op op_sub (opl_rI0 fun _ _ _ _ => mk_int) (pd_var (pv 5)) pd_int) (pd_var (pv 6))) pda_nil)))) pda_nil)))))))
      (pds_one (pds_ret (pd_var (pv 3))))))))
  exact h
theorem ok_law_right {P : Program} {w : World} {K : PySem.W.Frag} {mg : Str → Option Value} {base : Heap} (T : TX K mg) : OkF P w K mg base 8 "_law_right" (He.fAd K ("_law_right", none)) ["bin_here"] (sp_law_right K) := by
  obtain ⟨fd_law_nip, F_law_nip, O_law_nip⟩ := ok_law_nip (P := P) (w := w) (base := base) T
  obtain ⟨fd_law_led, F_law_led, O_law_led⟩ := ok_law_led (P := P) (w := w) (base := base) T
  obtain ⟨fd_pairs_mixture, F_pairs_mixture, O_pairs_mixture⟩ := ok_pairs_mixture (P := P) (w := w) (base := base) T
  obtain ⟨fd_PotX_lenX, F_PotX_lenX, O_PotX_lenX⟩ := ok_PotX_lenX (P := P) (w := w) (base := base) T
  obtain ⟨fd_Pot_undo, F_Pot_undo, O_Pot_undo⟩ := ok_Pot_undo (P := P) (w := w) (base := base) T
  obtain ⟨fd_uneven_mixture, F_uneven_mixture, O_uneven_mixture⟩ := ok_uneven_mixture (P := P) (w := w) (base := base) T
  obtain ⟨fd_MixtureX_initX, F_MixtureX_initX, O_MixtureX_initX⟩ := ok_MixtureX_initX (P := P) (w := w) (base := base) T
  obtain ⟨fd, F⟩ := T.says.def_ 27 (d := ⟨("_law_right", none), "_law_right", "_law_right", defArgs s_law_right, defBody s_law_right, defScope s_law_right, [], []⟩) rfl
  have bd : Binds K fd ["bin_here"] [] := FunD.bindsN F fun _ _ _ _ _ _ us hl => match us, hl with | [_], _ => rfl
  refine ⟨fd, fn_d (wb := wb_law_right K) F sc_law_right (fun cdv A outer s H E hr tk => ?_) (pure_law_right T.tp), ⟨fun _ => T.glo 51 rfl, F.kp, bd⟩⟩
  have h := (show PDSs (defX P w K mg base ["bin_here", "many", "big", "pot_here", "turn", "uneven", "lone", "third"] "_law_right" (defScope s_law_right) (He.fAd K ("_law_right", none)) cdv A outer s H E) (fun cls d _ H => E cls d H) (defBody s_law_right) _ from (pds_cons (PS.imp (ps_par (i := 1) (j := 2) (by rfl) sc_law_right.nd (by rfl) (by rfl) (by decide) (by rfl) (by rfl) (pda_cons (pd_op op_addX opl_add pd_int (pd_call F_law_nip (hr.mono (by decide)) tk (by rfl) (O_law_nip.mg (by decide)) O_law_nip.kp O_law_nip.bd (pda_cons (pd_var (pv 0)) (pda_cons pd_int pda_nil)))) (pda_cons (pd_call F_law_nip (hr.mono (by decide)) tk (by rfl) (O_law_nip.mg (by decide)) O_law_nip.kp O_law_nip.bd (pda_cons (pd_var (pv 0)) (pda_cons (pd_op op_addX opl_add (pd_op op_pow (opl_rI fun _ _ _ _ => mk_int) pd_int pd_int) pd_int) pda_nil))) pda_nil)) (by rfl)) fun _ _ _ h => wpar_imp h)
      (pds_cons (pds_set (i := 3) sc_law_right.nd (by rfl) (by first | exact .inl rfl | exact .inr rfl) (pd_call F_law_led (hr.mono (by decide)) tk (by rfl) (O_law_led.mg (by decide)) O_law_led.kp O_law_led.bd (pda_cons (pd_var (pv 0)) (pda_cons (pd_call0 F_pairs_mixture (hr.mono (by decide)) tk (by rfl) (O_pairs_mixture.mg (by decide)) O_pairs_mixture.kp O_pairs_mixture.bd (by rfl)) (pda_cons (pd_var (pv 1)) pda_nil)))))
      (pds_cons (pds_if (pdt_cmp (op_neD (hu64 hr)) opl_ne (pd_lst (pda_cons (pd_fld (f := "given") (pd_var (pv 3))) (pda_cons (pd_lenO (lenC_of (T.mtc 32 rfl) (T.no 33 rfl)) F_PotX_lenX (by rfl) (hr.mono (by decide)) tk O_PotX_lenX.bd (by rfl) (T.free 4 rfl) (pda_cons (pd_var (pv 3)) pda_nil)) (pda_cons (pd_fld (f := "amounts") (pd_var (pv 3))) pda_nil)))) (pd_lst (pda_cons (pd_op op_fdiv (opl_rI fun _ _ _ _ => mk_int) (pd_var (pv 1)) pd_int) (pda_cons pd_int (pda_cons (pd_tup (pda_cons (pd_var (pv 1)) pda_nil)) pda_nil)))) (nomark _)) (pds_one (pds_ret pd_bl)) pds_nil)
      (pds_cons (pds_if (pdt_cmp (op_neD (hu64 hr)) opl_ne (pd_fld (f := "kinds") (pd_var (pv 3))) (pd_tup (pda_cons (pd_callT call_int1 calll_int (by rfl) (T.free 1 rfl) (by rfl) (pda_cons (pd_cmp (op_eqD (hu64 hr)) opl_eq (pd_op op_mod (opl_rI fun _ _ _ _ => mk_int) (pd_var (pv 1)) pd_int) pd_int (nomark _)) pda_nil)) pda_nil)) (nomark _)) (pds_one (pds_ret pd_bl)) pds_nil)
      (pds_cons (pds_forR1 (passes_of (by rfl)) (by rfl) (by rfl) (T.free 30 rfl) (pda_cons (pd_op op_sub (opl_rI0 fun _ _ _ _ => mk_int) (pd_op op_mulXX opl_mul pd_int (pd_var (pv 1))) pd_int) pda_nil) (pdg_name (i := 4) sc_law_right.nd (by rfl) (by first | exact .inl rfl | exact .inr rfl)) (pds_one (pds_if (pdt_cmp op_notN opl_notN (pd_meth0 (T.cl 18 rfl) (T.mtc 34 rfl) F_Pot_undo (hr.mono (by decide)) tk O_Pot_undo.bd (pd_var (pv 3))) pd_non (nomark _)) (pds_one (pds_ret pd_bl)) pds_nil)))
      (pds_cons (pds_if (pdt_w (pdw_or (pdt_cmp (op_neD (hu64 hr)) opl_ne (pd_lst (pda_cons (pd_fld (f := "given") (pd_var (pv 3))) (pda_cons (pd_fld (f := "kinds") (pd_var (pv 3))) (pda_cons (pd_fld (f := "amounts") (pd_var (pv 3))) pda_nil)))) (pd_lst (pda_cons pd_int (pda_cons (pd_tup pda_nil) (pda_cons (pd_tup (pda_cons pd_int pda_nil)) pda_nil)))) (nomark _)) (pdw_or1 (pdt_truO (lenC_of (T.mtc 32 rfl) (T.no 33 rfl)) F_PotX_lenX (by rfl) (hr.mono (by decide)) tk O_PotX_lenX.bd (pd_var (pv 3)))))) (pds_one (pds_ret pd_bl)) pds_nil)
      (pds_cons (pds_set (i := 5) sc_law_right.nd (by rfl) (by first | exact .inl rfl | exact .inr rfl) (pd_lst (pda_cons (pd_fld (f := "given") (pd_call F_law_led (hr.mono (by decide)) tk (by rfl) (O_law_led.mg (by decide)) O_law_led.kp O_law_led.bd (pda_cons (pd_var (pv 0)) (pda_cons (pd_call0 F_uneven_mixture (hr.mono (by decide)) tk (by rfl) (O_uneven_mixture.mg (by decide)) O_uneven_mixture.kp O_uneven_mixture.bd (by rfl)) (pda_cons pd_int pda_nil))))) (pda_cons (pd_fld (f := "given") (pd_call F_law_led (hr.mono (by decide)) tk (by rfl) (O_law_led.mg (by decide)) O_law_led.kp O_law_led.bd (pda_cons (pd_var (pv 0)) (pda_cons (pd_call0 F_uneven_mixture (hr.mono (by decide)) tk (by rfl) (O_uneven_mixture.mg (by decide)) O_uneven_mixture.kp O_uneven_mixture.bd (by rfl)) (pda_cons pd_int pda_nil))))) pda_nil))))
      (pds_cons (pds_if (pdt_cmp (op_notInD (hu65 hr)) opl_notInD (pd_var (pv 5)) (pd_lst (pda_cons (pd_lst (pda_cons pd_int (pda_cons pd_int pda_nil))) (pda_cons (pd_lst (pda_cons pd_int (pda_cons pd_int pda_nil))) pda_nil))) (by rfl)) (pds_one (pds_ret pd_bl)) pds_nil)
      (pds_cons (pds_set (i := 6) sc_law_right.nd (by rfl) (by first | exact .inl rfl | exact .inr rfl) (pd_make (T.mkc 24 rfl) F_MixtureX_initX (hr.mono (by decide)) tk (by rfl) (T.glo 14 rfl) O_MixtureX_initX.bd (pda_cons pd_int (pda_cons (pd_tup (pda_cons (pd_tup (pda_cons pd_int (pda_cons pd_int pda_nil))) pda_nil)) (pda_cons (pd_tup (pda_cons (pd_tup (pda_cons pd_int (pda_cons (pd_var (pv 2)) pda_nil))) pda_nil)) pda_nil)))))
      (pds_cons (pds_if (pdt_cmp (op_neD (hu64 hr)) opl_ne (pd_fld (f := "given") (pd_call F_law_led (hr.mono (by decide)) tk (by rfl) (O_law_led.mg (by decide)) O_law_led.kp O_law_led.bd (pda_cons (pd_var (pv 0)) (pda_cons (pd_var (pv 6)) (pda_cons (pd_var (pv 1)) pda_nil))))) (pd_op op_addX opl_add (pd_op op_mulXX opl_mul pd_int (pd_var (pv 1))) (pd_op op_mulXX opl_mul (pd_var (pv 2)) (pd_op op_sub (opl_rI0 fun _ _ _ _ => mk_int) (pd_var (pv 1)) pd_int))) (nomark _)) (pds_one (pds_ret pd_bl)) pds_nil)
      (pds_cons (pds_set (i := 7) sc_law_right.nd (by rfl) (by first | exact .inl rfl | exact .inr rfl) (pd_make (T.mkc 24 rfl) F_MixtureX_initX (hr.mono (by decide)) tk (by rfl) (T.glo 14 rfl) O_MixtureX_initX.bd (pda_cons pd_int (pda_cons (pd_tup (pda_cons (pd_tup (pda_cons pd_int (pda_cons pd_int pda_nil))) pda_nil)) (pda_cons (pd_tup (pda_cons (pd_tup (pda_cons pd_int (pda_cons pd_int pda_nil))) (pda_cons (pd_tup (pda_cons pd_int (pda_cons pd_int pda_nil))) (pda_cons (pd_tup (pda_cons pd_int (pda_cons pd_int pda_nil))) (pda_cons (pd_tup (pda_cons pd_int (pda_cons pd_int pda_nil))) (pda_cons (pd_tup (pda_cons pd_int (pda_cons (pd_var (pv 2)) pda_nil))) (pda_cons (pd_tup (pda_cons pd_int (pda_cons (pd_var (pv 2)) pda_nil))) pda_nil))))))) pda_nil)))))
      (pds_one (pds_ret (pd_cmp (op_eqD (hu64 hr)) opl_eq (pd_fld (f := "given") (pd_call F_law_led (hr.mono (by decide)) tk (by rfl) (O_law_led.mg (by decide)) O_law_led.kp O_law_led.bd (pda_cons (pd_var (pv 0)) (pda_cons (pd_var (pv 7)) (pda_cons (pd_var (pv 1)) pda_nil))))) (pd_op op_mulXX opl_mul (pd_var (pv 2)) (pd_op op_fdiv (opl_rI fun _ _ _ _ => mk_int) (pd_var (pv 1)) pd_int)) (nomark _))))))))))))))))
  exact h
theorem ok_law {P : Program} {w : World} {K : PySem.W.Frag} {mg : Str → Option Value} {base : Heap} (T : TX K mg) {fd : FuncData} (F : FunD K "law" "law" (defArgs s_law) (defBody s_law) (defScope s_law) [] [] (He.fAd K ("law", none)) fd) : FnD P w K mg base 9 (He.fAd K ("law", none)) fd ["script"] (sp_law K) := by
  obtain ⟨fd_law_right, F_law_right, O_law_right⟩ := ok_law_right (P := P) (w := w) (base := base) T
  obtain ⟨fd_law_bin, F_law_bin, O_law_bin⟩ := ok_law_bin (P := P) (w := w) (base := base) T
  refine fn_d (wb := wb_law K) F sc_law (fun cdv A outer s H E hr tk => ?_) (pure_law T.tp)
  have h := (show PDSs (defX P w K mg base ["script", "turn"] "law" (defScope s_law) (He.fAd K ("law", none)) cdv A outer s H E) (fun cls d _ H => E cls d H) (defBody s_law) _ from (pds_one (pds_ret (pd_callB (cr_all (by rfl)) calll_all (by rfl) (T.free 35 rfl) (by rfl) (pda_cons (pd_lcR1 (by rfl) sc_law.nd (by rfl) (T.free 30 rfl) (pda_cons (pd_callB (call_max2 (by rfl)) (calll_2I fun _ _ _ _ => mk_int) (by rfl) (T.free 8 rfl) (by rfl) (pda_cons pd_int (pda_cons (pd_callB (call_min2 (by rfl)) (calll_2I fun _ _ _ _ => mk_int) (by rfl) (T.free 9 rfl) (by rfl) (pda_cons (pd_callB call_len calll_len (by rfl) (T.free 4 rfl) (by rfl) (pda_cons (pd_var (pv 0)) pda_nil)) (pda_cons pd_int pda_nil))) pda_nil))) pda_nil) (lcOk0 (own := [("turn", 1)]) (blkOk_by (by kernel_rfl)) (tgt1 (by decide)) (fun _ _ _ _ _ => pg_name (i := 1) sc_law.nd (by rfl) (by first | exact .inl rfl | exact .inr rfl)) (fun _ _ _ _ _ => (pd_call F_law_right (hr.mono (by decide)) takes0 (by rfl) (O_law_right.mg (by decide)) O_law_right.kp O_law_right.bd (pda_cons (pd_call F_law_bin (hr.mono (by decide)) takes0 (by rfl) (O_law_bin.mg (by decide)) O_law_bin.kp O_law_bin.bd (pda_cons (pd_var (pv 0)) (pda_cons (pd_var (pv 1)) pda_nil))) pda_nil))))) pda_nil)))))
  exact h
theorem walk_w {l : PySem.W.OpenLaw} {n k : Nat} {q : Program} {loose : List Str} {XP : (Str → Option Value) → Heap → Prop} {YP : World → Heap → Prop} {d : DefRec} {CX : World → CXT} {x : Str}
    (hn : l.most = some n) (hn2 : n ≤ sizeLine) (hdf : d.params.defaults = []) (hr : Room k callerA)
    (F : ∀ (w : World) (mg : Str → Option Value) (fa : Addr) (h : Heap), YP w h → h.Ns mainGlobals mg → mg d.name = some (.ref fa) →
      ∃ (K : PySem.W.Frag) (fd : FuncData) (sp : Sp), K.In h ∧ (∀ (s : Shared) (u : Value), BindsTo s fd ⟨[u], []⟩ [(x, u)]) ∧ (∀ (H : Hp) (a : Addr) (ns : List Int), ns.length ≤ n → Only H → SqL K H a (ns.map V.int) → sp [.ref a] H (fun v _ => v = .bl true) fun _ _ _ => False) ∧
        ∀ base : Heap, K.In base → base.Ns mainGlobals mg → FnOk l.prog w K mg base (CX w) k fa fd [x] sp)
    (hCX : ∀ (w : World) (H : Hp) (s : Shared) (e : Value) (s' : Shared), CX w [] H s (fun _ _ _ => False) e s' → False) : PySem.W.WalkO q loose XP YP l.row.toRowW d [] (fun f vs => PySem.call f vs) := by
  refine Att.attach_call hn hdf fun w s₀ s₁ mg mb fa o pm cd doc a vs ns G Y ho hd hcd hmg hobj hints hlen hg => ?_
  obtain ⟨K, fd, sp, KX, hb, hsp, hF⟩ := F w mg fa _ Y G.T.g hmg
  exact law_call KX G.T.g G.T.b G.T.builtins G.T.nolimit hg hobj hints (Nat.le_trans hlen hn2) hr hF hb (fun H hO hS => hsp H a ns hlen hO hS) fun H e s' => hCX w H s₁ e s'
theorem law_sp {K : PySem.W.Frag} (hN : noLst K = true) {H : Hp} {a : Addr} {ns : List Int} (hl : ns.length ≤ 63) (hO : Only H) (hS : SqL K H a (ns.map V.int)) : liftSp 1 (sp_law K) [.ref a] H (fun v _ => v = .bl true) fun _ _ _ => False := by
  have key : ∃ o, H a = some (.frz o (.lst (ns.map V.int))) := by
    rcases hS with (h | ⟨o, h⟩) | ⟨o, its, n, h1, h2, _⟩
    · rcases hO a with e | ⟨o, xs, e⟩ <;> rw [h] at e <;> cases e
    · exact ⟨o, h⟩
    · exact (noLst_ok hN h1 h2).elim
  obtain ⟨o, e⟩ := key
  have nf : ∀ b, ¬ On (fun _ => False) ([] : Sto) b := fun b z => Or.elim z (fun z => by cases z) id
  refine ⟨fun _ => False, [.scr ns], [], fun d _ => d = .bl true, fun _ _ => False, ⟨List.nodup_nil, fun q hq => (by cases hq), fun b z => False.elim z⟩, .cons ?_ .nil, rfl, ⟨ns, rfl, hl, fun _ => rfl⟩, fun d st' v H' k t dn => ?_, fun _ _ _ _ _ k _ _ => False.elim k⟩
  · simp only [Dn]
    exact ⟨a, o, rfl, e, nf a⟩
  · subst k
    exact dn_bl dn
theorem facts_of {P : Program} {w : World} {K : PySem.W.Frag} {h : Heap} {mg : Str → Option Value} {f : Addr} (X : K.In h) (G : h.Ns mainGlobals mg) (hfa : mg ("law" : Str) = some (.ref f)) (c : He.SaysD fa fn K) (e : ex K = true) :
    ∃ fd : FuncData, (∀ (s : Shared) (v : Value), BindsTo s fd ⟨[v], []⟩ [("script", v)]) ∧ ∀ base : Heap, K.In base → base.Ns mainGlobals mg → FnOk P w K mg base (L2.CX P w) 9 f fd ["script"] (liftSp 1 (sp_law K)) := by
  have T := tx_of X G c e
  obtain ⟨fd, F⟩ := c.def_ 28 rfl
  have ef : f = He.fAd K ("law", none) := by
    have q := hfa.symm.trans (T.glo 52 rfl)
    cases q
    rfl
  subst ef
  have b := FunD.bindsA (ps := ["script"]) F fun _ _ _ _ _ _ us hl => match us, hl with | [_], _ => rfl
  refine ⟨fd, fun s v => b s [v] rfl, fun base _ _ => ?_⟩
  exact ok_law (P := P) (w := w) (base := base) T F
end K82
open PySem PySem.W PySem.Calls PyProof.Rows
theorem PySem.Challenge.cw_givenonce_k82_known_pots_holds : PySem.Challenge.rw_givenonce_k82_known_pots.Holds := by
  w_on; o_law
  refine HandSHeadRun.head_any (r := OpenLaw.row PySem.Challenge.rw_givenonce_k82_known_pots) (q := view (OpenLaw.row PySem.Challenge.rw_givenonce_k82_known_pots).prog [45]) (H := K82.hk) (ob := K82.ob) (M := 9000) (loose := K82.loose) (d := HandSHeadRun.topDef (OpenLaw.row PySem.Challenge.rw_givenonce_k82_known_pots).prog 45) (kwd := []) K82.ob_eq
    (by kernel_rfl) (fun s => by kernel_rfl) K82.run (by kernel_rfl) (by kernel_rfl) (by kernel_rfl) (by rfl) (by first | assumption | decide +kernel) (by decide +kernel) ⟨rfl, rfl, rfl, rfl, rfl, by decide +kernel⟩ ?hw ?hc
  case hw => w_witness2
  case hc =>
    refine K82.walk_w (l := PySem.Challenge.rw_givenonce_k82_known_pots) (n := 63) (k := 9) (x := "script") (CX := fun w => L2.CX (PySem.Challenge.rw_givenonce_k82_known_pots).prog w) rfl (by decide) (by kernel_rfl) ⟨rfl, by decide, by decide⟩ ?F (fun w H s e s' z => by
      obtain ⟨_, _, _, _, _, _, _, _, _, _, _, _, z⟩ := z
      exact z)
    intro w mg fa h Y G hmg0
    obtain ⟨K, KX, c⟩ := Y
    have hmg : mg ("law" : PySem.Str) = some (.ref fa) := by
      have e : (HandSHeadRun.topDef (OpenLaw.row PySem.Challenge.rw_givenonce_k82_known_pots).prog 45).name = ("law" : PySem.Str) := by kernel_rfl
      rw [← e]
      exact hmg0
    obtain ⟨fd, hb, hF⟩ := K82.facts_of (P := (PySem.Challenge.rw_givenonce_k82_known_pots).prog) (w := w) KX G hmg c.t.d c.more
    exact ⟨K, fd, DL.liftSp 1 (K82.sp_law K), KX, hb, fun H a ns hl hO hS => K82.law_sp (Bool.and_eq_true_iff.mp c.more).1 hl hO hS, hF⟩
