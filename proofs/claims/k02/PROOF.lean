import PyProof.Rows.All
import Wide.All
import OpenK.AllK
import Wide.FinOn
import PyProof.ReprRoads
import HandS.ForMost
import HandS.Exc
import HandS.ExcOwn
import HandS.WordsExc
import HandS.Walk
import HandS.Wide
import HandS.IsInst
import HandS.Strs
import HandS.Flow
import HandS.TupAny
import HandS.Style
import HandS.SortInts
import HandS.WideBits
import PyProof.Rows.RuleB_pow
import HandS.SetFor
import HandS.Defaults
import HandS.HeadHook1
import HandS.HeadHook2
import HandS.Head0
import HandS.Head1
import HandS.Head2
import HandS.HeadEnd
import PySem.Challenge.RW_breadcrumbs_k02_walks_and_trails_of_site
import KE.KStateDown
import Lean
import HandS.Ends
set_option Elab.async false
set_option linter.all false
set_option maxRecDepth 100000
set_option maxHeartbeats 4000000
/-! DL: Python's values as trees (D), the things that change as named cells (R); what a piece of code does as a transformer over these. Own work over HandS. -/
namespace DL
open PySem L2

/-- a value: data are trees; ob a stands for the thing at a -/
inductive D where
  | non | bl (b : Bool) | int (i : Int) | str (x : Str) | ty (n : String) | ob (a : Addr)
  | dct (kvs : List (Int × Int)) | scr (ns : List Int)
  | lst (xs : List D) | tup (xs : List D)

/-- a thing that may change -/
inductive Cl where
  | lst (ds : List D) | dct (kvs : List (Int × Int)) | ins (C dx : Addr) (fs : List (Str × D))

abbrev R := List (Addr × Cl)
abbrev G := List (Option D)
def adr (r : R) : List Addr := r.map (·.1)
/-- what data must not lean on -/
def Av (N : Addr → Prop) (r : R) (a : Addr) : Prop := N a ∨ a ∈ adr r

def kvV (kvs : List (Int × Int)) : List (Key × V) := kvs.map fun p => (Sum.inl p.1, V.int p.2)

mutual
def Rep (N : Addr → Prop) (H : Hp) : D → V → Prop
  | .non, v => v = .non
  | .bl b, v => v = .bl b
  | .int i, v => v = .int i
  | .str x, v => v = .str x
  | .ty n, v => v = .ty n
  | .ob a, v => v = .ref a
  | .dct kvs, v => ∃ a, v = .ref a ∧ ¬ N a ∧ H a = some (.dK (kvV kvs))
  | .scr ns, v => ∃ a, v = .ref a ∧ ¬ N a ∧ ∃ o, H a = some (.frz o (.lst (ns.map V.int)))
  | .lst xs, v => ∃ a vs, v = .ref a ∧ ¬ N a ∧ H a = some (.lst vs) ∧ RepL N H xs vs
  | .tup xs, v => ∃ a vs, v = .ref a ∧ ¬ N a ∧ H a = some (.tup vs) ∧ RepL N H xs vs
def RepL (N : Addr → Prop) (H : Hp) : List D → List V → Prop
  | [], vs => vs = []
  | d :: ds, vs => ∃ v ws, vs = v :: ws ∧ Rep N H d v ∧ RepL N H ds ws
end

/-- what stands outside N is kept -/
def Kp (N : Addr → Prop) (H : Hp) (N' : Addr → Prop) (H' : Hp) : Prop := ∀ b o, H b = some o → ¬ N b → H' b = some o ∧ ¬ N' b
def Kr (r : R) (H : Hp) (r' : R) (H' : Hp) : Prop := ∀ b o, H b = some o → b ∉ adr r → H' b = some o ∧ b ∉ adr r'

section
variable {N N' : Addr → Prop} {H H' H1 H2 : Hp} {r r' r1 r2 : R} {a : Addr} {vs : List V}
mutual
theorem Rep.kp (k : Kp N H N' H') : ∀ (d : D) (v : V), Rep N H d v → Rep N' H' d v
  | .non, _, h => by unfold Rep at h ⊢; exact h
  | .bl b, _, h => by unfold Rep at h ⊢; exact h
  | .int i, _, h => by unfold Rep at h ⊢; exact h
  | .str x, _, h => by unfold Rep at h ⊢; exact h
  | .ty n, _, h => by unfold Rep at h ⊢; exact h
  | .ob a, _, h => by unfold Rep at h ⊢; exact h
  | .dct kvs, _, h => by
    unfold Rep at h ⊢
    obtain ⟨a, e, n, h⟩ := h
    exact ⟨a, e, (k _ _ h n).2, (k _ _ h n).1⟩
  | .scr ns, _, h => by
    unfold Rep at h ⊢
    obtain ⟨a, e, n, o, h⟩ := h
    exact ⟨a, e, (k _ _ h n).2, o, (k _ _ h n).1⟩
  | .lst xs, _, h => by
    unfold Rep at h ⊢
    obtain ⟨a, vs, e, n, s, l⟩ := h
    exact ⟨a, vs, e, (k _ _ s n).2, (k _ _ s n).1, RepL.kp k xs vs l⟩
  | .tup xs, _, h => by
    unfold Rep at h ⊢
    obtain ⟨a, vs, e, n, s, l⟩ := h
    exact ⟨a, vs, e, (k _ _ s n).2, (k _ _ s n).1, RepL.kp k xs vs l⟩
theorem RepL.kp (k : Kp N H N' H') : ∀ (ds : List D) (vs : List V), RepL N H ds vs → RepL N' H' ds vs
  | [], _, h => by unfold RepL at h ⊢; exact h
  | d :: ds, _, h => by
    unfold RepL at h ⊢
    obtain ⟨v, ws, e, h1, h2⟩ := h
    exact ⟨v, ws, e, Rep.kp k d v h1, RepL.kp k ds ws h2⟩
end
theorem Kr.kp (k : Kr r H r' H') : Kp (Av N r) H (Av N r') H' := fun b o e n => by
  obtain ⟨h1, h2⟩ := k b o e fun z => n (.inr z)
  exact ⟨h1, fun z => z.elim (fun z => n (.inl z)) h2⟩
theorem Kr.refl (r : R) (H : Hp) : Kr r H r H := fun _ _ e n => ⟨e, n⟩
theorem Kr.trans (a : Kr r H r1 H1) (b : Kr r1 H1 r2 H2) : Kr r H r2 H2 := fun c o e n => let ⟨h1, h2⟩ := a c o e n; b c o h1 h2
theorem Rep.kr {d : D} {v : V} (k : Kr r H r' H') (h : Rep (Av N r) H d v) : Rep (Av N r') H' d v := Rep.kp k.kp d v h
theorem RepL.kr {ds : List D} (k : Kr r H r' H') (h : RepL (Av N r) H ds vs) : RepL (Av N r') H' ds vs := RepL.kp k.kp ds vs h
theorem RepL.length : ∀ {ds : List D} {vs : List V}, RepL N H ds vs → ds.length = vs.length
  | [], _, h => by unfold RepL at h; subst h; rfl
  | d :: ds, _, h => by
    unfold RepL at h
    obtain ⟨v, ws, rfl, _, h2⟩ := h
    simp [RepL.length h2]
theorem RepL.get : ∀ {ds : List D} {vs : List V} {i : Nat} {d : D}, RepL N H ds vs → ds[i]? = some d → ∃ v, vs[i]? = some v ∧ Rep N H d v
  | [], _, _, _, _, e => by simp at e
  | d :: ds, _, 0, x, h, e => by
    unfold RepL at h
    obtain ⟨v, ws, rfl, h1, h2⟩ := h
    simp at e; subst e
    exact ⟨v, rfl, h1⟩
  | d :: ds, _, i + 1, x, h, e => by
    unfold RepL at h
    obtain ⟨v, ws, rfl, h1, h2⟩ := h
    obtain ⟨u, h3, h4⟩ := RepL.get h2 (by simpa using e)
    exact ⟨u, by simpa using h3, h4⟩
theorem RepL.getV : ∀ {ds : List D} {vs : List V} {i : Nat} {v : V}, RepL N H ds vs → vs[i]? = some v → ∃ d, ds[i]? = some d ∧ Rep N H d v
  | [], _, _, _, h, e => by unfold RepL at h; subst h; simp at e
  | d :: ds, _, 0, x, h, e => by
    unfold RepL at h
    obtain ⟨v, ws, rfl, h1, h2⟩ := h
    simp at e; subst e
    exact ⟨d, rfl, h1⟩
  | d :: ds, _, i + 1, x, h, e => by
    unfold RepL at h
    obtain ⟨v, ws, rfl, h1, h2⟩ := h
    obtain ⟨u, h3, h4⟩ := RepL.getV h2 (by simpa using e)
    exact ⟨u, by simpa using h3, h4⟩
theorem RepL.append : ∀ {ds es : List D} {vs ws : List V}, RepL N H ds vs → RepL N H es ws → RepL N H (ds ++ es) (vs ++ ws)
  | [], _, _, _, h, g => by unfold RepL at h; subst h; exact g
  | d :: ds, es, _, ws, h, g => by
    unfold RepL at h
    obtain ⟨v, us, rfl, h1, h2⟩ := h
    show RepL N H (d :: (ds ++ es)) (v :: (us ++ ws))
    unfold RepL
    exact ⟨v, _, rfl, h1, RepL.append h2 g⟩
theorem RepL.take : ∀ {ds : List D} {vs : List V} (n : Nat), RepL N H ds vs → RepL N H (ds.take n) (vs.take n)
  | _, _, 0, _ => by unfold RepL; rfl
  | [], _, n + 1, h => by unfold RepL at h; subst h; unfold RepL; rfl
  | d :: ds, _, n + 1, h => by
    unfold RepL at h
    obtain ⟨v, us, rfl, h1, h2⟩ := h
    show RepL N H (d :: ds.take n) (v :: us.take n)
    unfold RepL
    exact ⟨v, _, rfl, h1, RepL.take n h2⟩
theorem RepL.drop : ∀ {ds : List D} {vs : List V} (n : Nat), RepL N H ds vs → RepL N H (ds.drop n) (vs.drop n)
  | _, _, 0, h => h
  | [], _, n + 1, h => by unfold RepL at h; subst h; unfold RepL; rfl
  | d :: ds, _, n + 1, h => by
    unfold RepL at h
    obtain ⟨v, us, rfl, h1, h2⟩ := h
    exact RepL.drop n h2
theorem RepL.set : ∀ {ds : List D} {vs : List V} {d : D} {v : V} (i : Nat), RepL N H ds vs → Rep N H d v → RepL N H (ds.set i d) (vs.set i v)
  | [], _, _, _, _, h, _ => by unfold RepL at h; subst h; unfold RepL; rfl
  | d :: ds, _, x, y, 0, h, g => by
    unfold RepL at h
    obtain ⟨v, us, rfl, h1, h2⟩ := h
    show RepL N H (x :: ds) (y :: us)
    unfold RepL
    exact ⟨y, us, rfl, g, h2⟩
  | d :: ds, _, x, y, i + 1, h, g => by
    unfold RepL at h
    obtain ⟨v, us, rfl, h1, h2⟩ := h
    show RepL N H (d :: ds.set i x) (v :: us.set i y)
    unfold RepL
    exact ⟨v, _, rfl, h1, RepL.set i h2 g⟩
theorem RepL.nil : RepL N H [] [] := by unfold RepL; rfl
theorem RepL.cons {d : D} {v : V} {ds : List D} {vs : List V} (h : Rep N H d v) (hs : RepL N H ds vs) : RepL N H (d :: ds) (v :: vs) := by
  unfold RepL; exact ⟨v, vs, rfl, h, hs⟩
theorem RepL.one {d : D} {v : V} (h : Rep N H d v) : RepL N H [d] [v] := .cons h .nil
theorem RepL.of_get : ∀ {ds : List D} {vs : List V}, ds.length = vs.length → (∀ (i : Nat) (d : D) (v : V), ds[i]? = some d → vs[i]? = some v → Rep N H d v) → RepL N H ds vs
  | [], [], _, _ => .nil
  | [], _ :: _, h, _ => by simp at h
  | _ :: _, [], h, _ => by simp at h
  | d :: ds, v :: vs, h, f => .cons (f 0 d v rfl rfl) (RepL.of_get (by simpa using h) fun i x y h1 h2 => f (i + 1) x y (by simpa using h1) (by simpa using h2))
end

/-- a cell as it stands -/
def COk (N : Addr → Prop) (H : Hp) (a : Addr) : Cl → Prop
  | .lst ds => ∃ vs, H a = some (.lst vs) ∧ RepL N H ds vs
  | .dct kvs => H a = some (.dK (kvV kvs))
  | .ins C dx fs => ∃ vs, H a = some (.ins C dx (fs.map (·.1) |>.zip vs)) ∧ RepL N H (fs.map (·.2)) vs

structure Cs (N : Addr → Prop) (H : Hp) (r : R) : Prop where
  al : ∀ b, N b → ∃ o, H b = some o
  nd : (adr r).Nodup
  dj : ∀ b ∈ adr r, ¬ N b
  cl : ∀ p ∈ r, COk (Av N r) H p.1 p.2
  sy : N sysModules
/-- the slots -/
structure Gs (N : Addr → Prop) (H : Hp) (σ : St) (g : G) : Prop where
  ln : σ.length = g.length
  sl : ∀ (i : Nat) (d : D), g[i]? = some (some d) → ∃ v, σ[i]? = some (some v) ∧ Rep N H d v

section
variable {N N' : Addr → Prop} {H H' H1 H2 : Hp} {r r' r1 r2 : R} {a p : Addr} {vs : List V} {σ : St} {g : G} {ds : List D} {c c' : Cl}
theorem COk.kp (k : Kp N H N' H') (e : ∀ o, H a = some o → H' a = some o) : ∀ {c : Cl}, COk N H a c → COk N' H' a c
  | .lst ds, ⟨vs, h1, h2⟩ => ⟨vs, e _ h1, RepL.kp k _ _ h2⟩
  | .dct kvs, h => e _ h
  | .ins C dx fs, ⟨vs, h1, h2⟩ => ⟨vs, e _ h1, RepL.kp k _ _ h2⟩
theorem COk.has : ∀ {c : Cl}, COk N H a c → ∃ o, H a = some o
  | .lst ds, ⟨vs, h1, h2⟩ => ⟨_, h1⟩
  | .dct kvs, h => ⟨_, h⟩
  | .ins C dx fs, ⟨vs, h1, h2⟩ => ⟨_, h1⟩
theorem Cs.has (h : Cs N H r) (m : a ∈ adr r) : ∃ o, H a = some o := by
  obtain ⟨q, hq, rfl⟩ := List.mem_map.mp m
  exact (h.cl q hq).has
theorem Cs.alAv (h : Cs N H r) (m : Av N r a) : ∃ o, H a = some o := m.elim (h.al a) h.has
theorem Cs.fresh (h : Cs N H r) (n : H p = none) : ¬ Av N r p := fun m => by
  obtain ⟨o, e⟩ := h.alAv m
  rw [n] at e; cases e
theorem Gs.kr (k : Kr r H r' H') (h : Gs (Av N r) H σ g) : Gs (Av N r') H' σ g := ⟨h.ln, fun i d e => let ⟨v, e1, e2⟩ := h.sl i d e; ⟨v, e1, e2.kr k⟩⟩
theorem Gs.set {i : Nat} {d : D} {v : V} (h : Gs N H σ g) (q : Rep N H d v) : Gs N H (σ.set i (some v)) (g.set i (some d)) := by
  refine ⟨by simp [h.ln], fun j x e => ?_⟩
  by_cases hj : i = j
  · subst hj
    by_cases hl : i < g.length
    · rw [List.getElem?_set_self hl] at e
      cases e
      exact ⟨v, by rw [List.getElem?_set_self (by rw [h.ln]; exact hl)], q⟩
    · rw [List.getElem?_eq_none (by simpa using hl)] at e; cases e
  · rw [List.getElem?_set_ne hj] at e
    obtain ⟨u, h1, h2⟩ := h.sl j x e
    exact ⟨u, by rw [List.getElem?_set_ne hj]; exact h1, h2⟩
theorem Gs.forget {i : Nat} (h : Gs N H σ g) : Gs N H σ (g.set i none) := by
  refine ⟨by simp [h.ln], fun j x e => ?_⟩
  by_cases hj : i = j
  · subst hj
    by_cases hl : i < g.length
    · rw [List.getElem?_set_self hl] at e; cases e
    · rw [List.getElem?_eq_none (by simpa using hl)] at e; cases e
  · rw [List.getElem?_set_ne hj] at e
    exact h.sl j x e

/-! ### something new -/
theorem new_kr {o : HO} (n : H p = none) : Kr r H r (upd H p o) := fun b u e m => ⟨by rw [upd_ne (ne_of_none e n)]; exact e, m⟩
theorem new_cs {o : HO} (h : Cs N H r) (n : H p = none) : Cs N (upd H p o) r := by
  refine ⟨fun b m => ?_, h.nd, h.dj, fun q hq => (h.cl q hq).kp (new_kr n).kp fun u e => by rw [upd_ne (ne_of_none e n)]; exact e, h.sy⟩
  obtain ⟨u, e⟩ := h.al b m
  exact ⟨u, by rw [upd_ne (ne_of_none e n)]; exact e⟩
theorem new_lst (h : Cs N H r) (n : H p = none) (l : RepL (Av N r) H ds vs) : Rep (Av N r) (upd H p (.lst vs)) (.lst ds) (.ref p) := by
  unfold Rep
  exact ⟨p, vs, rfl, h.fresh n, upd_same, l.kr (new_kr n)⟩
theorem new_tup (h : Cs N H r) (n : H p = none) (l : RepL (Av N r) H ds vs) : Rep (Av N r) (upd H p (.tup vs)) (.tup ds) (.ref p) := by
  unfold Rep
  exact ⟨p, vs, rfl, h.fresh n, upd_same, l.kr (new_kr n)⟩
theorem adr_cons : adr ((p, c) :: r) = p :: adr r := rfl
theorem newc_kr {o : HO} (n : H p = none) : Kr r H ((p, c) :: r) (upd H p o) := fun b u e m => ⟨by rw [upd_ne (ne_of_none e n)]; exact e, by
  rw [adr_cons, List.mem_cons, not_or]; exact ⟨ne_of_none e n, m⟩⟩
theorem newc_cs {o : HO} (h : Cs N H r) (n : H p = none) (hc : COk (Av N ((p, c) :: r)) (upd H p o) p c) : Cs N (upd H p o) ((p, c) :: r) := by
  refine ⟨(new_cs h n).al, ?_, fun b m => ?_, fun q hq => ?_, h.sy⟩
  · rw [adr_cons, List.nodup_cons]
    exact ⟨fun m => h.fresh n (.inr m), h.nd⟩
  · rw [adr_cons, List.mem_cons] at m
    rcases m with rfl | m
    · exact fun z => h.fresh n (.inl z)
    · exact h.dj b m
  · rcases List.mem_cons.mp hq with rfl | hq
    · exact hc
    · exact (h.cl q hq).kp (newc_kr n).kp fun u e => by rw [upd_ne (ne_of_none e n)]; exact e
/-- a list made new: a cell, or data -/
def mkD (mk : Bool) (ds : List D) (r : R) (Q : R → D → Prop) : Prop := if mk then ∀ p, p ∉ adr r → Q ((p, .lst ds) :: r) (.ob p) else Q r (.lst ds)
theorem mkD_ok {mk : Bool} {Q : R → D → Prop} {QQ : V → Hp → Prop} (h : Cs N H r) (l : RepL (Av N r) H ds vs) (q : mkD mk ds r Q)
    (k : ∀ v H' r' d, Cs N H' r' → Kr r H r' H' → Rep (Av N r') H' d v → Q r' d → QQ v H') (n : H p = none) : QQ (.ref p) (upd H p (.lst vs)) := by
  unfold mkD at q
  cases mk with
  | false => exact k _ _ _ _ (new_cs h n) (new_kr n) (new_lst h n l) (by simpa using q)
  | true =>
    refine k _ _ _ _ (newc_cs h n ?_) (newc_kr n) (by unfold Rep; rfl) ((by simpa using q : ∀ p, p ∉ adr r → Q ((p, .lst ds) :: r) (.ob p)) p fun m => h.fresh n (.inr m))
    exact ⟨vs, upd_same, l.kr (newc_kr n)⟩

/-! ### a cell is changed, or closed -/
def put (r : R) (a : Addr) (c : Cl) : R := r.map fun q => if q.1 = a then (a, c) else q
theorem adr_put : adr (put r a c) = adr r := by
  unfold adr put
  rw [List.map_map]
  refine List.map_congr_left fun q _ => ?_
  show (if q.1 = a then (a, c) else q).1 = q.1
  split
  · rename_i e; exact e.symm
  · rfl
theorem put_kr {o : HO} (m : a ∈ adr r) : Kr r H (put r a c) (upd H a o) := fun b u e n => ⟨by
  rw [upd_ne (show b ≠ a from fun z => n (by rw [z]; exact m))]; exact e, by rw [adr_put]; exact n⟩
theorem put_cs {o : HO} (h : Cs N H r) (m : a ∈ adr r) (hc : COk (Av N (put r a c)) (upd H a o) a c) : Cs N (upd H a o) (put r a c) := by
  refine ⟨fun b nb => ?_, by rw [adr_put]; exact h.nd, fun b hb => h.dj b (by rw [adr_put] at hb; exact hb), fun q hq => ?_, h.sy⟩
  · obtain ⟨u, e⟩ := h.al b nb
    exact ⟨u, by rw [upd_ne (show b ≠ a from fun z => h.dj a m (by rw [← z]; exact nb))]; exact e⟩
  · obtain ⟨q', hq', e⟩ := List.mem_map.mp hq
    by_cases ha : q'.1 = a
    · rw [if_pos ha] at e
      subst e
      exact hc
    · rw [if_neg ha] at e
      subst e
      exact (h.cl q' hq').kp (put_kr m).kp fun u e => by rw [upd_ne ha]; exact e
def del (r : R) (a : Addr) : R := r.filter fun q => decide (q.1 ≠ a)
theorem adr_del : adr (del r a) = (adr r).filter fun b => decide (b ≠ a) := by
  unfold adr del
  rw [List.filter_map]; rfl
theorem mem_del {b : Addr} : b ∈ adr (del r a) ↔ b ∈ adr r ∧ b ≠ a := by
  rw [adr_del, List.mem_filter]; simp
/-- fewer cells -/
theorem sub_kp (hs : ∀ b ∈ adr r', b ∈ adr r) : Kp (Av N r) H (Av N r') H := fun b o e n => ⟨e, fun z => n (z.elim .inl fun m => .inr (hs b m))⟩
theorem sub_cs (h : Cs N H r) (hs : List.Sublist r' r) : Cs N H r' := by
  have hm : ∀ b ∈ adr r', b ∈ adr r := fun b m => (hs.map (·.1)).subset m
  exact ⟨h.al, List.Nodup.sublist (l₂ := adr r) (hs.map _) h.nd, fun b m => h.dj b (hm b m), fun q hq => (h.cl q (hs.subset hq)).kp (sub_kp hm) fun _ e => e, h.sy⟩
theorem sub_kr (hs : List.Sublist r' r) : Kr r H r' H := fun b o e n => ⟨e, fun m => n ((hs.map (·.1)).subset m)⟩
theorem del_sub : List.Sublist (del r a) r := List.filter_sublist
theorem lookup_mem : ∀ {r : R}, r.lookup a = some c → (a, c) ∈ r
  | [], h => by simp at h
  | (b, x) :: r, h => by
    by_cases e : a = b
    · subst e; simp at h; subst h; exact List.mem_cons_self
    · rw [List.lookup_cons, beq_false_of_ne e] at h
      exact List.mem_cons_of_mem _ (lookup_mem h)
theorem adr_of_mem (h : (a, c) ∈ r) : a ∈ adr r := List.mem_map.mpr ⟨_, h, rfl⟩
/-- a cell that nobody writes any more is data -/
theorem close_rep (h : Cs N H r) (m : (a, .lst ds) ∈ r) (nr : ¬ Av N (del r a) a) : Rep (Av N (del r a)) H (.lst ds) (.ref a) := by
  obtain ⟨vs, e, l⟩ := h.cl _ m
  unfold Rep
  exact ⟨a, vs, rfl, nr, e, RepL.kp (sub_kp fun b z => (mem_del.mp z).1) _ _ l⟩
theorem del_av (h : Cs N H r) (m : a ∈ adr r) : ¬ Av N (del r a) a := fun z => z.elim (h.dj a m) fun z => (mem_del.mp z).2 rfl
end
end DL

set_option Elab.async false
set_option linter.all false
set_option maxRecDepth 100000
set_option maxHeartbeats 4000000
namespace DL
open PySem L2 PyProof.Rows

abbrev DE := R → G → (R → D → Prop) → Prop
abbrev DA := R → G → (R → List D → Prop) → Prop
abbrev DT := R → G → (R → Bool → Prop) → Prop

def SE (te : TE) (f : DE) : Prop := ∀ (N : Addr → Prop) (H : Hp) (r : R) (σ : L2.St) (g : G) (Q : R → D → Prop) (QQ : VK), Cs N H r → Gs (Av N r) H σ g → f r g Q →
  (∀ v H' r' d, Cs N H' r' → Kr r H r' H' → Rep (Av N r') H' d v → Q r' d → QQ v H') → te σ H QQ
def SA (ta : TA) (f : DA) : Prop := ∀ (N : Addr → Prop) (H : Hp) (r : R) (σ : L2.St) (g : G) (Q : R → List D → Prop) (QQ : List V → Hp → Prop), Cs N H r → Gs (Av N r) H σ g → f r g Q →
  (∀ vs H' r' ds, Cs N H' r' → Kr r H r' H' → RepL (Av N r') H' ds vs → Q r' ds → QQ vs H') → ta σ H QQ
def ST (tt : TT) (f : DT) : Prop := ∀ (N : Addr → Prop) (H : Hp) (r : R) (σ : L2.St) (g : G) (Q : R → Bool → Prop) (QQ : Bool → Hp → Prop), Cs N H r → Gs (Av N r) H σ g → f r g Q →
  (∀ b H' r', Cs N H' r' → Kr r H r' H' → Q r' b → QQ b H') → tt σ H QQ

structure PD (X : Cx) (e : Expr) (te : TE) (f : DE) : Prop where
  pe : PE X e te
  se : SE te f
structure PDA (X : Cx) (es : List Expr) (ta : TA) (f : DA) : Prop where
  pa : PA X es ta
  sa : SA ta f
structure PDT (X : Cx) (e : Expr) (tt : TT) (f : DT) : Prop where
  pt : PT X e tt
  st : ST tt f

section
variable {X : Cx} {e a b c : Expr} {te ta tb tc : TE} {f fa fb fc : DE} {pos p : Pos} {tA : TA} {fA : DA}

/-! ### names, constants -/
def dVar (i : Nat) : DE := fun r g Q => match g.getD i none with
  | some d => Q r d
  | none => False
theorem pd_var (i : Nat) {x : Str} (hN : X.N[i]? = some x := by rfl) (hv : Vis X.env.scope x := by first | exact Or.inl rfl | exact Or.inr (Or.inl rfl) | exact Or.inr (Or.inr rfl)) (hd : (x == ("__debug__" : Str)) = false := by decide)
    (hcd : (x == ("__classdict__" : Str)) = false := by decide) : PD X (.Name x pos) (tVar i) (dVar i) := by
  refine ⟨pe_var hN hv hd hcd, fun N H r σ g Q QQ hc hg q k => ?_⟩
  unfold dVar at q
  cases e : g.getD i none with
  | none => rw [e] at q; exact q.elim
  | some d =>
    rw [e] at q
    have e' : g[i]? = some (some d) := by
      rw [List.getD_eq_getElem?_getD] at e
      cases h : g[i]? with
      | none => rw [h] at e; cases e
      | some o => rw [h] at e; simp at e; rw [e]
    obtain ⟨v, h1, h2⟩ := hg.sl i d e'
    exact ⟨v, h1, k v H r d hc (Kr.refl _ _) h2 q⟩
def dC (d : D) : DE := fun r _ Q => Q r d
theorem se_c {v : V} {d : D} (h : ∀ N H, Rep N H d v) : SE (tC v) (dC d) := fun N H r σ g Q QQ hc hg q k => k v H r d hc (Kr.refl _ _) (h _ _) q
theorem pd_int {i : Int} {j : Nat} : PD X (.Constant (.int i) j pos) (tC (.int i)) (dC (.int i)) := ⟨pe_int, se_c fun _ _ => by unfold Rep; rfl⟩
theorem pd_bl {x : Bool} {j : Nat} : PD X (.Constant (.bool x) j pos) (tC (.bl x)) (dC (.bl x)) := ⟨pe_bl, se_c fun _ _ => by unfold Rep; rfl⟩
theorem pd_non {j : Nat} : PD X (.Constant .none j pos) (tC .non) (dC .non) := ⟨pe_non, se_c fun _ _ => by unfold Rep; rfl⟩
theorem pd_str {x : Str} {j : Nat} : PD X (.Constant (.str x) j pos) (tC (.str x)) (dC (.str x)) := ⟨pe_str, se_c fun _ _ => by unfold Rep; rfl⟩
/-- a number that stands at the module's top -/
theorem pd_gint {x : Str} {i : Int} (hm : ∃ t, X.mg x = some (.int i t)) (hg : Gl X x := by rfl) (hdb : (x == ("__debug__" : Str)) = false := by decide) : PD X (.Name x pos) (tC (.int i)) (dC (.int i)) := by
  obtain ⟨t, hm⟩ := hm
  exact ⟨pe_glob hg hm ⟨_, rfl⟩ hdb, se_c fun _ _ => by unfold Rep; rfl⟩
theorem pd_gstr {x z : Str} (hm : ∃ t, X.mg x = some (.str z t)) (hg : Gl X x := by rfl) (hdb : (x == ("__debug__" : Str)) = false := by decide) : PD X (.Name x pos) (tC (.str z)) (dC (.str z)) := by
  obtain ⟨t, hm⟩ := hm
  exact ⟨pe_glob hg hm ⟨_, rfl⟩ hdb, se_c fun _ _ => by unfold Rep; rfl⟩
/-- a class or a def that stands at the module's top -/
theorem pd_gref {x : Str} {z : Addr} (hm : X.mg x = some (.ref z)) (hg : Gl X x := by rfl) (hdb : (x == ("__debug__" : Str)) = false := by decide) : PD X (.Name x pos) (tC (.ref z)) (dC (.ob z)) :=
  ⟨pe_glob hg hm rfl hdb, se_c fun _ _ => by unfold Rep; rfl⟩
theorem pd_gty {x : Str} {n : String} (hm : X.mg x = none) (hg : Gl X x := by rfl) (hv : bootBuiltins x = some (.type n) := by decide +kernel) (hn : x ≠ "__name__" := by decide) (hdb : (x == ("__debug__" : Str)) = false := by decide) : PD X (.Name x pos) (tC (.ty n)) (dC (.ty n)) :=
  ⟨pe_bltn hg hm hv rfl hn hdb, se_c fun _ _ => by unfold Rep; rfl⟩

/-! ### two-place operators by values -/
def SO (r2 : R2) (o : D → D → R → (R → D → Prop) → Prop) : Prop := ∀ (N : Addr → Prop) (H : Hp) (r : R) (x y : V) (dx dy : D) (Q : R → D → Prop) (QQ : VK), Cs N H r → Rep (Av N r) H dx x → Rep (Av N r) H dy y → o dx dy r Q →
  (∀ v H' r' d, Cs N H' r' → Kr r H r' H' → Rep (Av N r') H' d v → Q r' d → QQ v H') → r2 x y H QQ
def dOp (o : D → D → R → (R → D → Prop) → Prop) (fa fb : DE) : DE := fun r g Q => fa r g fun r1 x => fb r1 g fun r2 y => o x y r2 Q
theorem se_op {r2 : R2} {o : D → D → R → (R → D → Prop) → Prop} (ho : SO r2 o) (ha : SE ta fa) (hb : SE tb fb) : SE (tOp r2 ta tb) (dOp o fa fb) := fun N H r σ g Q QQ hc hg q k =>
  ha N H r σ g _ _ hc hg q fun x H1 r1 dx c1 k1 p1 q1 => hb N H1 r1 σ g _ _ c1 (hg.kr k1) q1 fun y H2 r2 dy c2 k2 p2 q2 =>
    ho N H2 r2 x y dx dy Q QQ c2 (p1.kr k2) p2 q2 fun v H3 r3 d c3 k3 p3 q3 => k v H3 r3 d c3 ((k1.trans k2).trans k3) p3 q3
theorem pd_op {op : Operator} {r2 : R2} {o : D → D → R → (R → D → Prop) → Prop} (hr : OpR X (binaryOp op) r2) (ho : SO r2 o) (ha : PD X a ta fa) (hb : PD X b tb fb) : PD X (.BinOp a op b pos) (tOp r2 ta tb) (dOp o fa fb) :=
  ⟨pe_op hr ha.pe hb.pe, se_op ho ha.se hb.se⟩

def lstOf (r : R) : D → Option (List D)
  | .lst xs => some xs
  | .scr ns => some (ns.map D.int)
  | .ob a => match r.lookup a with
    | some (.lst xs) => some xs
    | _ => none
  | _ => none
theorem RepL.ints {N : Addr → Prop} {H : Hp} : ∀ {ns : List Int} {vs : List V}, RepL N H (ns.map D.int) vs → vs = ns.map V.int
  | [], _, h => by unfold RepL at h; exact h
  | n :: ns, _, h => by
    show _ = V.int n :: ns.map V.int
    have h' : RepL N H (D.int n :: ns.map D.int) _ := h
    unfold RepL at h'
    obtain ⟨v, ws, rfl, h1, h2⟩ := h'
    unfold Rep at h1
    rw [h1, RepL.ints h2]
theorem RepL.ofInts {N : Addr → Prop} {H : Hp} : ∀ (ns : List Int), RepL N H (ns.map D.int) (ns.map V.int)
  | [] => .nil
  | n :: ns => .cons (by unfold Rep; rfl) (RepL.ofInts ns)
theorem RepL.bls {N : Addr → Prop} {H : Hp} : ∀ {ns : List Bool} {vs : List V}, RepL N H (ns.map D.bl) vs → vs = ns.map V.bl
  | [], _, h => by unfold RepL at h; exact h
  | n :: ns, _, h => by
    show _ = V.bl n :: ns.map V.bl
    have h' : RepL N H (D.bl n :: ns.map D.bl) _ := h
    unfold RepL at h'
    obtain ⟨v, ws, rfl, h1, h2⟩ := h'
    unfold Rep at h1
    rw [h1, RepL.bls h2]
theorem RepL.strs {N : Addr → Prop} {H : Hp} : ∀ {ns : List Str} {vs : List V}, RepL N H (ns.map D.str) vs → vs = ns.map V.str
  | [], _, h => by unfold RepL at h; exact h
  | n :: ns, _, h => by
    show _ = V.str n :: ns.map V.str
    have h' : RepL N H (D.str n :: ns.map D.str) _ := h
    unfold RepL at h'
    obtain ⟨v, ws, rfl, h1, h2⟩ := h'
    unfold Rep at h1
    rw [h1, RepL.strs h2]
theorem RepL.ofStrs {N : Addr → Prop} {H : Hp} : ∀ (ns : List Str), RepL N H (ns.map D.str) (ns.map V.str)
  | [] => .nil
  | n :: ns => .cons (by unfold Rep; rfl) (RepL.ofStrs ns)
section
variable {N : Addr → Prop} {H : Hp} {r : R} {d : D} {v : V} {xs : List D}
theorem lstOf_rd (hc : Cs N H r) (h : Rep (Av N r) H d v) (e : lstOf r d = some xs) : ∃ z vs, v = .ref z ∧ Rd H z (.lst vs) ∧ RepL (Av N r) H xs vs := by
  cases d with
  | lst ys =>
    unfold Rep at h
    obtain ⟨z, vs, e1, n, e2, l⟩ := h
    cases e
    exact ⟨z, vs, e1, .inl e2, l⟩
  | scr ns =>
    unfold Rep at h
    obtain ⟨z, e1, n, o, e2⟩ := h
    cases e
    exact ⟨z, _, e1, .inr ⟨o, e2⟩, RepL.ofInts ns⟩
  | ob z =>
    unfold Rep at h
    have e' : (match r.lookup z with | some (.lst xs) => some xs | _ => none) = some xs := e
    cases q : r.lookup z with
    | none => rw [q] at e'; cases e'
    | some c =>
      rw [q] at e'
      cases c with
      | lst ys =>
        cases e'
        obtain ⟨vs, h1, h2⟩ := hc.cl _ (lookup_mem q)
        exact ⟨z, vs, h, .inl h1, h2⟩
      | _ => cases e'
  | _ => cases e
theorem lstOf_sq {K : PySem.W.Frag} (hc : Cs N H r) (h : Rep (Av N r) H d v) (e : lstOf r d = some xs) : ∃ z vs, v = .ref z ∧ SqL K H z vs ∧ RepL (Av N r) H xs vs := by
  obtain ⟨z, vs, e1, e2, l⟩ := lstOf_rd hc h e
  exact ⟨z, vs, e1, .inl e2, l⟩
/-- not the script -/
def lstOx (r : R) : D → Option (List D)
  | .scr _ => none
  | d => lstOf r d
theorem lstOx_at (hc : Cs N H r) (h : Rep (Av N r) H d v) (e : lstOx r d = some xs) : ∃ z vs, v = .ref z ∧ H z = some (.lst vs) ∧ RepL (Av N r) H xs vs := by
  cases d with
  | lst ys =>
    unfold Rep at h
    obtain ⟨z, vs, e1, n, e2, l⟩ := h
    cases e
    exact ⟨z, vs, e1, e2, l⟩
  | ob z =>
    unfold Rep at h
    have e' : (match r.lookup z with | some (.lst xs) => some xs | _ => none) = some xs := e
    cases q : r.lookup z with
    | none => rw [q] at e'; cases e'
    | some c =>
      rw [q] at e'
      cases c with
      | lst ys =>
        cases e'
        obtain ⟨vs, h1, h2⟩ := hc.cl _ (lookup_mem q)
        exact ⟨z, vs, h, h1, h2⟩
      | _ => cases e'
  | scr _ => cases e
  | _ => cases e
end

theorem so_or {r1 r2 : R2} {o1 o2 o : D → D → R → (R → D → Prop) → Prop} (h1 : SO r1 o1) (h2 : SO r2 o2) (ho : ∀ x y r Q, o x y r Q → o1 x y r Q ∨ o2 x y r Q) : SO (fun x y H Q => r1 x y H Q ∨ r2 x y H Q) o :=
  fun N H r x y dx dy Q QQ hc hx hy q k => (ho dx dy r Q q).elim (fun q => .inl (h1 N H r x y dx dy Q QQ hc hx hy q k)) fun q => .inr (h2 N H r x y dx dy Q QQ hc hx hy q k)

def oI (C : Int → Int → Prop) (z : Int → Int → D) : D → D → R → (R → D → Prop) → Prop
  | .int i, .int j, r, Q => C i j ∧ Q r (z i j)
  | _, _, _, _ => False
theorem so_I {C : Int → Int → Prop} {w : Int → Int → V} {z : Int → Int → D} (h : ∀ i j N H, Rep N H (z i j) (w i j)) : SO (rI C w) (oI C z) := fun N H r x y dx dy Q QQ hc hx hy q k => by
  unfold oI at q
  split at q
  · unfold Rep at hx hy
    subst hx; subst hy
    exact ⟨_, _, rfl, rfl, q.1, k _ H r _ hc (Kr.refl _ _) (h ..) q.2⟩
  · exact q.elim
theorem so_I0 {w : Int → Int → V} {z : Int → Int → D} (h : ∀ i j N H, Rep N H (z i j) (w i j)) : SO (rI0 w) (oI (fun _ _ => True) z) := fun N H r x y dx dy Q QQ hc hx hy q k => by
  unfold oI at q
  split at q
  · unfold Rep at hx hy
    subst hx; subst hy
    exact ⟨_, _, rfl, rfl, k _ H r _ hc (Kr.refl _ _) (h ..) q.2⟩
  · exact q.elim
theorem rep_int {i : Int} {N H} : Rep N H (.int i) (.int i) := by unfold Rep; rfl
theorem rep_bl {i : Bool} {N H} : Rep N H (.bl i) (.bl i) := by unfold Rep; rfl
theorem rep_str {i : Str} {N H} : Rep N H (.str i) (.str i) := by unfold Rep; rfl
theorem rep_non {N H} : Rep N H .non .non := by unfold Rep; rfl

def oSub : D → D → R → (R → D → Prop) → Prop := oI (fun _ _ => True) fun i j => .int (i - j)
def oMulI : D → D → R → (R → D → Prop) → Prop := oI (fun i j => IntMulOk i j) fun i j => .int (i * j)
def oMod : D → D → R → (R → D → Prop) → Prop := oI (fun _ j => 0 < j) fun i j => .int (i % j)
def oDiv : D → D → R → (R → D → Prop) → Prop := oI CDivW fun i j => .int (i / j)
def CPowW (i j : Int) : Prop := 0 ≤ j ∧ (Builtin.Int.intBits i : Int) * j ≤ 2 ^ 27
def oPow : D → D → R → (R → D → Prop) → Prop := oI CPowW fun i j => .int (i ^ j.toNat)
theorem pd_sub (ha : PD X a ta fa) (hb : PD X b tb fb) : PD X (.BinOp a .Sub b pos) (tOp (rI0 fun i j => .int (i - j)) ta tb) (dOp oSub fa fb) := pd_op op_sub (so_I0 fun _ _ _ _ => rep_int) ha hb
theorem op_mulIO : OpR X (binaryOp .Mult) (rI (fun i j => IntMulOk i j) fun i j => .int (i * j)) := opI fun _ _ _ _ _ _ _ hc q => mul_int q hc
theorem op_powW : OpR X (binaryOp .Pow) (rI CPowW fun i j => .int (i ^ j.toNat)) := opI fun _ _ _ _ _ _ _ hc q => pow_int hc.1 hc.2 q
theorem pd_mod (ha : PD X a ta fa) (hb : PD X b tb fb) : PD X (.BinOp a .Mod b pos) (tOp (rI (fun _ j => 0 < j) fun i j => .int (i % j)) ta tb) (dOp oMod fa fb) := pd_op op_mod (so_I fun _ _ _ _ => rep_int) ha hb
theorem pd_div (ha : PD X a ta fa) (hb : PD X b tb fb) : PD X (.BinOp a .FloorDiv b pos) (tOp (rI CDivW fun i j => .int (i / j)) ta tb) (dOp oDiv fa fb) := pd_op op_fdivW (so_I fun _ _ _ _ => rep_int) ha hb
theorem pd_pow (ha : PD X a ta fa) (hb : PD X b tb fb) : PD X (.BinOp a .Pow b pos) (tOp (rI CPowW fun i j => .int (i ^ j.toNat)) ta tb) (dOp oPow fa fb) := pd_op op_powW (so_I fun _ _ _ _ => rep_int) ha hb

/-- + -/
def oAdd (mk : Bool) : D → D → R → (R → D → Prop) → Prop
  | .int i, .int j, r, Q => Q r (.int (i + j))
  | .str x, .str y, r, Q => x.length + y.length ≤ sizeLine ∧ Q r (.str (x ++ y))
  | .tup x, .tup y, r, Q => x.length + y.length ≤ sizeLine ∧ Q r (.tup (x ++ y))
  | x, y, r, Q => ∃ xs ys, lstOf r x = some xs ∧ lstOf r y = some ys ∧ xs.length + ys.length ≤ sizeLine ∧ mkD mk (xs ++ ys) r Q
/-- list + list, both to be read -/
def rCatR : R2 := fun x y H Q => ∃ l b xs zs, x = .ref l ∧ y = .ref b ∧ Rd H l (.lst xs) ∧ Rd H b (.lst zs) ∧ xs.length + zs.length ≤ sizeLine ∧ ∀ p, H p = none → Q (.ref p) (upd H p (.lst (xs ++ zs)))
theorem op_catR : OpR X (binaryOp .Add) rCatR := by
  intro pins s σ H x y v u Q I rx ry h
  obtain ⟨l, b, xs, zs, e1, e2, h1, h2, hz, q⟩ := h
  subst e1; subst e2; cases rx; cases ry
  obtain ⟨z1, i1, n1, r1, g1⟩ := h1.ok I.hok
  obtain ⟨z2, i2, n2, r2, g2⟩ := h2.ok I.hok
  have l1 := r1.length
  have l2 := r2.length
  refine PySem.P.add_list g1 g2 ?_ (by rw [List.size_toArray, List.size_toArray, ← l1, ← l2]; exact hz)
  have ea : i1.toArray ++ i2.toArray = (i1 ++ i2).toArray := List.append_toArray i1 i2
  rw [ea]
  exact ⟨V.ref s.heap.objs.size, upd H s.heap.objs.size (.lst (xs ++ zs)), I.lnew (t' := s.toks) (r1.append r2) (by rw [List.length_append]; exact hz), rfl, q _ I.fresh⟩
def rAddAll (K : PySem.W.Frag) : R2 := fun x y H Q => (rI0 (fun i j => .int (i + j)) x y H Q ∨ ∃ i j, x = .str i ∧ y = .str j ∧ i.length + j.length ≤ sizeLine ∧ Q (.str (i ++ j)) H) ∨ (rCatA K x y H Q ∨ rCatR x y H Q)
theorem so_add (K : PySem.W.Frag) (mk : Bool) : SO (rAddAll K) (oAdd mk) := by
  intro N H r x y dx dy Q QQ hc hx hy q k
  unfold oAdd at q
  split at q
  · unfold Rep at hx hy
    subst hx; subst hy
    exact .inl (.inl ⟨_, _, rfl, rfl, k _ H r _ hc (Kr.refl _ _) rep_int q⟩)
  · unfold Rep at hx hy
    subst hx; subst hy
    exact .inl (.inr ⟨_, _, rfl, rfl, q.1, k _ H r _ hc (Kr.refl _ _) rep_str q.2⟩)
  · rename_i xs ys
    have hx0 := hx
    have hy0 := hy
    unfold Rep at hx hy
    obtain ⟨z1, v1, e1, n1, g1, l1⟩ := hx
    obtain ⟨z2, v2, e2, n2, g2, l2⟩ := hy
    refine .inr (.inl ⟨z1, z2, v1, v2, e1, e2, .inl (.inl g1), .inl (.inl g2), by rw [← l1.length, ← l2.length]; exact q.1, fun hn => ?_, fun _ hn => ?_, fun _ _ p hp => ?_⟩)
    · have : xs = [] := List.length_eq_zero_iff.mp (by rw [l1.length, hn]; rfl)
      subst this
      exact k _ H r _ hc (Kr.refl _ _) (by rw [← e2]; exact hy0) q.2
    · have : ys = [] := List.length_eq_zero_iff.mp (by rw [l2.length, hn]; rfl)
      subst this
      rw [List.append_nil] at q
      exact k _ H r _ hc (Kr.refl _ _) (by rw [← e1]; exact hx0) q.2
    · exact k _ _ r _ (new_cs hc hp) (new_kr hp) (new_tup hc hp (l1.append l2)) q.2
  · obtain ⟨xs, ys, e1, e2, hz, q⟩ := q
    obtain ⟨z1, v1, rfl, g1, l1⟩ := lstOf_rd hc hx e1
    obtain ⟨z2, v2, rfl, g2, l2⟩ := lstOf_rd hc hy e2
    exact .inr (.inr ⟨z1, z2, v1, v2, rfl, rfl, g1, g2, by rw [← l1.length, ← l2.length]; exact hz, fun p hp => mkD_ok hc (l1.append l2) q k hp⟩)
theorem pd_add {K : PySem.W.Frag} (mk : Bool) (ha : PD X a ta fa) (hb : PD X b tb fb) (hK : X.K = K := by rfl) : PD X (.BinOp a .Add b pos) (tOp (rAddAll K) ta tb) (dOp (oAdd mk) fa fb) := by
  subst hK
  exact pd_op (.or (.or op_add op_add_str) (.or op_catA op_catR)) (so_add X.K mk) ha hb
/-- * -/
def oMul (mk : Bool) : D → D → R → (R → D → Prop) → Prop
  | .int i, .int j, r, Q => IntMulOk i j ∧ Q r (.int (i * j))
  | x, .int k, r, Q => ∃ xs, lstOx r x = some xs ∧ -(2 ^ 63) ≤ k ∧ k < 2 ^ 63 ∧ xs.length * k.toNat ≤ sizeLine ∧ mkD mk (List.replicate k.toNat xs).flatten r Q
  | _, _, _, _ => False
theorem RepL.rep {N : Addr → Prop} {H : Hp} {xs : List D} {vs : List V} (h : RepL N H xs vs) : ∀ n : Nat, RepL N H (List.replicate n xs).flatten (List.replicate n vs).flatten
  | 0 => .nil
  | n + 1 => by
    rw [List.replicate_succ, List.replicate_succ, List.flatten_cons, List.flatten_cons]
    exact h.append (RepL.rep h n)
def rMulAll : R2 := fun x y H Q => rI (fun i j => IntMulOk i j) (fun i j => .int (i * j)) x y H Q ∨ rRep x y H Q
theorem so_mul (mk : Bool) : SO rMulAll (oMul mk) := by
  intro N H r x y dx dy Q QQ hc hx hy q k
  unfold oMul at q
  split at q
  · unfold Rep at hx hy
    subst hx; subst hy
    exact .inl ⟨_, _, rfl, rfl, q.1, k _ H r _ hc (Kr.refl _ _) rep_int q.2⟩
  · obtain ⟨xs, e1, h1, h2, hz, q⟩ := q
    obtain ⟨z1, v1, rfl, g1, l1⟩ := lstOx_at hc hx e1
    unfold Rep at hy
    subst hy
    exact .inr ⟨z1, _, v1, rfl, rfl, g1, h1, h2, by rw [← l1.length]; exact hz, fun p hp => mkD_ok hc (l1.rep _) q k hp⟩
  · exact q.elim
theorem pd_mul (mk : Bool) (ha : PD X a ta fa) (hb : PD X b tb fb) : PD X (.BinOp a .Mult b pos) (tOp rMulAll ta tb) (dOp (oMul mk) fa fb) := pd_op (.or op_mulIO op_rep) (so_mul mk) ha hb

/-! ### comparisons -/
theorem pd_cmp {op : CmpOp} {r2 : R2} {o : D → D → R → (R → D → Prop) → Prop} (hr : OpR X (compareOp op) r2) (ho : SO r2 o) (ha : PD X a ta fa) (hb : PD X b tb fb) (hm : behindInMarks op b = false := by rfl) :
    PD X (.Compare a [op] [b] pos) (tOp r2 ta tb) (dOp o fa fb) := ⟨pe_cmpR hr ha.pe hb.pe hm, se_op ho ha.se hb.se⟩
def oLt : D → D → R → (R → D → Prop) → Prop := oI (fun _ _ => True) fun i j => .bl (decide (i < j))
def oLe : D → D → R → (R → D → Prop) → Prop := oI (fun _ _ => True) fun i j => .bl (decide (i ≤ j))
def oGt : D → D → R → (R → D → Prop) → Prop := oI (fun _ _ => True) fun i j => .bl (decide (j < i))
def oGe : D → D → R → (R → D → Prop) → Prop := oI (fun _ _ => True) fun i j => .bl (decide (j ≤ i))
theorem pd_lt (ha : PD X a ta fa) (hb : PD X b tb fb) (hm : behindInMarks .Lt b = false := by rfl) : PD X (.Compare a [.Lt] [b] pos) (tOp (rI0 fun i j => .bl (decide (i < j))) ta tb) (dOp oLt fa fb) := pd_cmp op_lt (so_I0 fun _ _ _ _ => rep_bl) ha hb hm
theorem pd_le (ha : PD X a ta fa) (hb : PD X b tb fb) (hm : behindInMarks .LtE b = false := by rfl) : PD X (.Compare a [.LtE] [b] pos) (tOp (rI0 fun i j => .bl (decide (i ≤ j))) ta tb) (dOp oLe fa fb) := pd_cmp op_le (so_I0 fun _ _ _ _ => rep_bl) ha hb hm
theorem pd_gt (ha : PD X a ta fa) (hb : PD X b tb fb) (hm : behindInMarks .Gt b = false := by rfl) : PD X (.Compare a [.Gt] [b] pos) (tOp (rI0 fun i j => .bl (decide (j < i))) ta tb) (dOp oGt fa fb) := pd_cmp op_gt (so_I0 fun _ _ _ _ => rep_bl) ha hb hm
theorem pd_ge (ha : PD X a ta fa) (hb : PD X b tb fb) (hm : behindInMarks .GtE b = false := by rfl) : PD X (.Compare a [.GtE] [b] pos) (tOp (rI0 fun i j => .bl (decide (j ≤ i))) ta tb) (dOp oGe fa fb) := pd_cmp op_ge (so_I0 fun _ _ _ _ => rep_bl) ha hb hm
/-- a truth value -/
def oB : D → (Bool → Prop) → Prop
  | .bl x, f => f x
  | _, _ => False
theorem oB_bl {x : Bool} {f : Bool → Prop} : oB (.bl x) f = f x := rfl
theorem oB_ex {d : D} {f : Bool → Prop} (h : oB d f) : ∃ x, d = .bl x ∧ f x := by
  cases d <;> first | exact ⟨_, rfl, h⟩ | exact h.elim
/-- a <= b <= c, the same for < -/
def dChain (o o' : D → D → R → (R → D → Prop) → Prop) (fa fb fc : DE) : DE := fun r g Q => fa r g fun r1 x => fb r1 g fun r2 y => o x y r2 fun r3 z => oB z fun x => if x = true then fc r3 g fun r4 w => o' y w r4 Q else Q r3 (.bl false)
theorem se_chain {r1 r2 : R2} {o o' : D → D → R → (R → D → Prop) → Prop} (h1 : SO r1 o) (h2 : SO r2 o') (ha : SE ta fa) (hb : SE tb fb) (hc : SE tc fc) : SE (tChain r1 r2 ta tb tc) (dChain o o' fa fb fc) := fun N H r σ g Q QQ c hg q k =>
  ha N H r σ g _ _ c hg q fun x H1 r1 dx c1 k1 p1 q1 => hb N H1 r1 σ g _ _ c1 (hg.kr k1) q1 fun y H2 r2 dy c2 k2 p2 q2 =>
    h1 N H2 r2 x y dx dy _ _ c2 (p1.kr k2) p2 q2 fun v H3 r3 d c3 k3 p3 q3 => by
      have kk := (k1.trans k2).trans k3
      obtain ⟨x, hx0, q4⟩ := oB_ex q3
      subst hx0
      replace q3 := q4
      cases x with
      | true =>
        unfold Rep at p3
        subst p3
        refine ⟨true, rfl, ?_⟩
        rw [if_pos rfl] at q3 ⊢
        exact hc N H3 r3 σ g _ _ c3 (hg.kr kk) q3 fun w H4 r4 dw c4 k4 p4 q4 => h2 N H4 r4 y w dy dw Q QQ c4 ((p2.kr k3).kr k4) p4 q4 fun v H5 r5 d c5 k5 p5 q5 => k v H5 r5 d c5 ((kk.trans k4).trans k5) p5 q5
      | false =>
        unfold Rep at p3
        subst p3
        refine ⟨false, rfl, ?_⟩
        rw [if_neg Bool.false_ne_true] at q3 ⊢
        exact k _ H3 r3 _ c3 kk rep_bl q3
theorem pd_leLe (ha : PD X a ta fa) (hb : PD X b tb fb) (hc : PD X c tc fc) (hm : lastMarks [.LtE, .LtE] [b, c] = false := by with_unfolding_all rfl) : PD X (.Compare a [.LtE, .LtE] [b, c] pos) (tChain (rI0 fun i j => .bl (decide (i ≤ j))) (rI0 fun i j => .bl (decide (i ≤ j))) ta tb tc) (dChain oLe oLe fa fb fc) :=
  ⟨pe_chain op_le op_le ha.pe hb.pe hc.pe hm, se_chain (so_I0 fun _ _ _ _ => rep_bl) (so_I0 fun _ _ _ _ => rep_bl) ha.se hb.se hc.se⟩
theorem pd_ltLt (ha : PD X a ta fa) (hb : PD X b tb fb) (hc : PD X c tc fc) (hm : lastMarks [.Lt, .Lt] [b, c] = false := by with_unfolding_all rfl) : PD X (.Compare a [.Lt, .Lt] [b, c] pos) (tChain (rI0 fun i j => .bl (decide (i < j))) (rI0 fun i j => .bl (decide (i < j))) ta tb tc) (dChain oLt oLt fa fb fc) :=
  ⟨pe_chain op_lt op_lt ha.pe hb.pe hc.pe hm, se_chain (so_I0 fun _ _ _ _ => rep_bl) (so_I0 fun _ _ _ _ => rep_bl) ha.se hb.se hc.se⟩
end
end DL

set_option Elab.async false
set_option linter.all false
set_option maxRecDepth 100000
set_option maxHeartbeats 4000000
namespace DL
open PySem L2 PyProof.Rows

section
variable {X : Cx} {e a b c : Expr} {te ta tb tc : TE} {f fa fb fc : DE} {pos p : Pos} {es rest : List Expr} {tA tB' : TT} {fA fB : DT} {u : TA} {h : DA}

/-! ### data as the library's data -/
mutual
def toP : D → Option PyData
  | .non => some .none
  | .bl b => some (.bool b)
  | .int i => some (.int i)
  | .str x => some (.str x)
  | .scr ns => some (.list (ns.map PyData.int))
  | .lst xs => (toPs xs).map PyData.list
  | .tup xs => (toPs xs).map PyData.tuple
  | _ => none
def toPs : List D → Option (List PyData)
  | [] => some []
  | d :: ds => match toP d, toPs ds with
    | some q, some qs => some (q :: qs)
    | _, _ => none
end
theorem dpAll_ints {K : PySem.W.Frag} {H : Hp} : ∀ ns : List Int, DpAll K H (ns.map V.int) (ns.map PyData.int)
  | [] => .nil
  | n :: ns => .cons (.int n) (dpAll_ints ns)
mutual
theorem dp_of {K : PySem.W.Frag} {N : Addr → Prop} {H : Hp} : ∀ (d : D) (v : V) (q : PyData), Rep N H d v → toP d = some q → Dp K H v q
  | .non, _, _, h, e => by unfold Rep at h; unfold toP at e; cases e; subst h; exact .non
  | .bl x, _, _, h, e => by unfold Rep at h; unfold toP at e; cases e; subst h; exact .bl x
  | .int x, _, _, h, e => by unfold Rep at h; unfold toP at e; cases e; subst h; exact .int x
  | .str x, _, _, h, e => by unfold Rep at h; unfold toP at e; cases e; subst h; exact .str x
  | .scr ns, _, _, h, e => by
    unfold Rep at h; unfold toP at e; cases e
    obtain ⟨z, rfl, _, o, g⟩ := h
    exact .lst (.inl (.inr ⟨o, g⟩)) (dpAll_ints ns)
  | .lst xs, _, _, h, e => by
    unfold Rep at h; unfold toP at e
    obtain ⟨qs, e1, rfl⟩ := Option.map_eq_some_iff.mp e
    obtain ⟨z, vs, rfl, _, g, l⟩ := h
    exact .lst (.inl (.inl g)) (dps_of xs vs qs l e1)
  | .tup xs, _, _, h, e => by
    unfold Rep at h; unfold toP at e
    obtain ⟨qs, e1, rfl⟩ := Option.map_eq_some_iff.mp e
    obtain ⟨z, vs, rfl, _, g, l⟩ := h
    exact .tup (.inl (.inl g)) (dps_of xs vs qs l e1)
  | .ty _, _, _, _, e => by unfold toP at e; cases e
  | .ob _, _, _, _, e => by unfold toP at e; cases e
  | .dct _, _, _, _, e => by unfold toP at e; cases e
theorem dps_of {K : PySem.W.Frag} {N : Addr → Prop} {H : Hp} : ∀ (ds : List D) (vs : List V) (qs : List PyData), RepL N H ds vs → toPs ds = some qs → DpAll K H vs qs
  | [], _, _, h, e => by unfold RepL at h; unfold toPs at e; cases e; subst h; exact .nil
  | d :: ds, _, _, h, e => by
    unfold RepL at h; unfold toPs at e
    obtain ⟨v, ws, rfl, h1, h2⟩ := h
    cases e1 : toP d with
    | none => rw [e1] at e; cases e
    | some q =>
      cases e2 : toPs ds with
      | none => rw [e1, e2] at e; cases e
      | some qs =>
        rw [e1, e2] at e; cases e
        exact .cons (dp_of d v q h1 e1) (dps_of ds ws qs h2 e2)
end
/-- what is read at a value: a cell's list too -/
def toPR (r : R) : D → Option PyData
  | .ob z => match r.lookup z with
    | some (.lst xs) => (toPs xs).map PyData.list
    | _ => none
  | d => toP d
theorem dpR_of {K : PySem.W.Frag} {N : Addr → Prop} {H : Hp} {r : R} {d : D} {v : V} {q : PyData} (hc : Cs N H r) (hr : Rep (Av N r) H d v) (e : toPR r d = some q) : Dp K H v q := by
  cases d with
  | ob z =>
    have e' : (match r.lookup z with | some (.lst xs) => (toPs xs).map PyData.list | _ => none) = some q := e
    unfold Rep at hr
    cases q1 : r.lookup z with
    | none => rw [q1] at e'; cases e'
    | some cl =>
      rw [q1] at e'
      cases cl with
      | lst ys =>
        obtain ⟨qs, e1, rfl⟩ := Option.map_eq_some_iff.mp e'
        obtain ⟨vs, h1, h2⟩ := hc.cl _ (lookup_mem q1)
        subst hr
        exact .lst (.inl (.inl h1)) (dps_of ys vs qs h2 e1)
      | _ => cases e'
  | _ => exact dp_of _ _ _ hr e
def oEq (neg : Bool) : D → D → R → (R → D → Prop) → Prop := fun x y r Q => ∃ q q', toPR r x = some q ∧ toPR r y = some q' ∧ SeqAt.shaped q = true ∧ SeqAt.shaped q' = true ∧ Q r (.bl (if neg then !PyData.eqv q q' else PyData.eqv q q'))
theorem so_eq (K : PySem.W.Frag) : SO (rEqD K) (oEq false) := fun N H r x y dx dy Q QQ hc hx hy ⟨q, q', e1, e2, s1, s2, g⟩ k =>
  ⟨q, q', dpR_of hc hx e1, dpR_of hc hy e2, s1, s2, k _ H r _ hc (Kr.refl _ _) rep_bl g⟩
theorem so_ne (K : PySem.W.Frag) : SO (rNeD K) (oEq true) := fun N H r x y dx dy Q QQ hc hx hy ⟨q, q', e1, e2, s1, s2, g⟩ k =>
  ⟨q, q', dpR_of hc hx e1, dpR_of hc hy e2, s1, s2, k _ H r _ hc (Kr.refl _ _) rep_bl g⟩
theorem pd_eq {K : PySem.W.Frag} (hu : X.A.units + 64 < cLine) (ha : PD X a ta fa) (hb : PD X b tb fb) (hm : behindInMarks .Eq b = false := by rfl) (hK : X.K = K := by rfl) : PD X (.Compare a [.Eq] [b] pos) (tOp (rEqD K) ta tb) (dOp (oEq false) fa fb) := by
  subst hK
  exact pd_cmp (op_eqD hu) (so_eq _) ha hb hm
theorem pd_ne {K : PySem.W.Frag} (hu : X.A.units + 64 < cLine) (ha : PD X a ta fa) (hb : PD X b tb fb) (hm : behindInMarks .NotEq b = false := by rfl) (hK : X.K = K := by rfl) : PD X (.Compare a [.NotEq] [b] pos) (tOp (rNeD K) ta tb) (dOp (oEq true) fa fb) := by
  subst hK
  exact pd_cmp (op_neD hu) (so_ne _) ha hb hm
/-! ### in -/
def flatD : D → Bool
  | .non => true
  | .bl _ => true
  | .int _ => true
  | .str _ => true
  | _ => false
def toV : D → V
  | .non => .non
  | .bl b => .bl b
  | .int i => .int i
  | .str x => .str x
  | _ => .non
theorem toV_of {N : Addr → Prop} {H : Hp} {d : D} {v : V} (hr : Rep N H d v) (hf : flatD d = true) : v = toV d ∧ flatV v = true := by
  cases d <;> first | (unfold Rep at hr; subst hr; exact ⟨rfl, rfl⟩) | cases hf
theorem toVs_of {N : Addr → Prop} {H : Hp} : ∀ {ds : List D} {vs : List V}, RepL N H ds vs → ds.all flatD = true → vs = ds.map toV ∧ vs.all flatV = true
  | [], _, h, _ => by unfold RepL at h; subst h; exact ⟨rfl, rfl⟩
  | d :: ds, _, h, hf => by
    unfold RepL at h
    obtain ⟨v, ws, rfl, h1, h2⟩ := h
    rw [List.all_cons, Bool.and_eq_true] at hf
    obtain ⟨e1, f1⟩ := toV_of h1 hf.1
    obtain ⟨e2, f2⟩ := toVs_of h2 hf.2
    exact ⟨by rw [List.map_cons, e1, e2], by rw [List.all_cons, f1, f2]; rfl⟩
def inD (x : D) (xs : List D) : Bool := inV (toV x) (xs.map toV)
def seqOf (r : R) : D → Option (List D)
  | .tup xs => some xs
  | d => lstOf r d
def oIn (neg : Bool) : D → D → R → (R → D → Prop) → Prop := fun x y r Q => ∃ xs, seqOf r y = some xs ∧ flatD x = true ∧ xs.all flatD = true ∧ Q r (.bl (if neg then !inD x xs else inD x xs))
theorem seqOf_sq {K : PySem.W.Frag} {N : Addr → Prop} {H : Hp} {r : R} {d : D} {v : V} {xs : List D} (hc : Cs N H r) (hr : Rep (Av N r) H d v) (e : seqOf r d = some xs) : ∃ z vs, v = .ref z ∧ (SqL K H z vs ∨ SqT K H z vs) ∧ RepL (Av N r) H xs vs := by
  cases d with
  | tup ys =>
    unfold Rep at hr
    obtain ⟨z, vs, e1, _, g, l⟩ := hr
    cases e
    exact ⟨z, vs, e1, .inr (.inl (.inl g)), l⟩
  | _ =>
    obtain ⟨z, vs, e1, g, l⟩ := lstOf_sq (K := K) hc hr e
    exact ⟨z, vs, e1, .inl g, l⟩
theorem so_in (K : PySem.W.Frag) (neg : Bool) : SO (rIn K neg) (oIn neg) := fun N H r x y dx dy Q QQ hc hx hy ⟨xs, e, f1, f2, q⟩ k => by
  obtain ⟨z, vs, rfl, g, l⟩ := seqOf_sq (K := K) hc hy e
  obtain ⟨e1, g1⟩ := toV_of hx f1
  obtain ⟨e2, g2⟩ := toVs_of l f2
  refine ⟨z, vs, rfl, g, g1, g2, k _ H r _ hc (Kr.refl _ _) rep_bl ?_⟩
  rw [e1, e2]
  exact q
theorem pd_in {K : PySem.W.Frag} (ha : PD X a ta fa) (hb : PD X b tb fb) (hm : behindInMarks .In b = false := by rfl) (hK : X.K = K := by rfl) : PD X (.Compare a [.In] [b] pos) (tOp (rIn K false) ta tb) (dOp (oIn false) fa fb) := by
  subst hK
  exact pd_cmp op_in_seq (so_in _ _) ha hb hm
theorem pd_nin {K : PySem.W.Frag} (ha : PD X a ta fa) (hb : PD X b tb fb) (hm : behindInMarks .NotIn b = false := by rfl) (hK : X.K = K := by rfl) : PD X (.Compare a [.NotIn] [b] pos) (tOp (rIn K true) ta tb) (dOp (oIn true) fa fb) := by
  subst hK
  exact pd_cmp op_notIn_seq (so_in _ _) ha hb hm
/-! ### is None -/
def isNon : D → Bool
  | .non => true
  | _ => false
theorem isNon_of {N : Addr → Prop} {H : Hp} {d : D} {v : V} (hr : Rep N H d v) : decide (v = .non) = isNon d := by
  cases d <;> unfold Rep at hr
  case non => subst hr; rfl
  case bl => subst hr; rfl
  case int => subst hr; rfl
  case str => subst hr; rfl
  case ty => subst hr; rfl
  case ob => subst hr; rfl
  all_goals (obtain ⟨z, hr⟩ := hr; first | (obtain ⟨e, _⟩ := hr; subst e; rfl) | (obtain ⟨w, e, _⟩ := hr; subst e; rfl))
def oIsN (neg : Bool) : D → D → R → (R → D → Prop) → Prop
  | x, .non, r, Q => Q r (.bl (if neg then !isNon x else isNon x))
  | _, _, _, _ => False
theorem so_isN : SO (fun x y H Q => y = .non ∧ Q (.bl (decide (x = .non))) H) (oIsN false) := fun N H r x y dx dy Q QQ hc hx hy q k => by
  unfold oIsN at q
  split at q
  · unfold Rep at hy
    refine ⟨hy, k _ H r _ hc (Kr.refl _ _) rep_bl ?_⟩
    rw [isNon_of hx]; exact q
  · exact q.elim
theorem so_notN : SO (fun x y H Q => y = .non ∧ Q (.bl (!decide (x = .non))) H) (oIsN true) := fun N H r x y dx dy Q QQ hc hx hy q k => by
  unfold oIsN at q
  split at q
  · unfold Rep at hy
    refine ⟨hy, k _ H r _ hc (Kr.refl _ _) rep_bl ?_⟩
    rw [isNon_of hx]; exact q
  · exact q.elim
theorem pd_isN (ha : PD X a ta fa) (hb : PD X b tb fb) (hm : behindInMarks .Is b = false := by rfl) : PD X (.Compare a [.Is] [b] pos) (tOp (fun x y H Q => y = .non ∧ Q (.bl (decide (x = .non))) H) ta tb) (dOp (oIsN false) fa fb) := pd_cmp op_isN so_isN ha hb hm
theorem pd_notN (ha : PD X a ta fa) (hb : PD X b tb fb) (hm : behindInMarks .IsNot b = false := by rfl) : PD X (.Compare a [.IsNot] [b] pos) (tOp (fun x y H Q => y = .non ∧ Q (.bl (!decide (x = .non))) H) ta tb) (dOp (oIsN true) fa fb) := pd_cmp op_notN so_notN ha hb hm

/-! ### an item, a slice -/
def oIx : D → D → R → (R → D → Prop) → Prop
  | .str z, .int i, r, Q => ∃ ch, z.length ≤ sizeLine ∧ atI z.cps.toList i = some ch ∧ Q r (.str ⟨#[ch]⟩)
  | x, .int i, r, Q => ∃ xs d, seqOf r x = some xs ∧ atI xs i = some d ∧ Q r d
  | _, _, _, _ => False
theorem RepL.atI {N : Addr → Prop} {H : Hp} {ds : List D} {vs : List V} {i : Int} {d : D} (l : RepL N H ds vs) (e : atI ds i = some d) : ∃ v, L2.atI vs i = some v ∧ Rep N H d v := by
  unfold L2.atI at e ⊢
  rw [← l.length]
  cases q : ixN ds.length i with
  | none => rw [q] at e; cases e
  | some j =>
    rw [q] at e
    exact l.get e
theorem so_ix (K : PySem.W.Frag) : SO (rIx K) oIx := fun N H r x y dx dy Q QQ hc hx hy q k => by
  unfold oIx at q
  split at q
  · obtain ⟨ch, hz, e, q⟩ := q
    unfold Rep at hx hy
    subst hx; subst hy
    exact .inr (.inr ⟨_, _, ch, rfl, rfl, hz, e, k _ H r _ hc (Kr.refl _ _) rep_str q⟩)
  · obtain ⟨xs, d, e1, e2, q⟩ := q
    obtain ⟨z, vs, rfl, g, l⟩ := seqOf_sq (K := K) hc hx e1
    obtain ⟨v, e3, l3⟩ := l.atI e2
    unfold Rep at hy
    subst hy
    rcases g with g | g
    · exact .inl ⟨z, vs, _, v, rfl, rfl, g, e3, k _ H r _ hc (Kr.refl _ _) l3 q⟩
    · exact .inr (.inl ⟨z, vs, _, v, rfl, rfl, g, e3, k _ H r _ hc (Kr.refl _ _) l3 q⟩)
  · exact q.elim
theorem pd_ix {K : PySem.W.Frag} (ha : PD X a ta fa) (hb : PD X b tb fb) (hs : PlainIx b := by exact fun _ _ => rfl) (hK : X.K = K := by rfl) : PD X (.Subscript a b pos) (tOp (rIx K) ta tb) (dOp oIx fa fb) := by
  subst hK
  exact ⟨pe_ix ix_seq ha.pe hb.pe hs, se_op (so_ix _) ha.se hb.se⟩
abbrev DO := R → G → (R → Option Int → Prop) → Prop
def SOp (t : TO) (f : DO) : Prop := ∀ (N : Addr → Prop) (H : Hp) (r : R) (σ : L2.St) (g : G) (Q : R → Option Int → Prop) (QQ : Option Int → Hp → Prop), Cs N H r → Gs (Av N r) H σ g → f r g Q →
  (∀ o H' r', Cs N H' r' → Kr r H r' H' → Q r' o → QQ o H') → t σ H QQ
structure PDO (X : Cx) (e : Option Expr) (t : TO) (f : DO) : Prop where
  po : PO X e t
  so : SOp t f
def dNoPart : DO := fun r _ Q => Q r none
def dPart (f : DE) : DO := fun r g Q => f r g fun r1 d => match d with
  | .int i => Q r1 (some i)
  | _ => False
theorem pdo_none : PDO X none tNoPart dNoPart := ⟨po_none, fun N H r σ g Q QQ hc hg q k => k none H r hc (Kr.refl _ _) q⟩
theorem pdo_some (ha : PD X a ta fa) : PDO X (some a) (tPart ta) (dPart fa) := ⟨po_some ha.pe, fun N H r σ g Q QQ hc hg q k =>
  ha.se N H r σ g _ _ hc hg q fun v H1 r1 d c1 k1 p1 q1 => by
    split at q1
    · unfold Rep at p1
      exact ⟨_, p1, k _ H1 r1 c1 k1 q1⟩
    · exact q1.elim⟩
def cutL {α : Type} (xs : List α) (lo hi : Option Int) : List α := (xs.drop (HT.sIx xs.length 0 lo)).take (HT.sIx xs.length xs.length hi - HT.sIx xs.length 0 lo)
theorem RepL.cut {N : Addr → Prop} {H : Hp} {ds : List D} {vs : List V} (l : RepL N H ds vs) (lo hi : Option Int) : RepL N H (cutL ds lo hi) (cutV vs lo hi) := by
  unfold cutL cutV
  rw [← l.length]
  exact (l.drop _).take _
def oSl (mk : Bool) : D → Option Int → Option Int → R → (R → D → Prop) → Prop
  | .str z, lo, hi, r, Q => z.length ≤ sizeLine ∧ Q r (.str (cutS z lo hi))
  | .tup xs, lo, hi, r, Q => Q r (.tup (cutL xs lo hi))
  | x, lo, hi, r, Q => ∃ xs, lstOf r x = some xs ∧ mkD mk (cutL xs lo hi) r Q
def rSlAll (K : PySem.W.Frag) : V → Option Int → Option Int → Hp → VK → Prop := fun x lo hi H Q => rSlL K x lo hi H Q ∨ (rSlA K x lo hi H Q ∨ rSlS x lo hi H Q)
def dSl (mk : Bool) (f : DE) (fl fh : DO) : DE := fun r g Q => f r g fun r1 x => fl r1 g fun r2 lo => fh r2 g fun r3 hi => oSl mk x lo hi r3 Q
theorem pd_slice {K : PySem.W.Frag} (mk : Bool) {lo hi : Option Expr} {tl th : TO} {fl fh : DO} {p2 : Pos} (ha : PD X a ta fa) (hl : PDO X lo tl fl) (hh : PDO X hi th fh) (hK : X.K = K := by rfl) : PD X (.Subscript a (.Slice lo hi none p2) pos) (tSl (rSlAll K) ta tl th) (dSl mk fa fl fh) := by
  subst hK
  refine ⟨pe_slice (.or sl_list (.or sl_tupA sl_str)) ha.pe hl.po hh.po, fun N H r σ g Q QQ hc hg q k => ?_⟩
  refine ha.se N H r σ g _ _ hc hg q fun x H1 r1 dx c1 k1 p1 q1 => hl.so N H1 r1 σ g _ _ c1 (hg.kr k1) q1 fun l H2 r2 c2 k2 q2 => hh.so N H2 r2 σ g _ _ c2 ((hg.kr k1).kr k2) q2 fun u H3 r3 c3 k3 q3 => ?_
  have kk := (k1.trans k2).trans k3
  have p3 := (p1.kr k2).kr k3
  unfold oSl at q3
  split at q3
  · unfold Rep at p3
    subst p3
    exact .inr (.inr ⟨_, rfl, q3.1, k _ H3 r3 _ c3 kk rep_str q3.2⟩)
  · rename_i xs
    have p0 := p3
    unfold Rep at p3
    obtain ⟨z, vs, rfl, n, g1, l1⟩ := p3
    refine .inr (.inl ⟨z, vs, rfl, .inl (.inl g1), fun ⟨e1, e2⟩ => k _ H3 r3 _ c3 kk ?_ q3, fun _ p hp => k _ _ r3 _ (new_cs c3 hp) (kk.trans (new_kr hp)) (new_tup c3 hp (l1.cut l u)) q3⟩)
    have : cutL xs l u = xs := by
      unfold cutL
      rw [← l1.length] at e1 e2
      rw [e1, e2]
      simp
    rw [this]
    exact p0
  · obtain ⟨xs, e, q3⟩ := q3
    obtain ⟨z, vs, rfl, g1, l1⟩ := lstOf_sq (K := X.K) c3 p3 e
    exact .inl ⟨z, vs, rfl, g1, fun p hp => mkD_ok c3 (l1.cut l u) q3 (fun v H' r' d a1 a2 a3 a4 => k v H' r' d a1 (kk.trans a2) a3 a4) hp⟩
def dRev (mk : Bool) (f : DE) : DE := fun r g Q => f r g fun r1 x => ∃ xs, lstOf r1 x = some xs ∧ mkD mk xs.reverse r1 Q
theorem RepL.rev {N : Addr → Prop} {H : Hp} : ∀ {ds : List D} {vs : List V}, RepL N H ds vs → RepL N H ds.reverse vs.reverse
  | [], _, h => by unfold RepL at h; subst h; exact .nil
  | d :: ds, _, h => by
    unfold RepL at h
    obtain ⟨v, ws, rfl, h1, h2⟩ := h
    rw [List.reverse_cons, List.reverse_cons]
    exact (RepL.rev h2).append (.one h1)
theorem pd_rev {K : PySem.W.Frag} (mk : Bool) {n : Nat} {p1 p2 p3 : Pos} (ha : PD X a ta fa) (hK : X.K = K := by rfl) : PD X (.Subscript a (.Slice none none (some (.UnaryOp .USub (.Constant (.int 1) n p1) p2)) p3) pos) (tRevL K ta) (dRev mk fa) := by
  subst hK
  exact ⟨pe_revL ha.pe, fun N H r σ g Q QQ hc hg q k => ha.se N H r σ g _ _ hc hg q fun x H1 r1 dx c1 k1 p1 ⟨xs, e, q1⟩ => by
    obtain ⟨z, vs, rfl, g1, l1⟩ := lstOf_sq (K := X.K) c1 p1 e
    exact ⟨z, vs, rfl, g1, fun p hp => mkD_ok c1 l1.rev q1 (fun v H' r' d a1 a2 a3 a4 => k v H' r' d a1 (k1.trans a2) a3 a4) hp⟩⟩
/-- -i -/
def dNeg (f : DE) : DE := fun r g Q => f r g fun r1 d => match d with
  | .int i => Q r1 (.int (-i))
  | _ => False
theorem pd_neg (ha : PD X a ta fa) : PD X (.UnaryOp .USub a pos) (tUn (rU fun i => .int (-i)) ta) (dNeg fa) := ⟨pe_un un_neg ha.pe, fun N H r σ g Q QQ hc hg q k =>
  ha.se N H r σ g _ _ hc hg q fun v H1 r1 d c1 k1 p1 q1 => by
    split at q1
    · unfold Rep at p1
      exact ⟨_, p1, k _ H1 r1 _ c1 k1 rep_int q1⟩
    · exact q1.elim⟩

/-! ### and, or, not, if else, tests -/
def dAnd (fa fb : DE) : DE := fun r g Q => fa r g fun r1 d => oB d fun x => if x = true then fb r1 g Q else Q r1 (.bl false)
def dOr (fa fb : DE) : DE := fun r g Q => fa r g fun r1 d => oB d fun x => if x = true then Q r1 (.bl true) else fb r1 g Q
def dNot (fa : DE) : DE := fun r g Q => fa r g fun r1 d => oB d fun x => Q r1 (.bl (!x))
theorem pd_one {op : BoolOp} (ha : PD X a ta fa) : PD X (.BoolOp op [a] pos) ta fa := ⟨pe_one ha.pe, ha.se⟩
theorem pd_and (ha : PD X a ta fa) (hb : PD X (.BoolOp .And (b :: rest) pos) tb fb) : PD X (.BoolOp .And (a :: b :: rest) pos) (tAndV ta tb) (dAnd fa fb) := ⟨pe_and ha.pe hb.pe, fun N H r σ g Q QQ hc hg q k =>
  ha.se N H r σ g _ _ hc hg q fun v H1 r1 d c1 k1 p1 q1 => by
    obtain ⟨x, hx0, q4⟩ := oB_ex q1
    subst hx0
    replace q1 := q4
    unfold Rep at p1
    refine ⟨x, p1, ?_⟩
    cases x with
    | true =>
      rw [if_pos rfl] at q1 ⊢
      exact hb.se N H1 r1 σ g Q QQ c1 (hg.kr k1) q1 fun v H' r' d a1 a2 a3 a4 => k v H' r' d a1 (k1.trans a2) a3 a4
    | false =>
      rw [if_neg Bool.false_ne_true] at q1 ⊢
      exact k _ H1 r1 _ c1 k1 rep_bl q1⟩
theorem pd_or (ha : PD X a ta fa) (hb : PD X (.BoolOp .Or (b :: rest) pos) tb fb) : PD X (.BoolOp .Or (a :: b :: rest) pos) (tOrV ta tb) (dOr fa fb) := ⟨pe_or ha.pe hb.pe, fun N H r σ g Q QQ hc hg q k =>
  ha.se N H r σ g _ _ hc hg q fun v H1 r1 d c1 k1 p1 q1 => by
    obtain ⟨x, hx0, q4⟩ := oB_ex q1
    subst hx0
    replace q1 := q4
    unfold Rep at p1
    refine ⟨x, p1, ?_⟩
    cases x with
    | true =>
      rw [if_pos rfl] at q1 ⊢
      exact k _ H1 r1 _ c1 k1 rep_bl q1
    | false =>
      rw [if_neg Bool.false_ne_true] at q1 ⊢
      exact hb.se N H1 r1 σ g Q QQ c1 (hg.kr k1) q1 fun v H' r' d a1 a2 a3 a4 => k v H' r' d a1 (k1.trans a2) a3 a4⟩
theorem pd_not (ha : PD X a ta fa) : PD X (.UnaryOp .Not a pos) (tNotV ta) (dNot fa) := ⟨pe_not ha.pe, fun N H r σ g Q QQ hc hg q k =>
  ha.se N H r σ g _ _ hc hg q fun v H1 r1 d c1 k1 p1 q1 => by
    obtain ⟨x, hx0, q4⟩ := oB_ex q1
    subst hx0
    replace q1 := q4
    unfold Rep at p1
    exact ⟨_, p1, k _ H1 r1 _ c1 k1 rep_bl q1⟩⟩
def dTst (f : DE) : DT := fun r g Q => f r g fun r1 d => oB d fun x => Q r1 x
theorem st_tst (ha : SE ta fa) : ST (tTest ta) (dTst fa) := fun N H r σ g Q QQ hc hg q k => ha N H r σ g _ _ hc hg q fun v H1 r1 d c1 k1 p1 q1 => by
    obtain ⟨x, hx0, q4⟩ := oB_ex q1
    subst hx0
    replace q1 := q4
    unfold Rep at p1
    exact ⟨_, p1, k _ H1 r1 c1 k1 q1⟩
theorem pt_v (ha : PD X a ta fa) (he : ∀ whole, isTrue a X.env whole = (do let v ← whole; standAt a.pos; holding [v] (truthy v)) := by intro _; rfl) : PDT X a (tB ta) (dTst fa) := ⟨pt_val ha.pe he, st_tst ha.se⟩
theorem pt_c {op : CmpOp} {r2 : R2} {o : D → D → R → (R → D → Prop) → Prop} (hr : OpR X (compareOp op) r2) (ho : SO r2 o) (ha : PD X a ta fa) (hb : PD X b tb fb) (hm : behindInMarks op b = false) :
    PDT X (.Compare a [op] [b] pos) (tTest (tOp r2 ta tb)) (dTst (dOp o fa fb)) := ⟨pt_cmpR hr ha.pe hb.pe hm, st_tst (se_op ho ha.se hb.se)⟩
theorem pt_lt (ha : PD X a ta fa) (hb : PD X b tb fb) (hm : behindInMarks .Lt b = false := by rfl) : PDT X (.Compare a [.Lt] [b] pos) (tTest (tOp (rI0 fun i j => .bl (decide (i < j))) ta tb)) (dTst (dOp oLt fa fb)) := pt_c op_lt (so_I0 fun _ _ _ _ => rep_bl) ha hb hm
theorem pt_le (ha : PD X a ta fa) (hb : PD X b tb fb) (hm : behindInMarks .LtE b = false := by rfl) : PDT X (.Compare a [.LtE] [b] pos) (tTest (tOp (rI0 fun i j => .bl (decide (i ≤ j))) ta tb)) (dTst (dOp oLe fa fb)) := pt_c op_le (so_I0 fun _ _ _ _ => rep_bl) ha hb hm
theorem pt_gt (ha : PD X a ta fa) (hb : PD X b tb fb) (hm : behindInMarks .Gt b = false := by rfl) : PDT X (.Compare a [.Gt] [b] pos) (tTest (tOp (rI0 fun i j => .bl (decide (j < i))) ta tb)) (dTst (dOp oGt fa fb)) := pt_c op_gt (so_I0 fun _ _ _ _ => rep_bl) ha hb hm
theorem pt_ge (ha : PD X a ta fa) (hb : PD X b tb fb) (hm : behindInMarks .GtE b = false := by rfl) : PDT X (.Compare a [.GtE] [b] pos) (tTest (tOp (rI0 fun i j => .bl (decide (j ≤ i))) ta tb)) (dTst (dOp oGe fa fb)) := pt_c op_ge (so_I0 fun _ _ _ _ => rep_bl) ha hb hm
theorem pt_eq {K : PySem.W.Frag} (hu : X.A.units + 64 < cLine) (ha : PD X a ta fa) (hb : PD X b tb fb) (hm : behindInMarks .Eq b = false := by rfl) (hK : X.K = K := by rfl) : PDT X (.Compare a [.Eq] [b] pos) (tTest (tOp (rEqD K) ta tb)) (dTst (dOp (oEq false) fa fb)) := by
  subst hK
  exact pt_c (op_eqD hu) (so_eq _) ha hb hm
theorem pt_ne {K : PySem.W.Frag} (hu : X.A.units + 64 < cLine) (ha : PD X a ta fa) (hb : PD X b tb fb) (hm : behindInMarks .NotEq b = false := by rfl) (hK : X.K = K := by rfl) : PDT X (.Compare a [.NotEq] [b] pos) (tTest (tOp (rNeD K) ta tb)) (dTst (dOp (oEq true) fa fb)) := by
  subst hK
  exact pt_c (op_neD hu) (so_ne _) ha hb hm
theorem pt_in {K : PySem.W.Frag} (ha : PD X a ta fa) (hb : PD X b tb fb) (hm : behindInMarks .In b = false := by rfl) (hK : X.K = K := by rfl) : PDT X (.Compare a [.In] [b] pos) (tTest (tOp (rIn K false) ta tb)) (dTst (dOp (oIn false) fa fb)) := by
  subst hK
  exact pt_c op_in_seq (so_in _ _) ha hb hm
theorem pt_nin {K : PySem.W.Frag} (ha : PD X a ta fa) (hb : PD X b tb fb) (hm : behindInMarks .NotIn b = false := by rfl) (hK : X.K = K := by rfl) : PDT X (.Compare a [.NotIn] [b] pos) (tTest (tOp (rIn K true) ta tb)) (dTst (dOp (oIn true) fa fb)) := by
  subst hK
  exact pt_c op_notIn_seq (so_in _ _) ha hb hm
theorem pt_isN (ha : PD X a ta fa) (hb : PD X b tb fb) (hm : behindInMarks .Is b = false := by rfl) : PDT X (.Compare a [.Is] [b] pos) (tTest (tOp (fun x y H Q => y = .non ∧ Q (.bl (decide (x = .non))) H) ta tb)) (dTst (dOp (oIsN false) fa fb)) := pt_c op_isN so_isN ha hb hm
theorem pt_notN (ha : PD X a ta fa) (hb : PD X b tb fb) (hm : behindInMarks .IsNot b = false := by rfl) : PDT X (.Compare a [.IsNot] [b] pos) (tTest (tOp (fun x y H Q => y = .non ∧ Q (.bl (!decide (x = .non))) H) ta tb)) (dTst (dOp (oIsN true) fa fb)) := pt_c op_notN so_notN ha hb hm
theorem pt_leLe (ha : PD X a ta fa) (hb : PD X b tb fb) (hc : PD X c tc fc) (hm : lastMarks [.LtE, .LtE] [b, c] = false := by with_unfolding_all rfl) : PDT X (.Compare a [.LtE, .LtE] [b, c] pos) (tTest (tChain (rI0 fun i j => .bl (decide (i ≤ j))) (rI0 fun i j => .bl (decide (i ≤ j))) ta tb tc)) (dTst (dChain oLe oLe fa fb fc)) :=
  ⟨pt_chain op_le op_le ha.pe hb.pe hc.pe hm, st_tst (se_chain (so_I0 fun _ _ _ _ => rep_bl) (so_I0 fun _ _ _ _ => rep_bl) ha.se hb.se hc.se)⟩
structure PDW (X : Cx) (e : Expr) (tt : TT) (f : DT) : Prop where
  pw : PW X e tt
  st : ST tt f
def dAndT (fa fb : DT) : DT := fun r g Q => fa r g fun r1 x => if x = true then fb r1 g Q else Q r1 false
def dOrT (fa fb : DT) : DT := fun r g Q => fa r g fun r1 x => if x = true then Q r1 true else fb r1 g Q
def dNotT (fa : DT) : DT := fun r g Q => fa r g fun r1 x => Q r1 (!x)
theorem PDW.pt (w : PDW X a tA fA) : PDT X a tA fA := ⟨w.pw.pt, w.st⟩
theorem pw_a1 (ha : PDT X a tA fA) : PDW X (.BoolOp .And [a] pos) tA fA := ⟨pw_and1 ha.pt, ha.st⟩
theorem pw_o1 (ha : PDT X a tA fA) : PDW X (.BoolOp .Or [a] pos) tA fA := ⟨pw_or1 ha.pt, ha.st⟩
theorem pw_a (ha : PDT X a tA fA) (hb : PDW X (.BoolOp .And (b :: rest) pos) tB' fB) : PDW X (.BoolOp .And (a :: b :: rest) pos) (tAnd tA tB') (dAndT fA fB) := ⟨pw_and ha.pt hb.pw, fun N H r σ g Q QQ hc hg q k =>
  ha.st N H r σ g _ _ hc hg q fun x H1 r1 c1 k1 q1 => by
    cases x with
    | true =>
      rw [if_pos rfl] at q1 ⊢
      exact hb.st N H1 r1 σ g Q QQ c1 (hg.kr k1) q1 fun v H' r' a1 a2 a4 => k v H' r' a1 (k1.trans a2) a4
    | false =>
      rw [if_neg Bool.false_ne_true] at q1 ⊢
      exact k _ H1 r1 c1 k1 q1⟩
theorem pw_o (ha : PDT X a tA fA) (hb : PDW X (.BoolOp .Or (b :: rest) pos) tB' fB) : PDW X (.BoolOp .Or (a :: b :: rest) pos) (tOr tA tB') (dOrT fA fB) := ⟨pw_or ha.pt hb.pw, fun N H r σ g Q QQ hc hg q k =>
  ha.st N H r σ g _ _ hc hg q fun x H1 r1 c1 k1 q1 => by
    cases x with
    | true =>
      rw [if_pos rfl] at q1 ⊢
      exact k _ H1 r1 c1 k1 q1
    | false =>
      rw [if_neg Bool.false_ne_true] at q1 ⊢
      exact hb.st N H1 r1 σ g Q QQ c1 (hg.kr k1) q1 fun v H' r' a1 a2 a4 => k v H' r' a1 (k1.trans a2) a4⟩
theorem pt_n (ha : PDT X a tA fA) : PDT X (.UnaryOp .Not a pos) (tNot tA) (dNotT fA) := ⟨pt_not ha.pt, fun N H r σ g Q QQ hc hg q k =>
  ha.st N H r σ g _ _ hc hg q fun x H1 r1 c1 k1 q1 => k _ H1 r1 c1 k1 q1⟩
def dIf (fA : DT) (fa fb : DE) : DE := fun r g Q => fA r g fun r1 x => if x = true then fa r1 g Q else fb r1 g Q
theorem pd_if (hc : PDT X c tA fA) (ha : PD X a ta fa) (hb : PD X b tb fb) : PD X (.IfExp c a b pos) (tIf tA ta tb) (dIf fA fa fb) := ⟨pe_ifExp hc.pt ha.pe hb.pe, fun N H r σ g Q QQ c0 hg q k =>
  hc.st N H r σ g _ _ c0 hg q fun x H1 r1 c1 k1 q1 => by
    cases x with
    | true =>
      rw [if_pos rfl] at q1 ⊢
      exact ha.se N H1 r1 σ g Q QQ c1 (hg.kr k1) q1 fun v H' r' d a1 a2 a3 a4 => k v H' r' d a1 (k1.trans a2) a3 a4
    | false =>
      rw [if_neg Bool.false_ne_true] at q1 ⊢
      exact hb.se N H1 r1 σ g Q QQ c1 (hg.kr k1) q1 fun v H' r' d a1 a2 a3 a4 => k v H' r' d a1 (k1.trans a2) a3 a4⟩

/-! ### arguments, displays -/
def dNil : DA := fun r _ Q => Q r []
def dCons (fa : DE) (h : DA) : DA := fun r g Q => fa r g fun r1 d => h r1 g fun r2 ds => Q r2 (d :: ds)
theorem pa_n : PDA X [] tNil dNil := ⟨pa_nil, fun N H r σ g Q QQ hc hg q k => k [] H r [] hc (Kr.refl _ _) .nil q⟩
theorem pa_c (ha : PD X a ta fa) (hr : PDA X es u h) (hs : starEach (a :: es) X.env = (false, eval a X.env) :: starEach es X.env := by rfl) : PDA X (a :: es) (tCons ta u) (dCons fa h) := ⟨pa_cons ha.pe hr.pa hs, fun N H r σ g Q QQ hc hg q k =>
  ha.se N H r σ g _ _ hc hg q fun x H1 r1 d c1 k1 p1 q1 => hr.sa N H1 r1 σ g _ _ c1 (hg.kr k1) q1 fun xs H2 r2 ds c2 k2 p2 q2 => k _ H2 r2 _ c2 (k1.trans k2) (.cons (p1.kr k2) p2) q2⟩
def dLst (mk : Bool) (h : DA) : DE := fun r g Q => h r g fun r1 ds => ds.length ≤ sizeLine ∧ mkD mk ds r1 Q
def dTup (h : DA) : DE := fun r g Q => h r g fun r1 ds => ds.length ≤ sizeLine ∧ Q r1 (.tup ds)
theorem pd_lst (mk : Bool) (ha : PDA X es u h) : PD X (.List es pos) (tLst u) (dLst mk h) := ⟨pe_lst ha.pa, fun N H r σ g Q QQ hc hg q k =>
  ha.sa N H r σ g _ _ hc hg q fun xs H1 r1 ds c1 k1 p1 ⟨z, q1⟩ => ⟨by rw [← p1.length]; exact z, fun p hp => mkD_ok c1 p1 q1 (fun v H' r' d a1 a2 a3 a4 => k v H' r' d a1 (k1.trans a2) a3 a4) hp⟩⟩
theorem pd_tup {x1} (ha : PDA X es u h) : PD X (.Tuple es x1 pos) (tTup u) (dTup h) := ⟨pe_tup ha.pa, fun N H r σ g Q QQ hc hg q k =>
  ha.sa N H r σ g _ _ hc hg q fun xs H1 r1 ds c1 k1 p1 ⟨z, q1⟩ => ⟨by rw [← p1.length]; exact z, fun p hp => k _ _ r1 _ (new_cs c1 hp) (k1.trans (new_kr hp)) (new_tup c1 hp p1) q1⟩⟩
/-- a cell's list is data from here on -/
def dCl (f : DE) : DE := fun r g Q => f r g fun r1 d => match d with
  | .ob z => ∃ ds, r1.lookup z = some (.lst ds) ∧ Q (del r1 z) (.lst ds)
  | _ => False
theorem pd_close (ha : PD X a ta fa) : PD X a ta (dCl fa) := ⟨ha.pe, fun N H r σ g Q QQ hc hg q k =>
  ha.se N H r σ g _ _ hc hg q fun v H1 r1 d c1 k1 p1 q1 => by
    split at q1
    · rename_i z
      obtain ⟨ds, e, q1⟩ := q1
      have m := lookup_mem e
      unfold Rep at p1
      subst p1
      exact k _ H1 _ _ (sub_cs c1 del_sub) (k1.trans (sub_kr del_sub)) (close_rep c1 m (del_av c1 (adr_of_mem m))) q1
    · exact q1.elim⟩
end
end DL

set_option Elab.async false
set_option linter.all false
set_option maxRecDepth 100000
set_option maxHeartbeats 4000000
namespace DL
open PySem L2 PyProof.Rows

/-! ### built-in functions by values -/
def SC (r1 : List V → Hp → VK → Prop) (o : List D → R → (R → D → Prop) → Prop) : Prop := ∀ (N : Addr → Prop) (H : Hp) (r : R) (vs : List V) (ds : List D) (Q : R → D → Prop) (QQ : VK), Cs N H r → RepL (Av N r) H ds vs → o ds r Q →
  (∀ v H' r' d, Cs N H' r' → Kr r H r' H' → Rep (Av N r') H' d v → Q r' d → QQ v H') → r1 vs H QQ
def dCB (o : List D → R → (R → D → Prop) → Prop) (h : DA) : DE := fun r g Q => h r g fun r1 ds => o ds r1 Q
theorem se_cb {r1 : List V → Hp → VK → Prop} {o : List D → R → (R → D → Prop) → Prop} {u : TA} {h : DA} (ho : SC r1 o) (ha : SA u h) : SE (tCB r1 u) (dCB o h) := fun N H r σ g Q QQ hc hg q k =>
  ha N H r σ g _ _ hc hg q fun xs H1 r1 ds c1 k1 p1 q1 => ho N H1 r1 xs ds Q QQ c1 p1 q1 fun v H' r' d a1 a2 a3 a4 => k v H' r' d a1 (k1.trans a2) a3 a4
theorem rep1 {N : Addr → Prop} {H : Hp} {d : D} {vs : List V} (h : RepL N H [d] vs) : ∃ v, vs = [v] ∧ Rep N H d v := by
  unfold RepL at h
  obtain ⟨v, ws, rfl, h1, h2⟩ := h
  unfold RepL at h2
  subst h2
  exact ⟨v, rfl, h1⟩
theorem rep2 {N : Addr → Prop} {H : Hp} {d d' : D} {vs : List V} (h : RepL N H [d, d'] vs) : ∃ v v', vs = [v, v'] ∧ Rep N H d v ∧ Rep N H d' v' := by
  unfold RepL at h
  obtain ⟨v, ws, rfl, h1, h2⟩ := h
  obtain ⟨v', rfl, h3⟩ := rep1 h2
  exact ⟨v, v', rfl, h1, h3⟩
section
variable {X : Cx} {e a b c : Expr} {te ta tb tc : TE} {f fa fb fc : DE} {pos p p2 q0 : Pos} {es rest : List Expr} {tA tB' : TT} {fA fB : DT} {u : TA} {h : DA}

def oLen : List D → R → (R → D → Prop) → Prop
  | [.str z], r, Q => z.length ≤ sizeLine ∧ Q r (.int z.length)
  | [x], r, Q => ∃ xs, seqOf r x = some xs ∧ Q r (.int xs.length)
  | _, _, _ => False
theorem sc_len (K : PySem.W.Frag) : SC (fun xs H Q => ∃ x n, xs = [x] ∧ LenV K x H n ∧ Q (.int n) H) oLen := fun N H r vs ds Q QQ hc hr q k => by
  unfold oLen at q
  split at q
  · obtain ⟨v, rfl, hv⟩ := rep1 hr
    unfold Rep at hv
    subst hv
    exact ⟨_, _, rfl, ⟨q.1, rfl⟩, k _ H r _ hc (Kr.refl _ _) rep_int q.2⟩
  · obtain ⟨xs, e, q⟩ := q
    obtain ⟨v, rfl, hv⟩ := rep1 hr
    obtain ⟨z, ws, rfl, g, l⟩ := seqOf_sq (K := K) hc hv e
    refine ⟨_, ws.length, rfl, ?_, k _ H r _ hc (Kr.refl _ _) (by rw [← l.length]; exact rep_int) q⟩
    rcases g with g | g
    · exact .inl ⟨ws, g, rfl⟩
    · exact .inr ⟨ws, g, rfl⟩
  · exact q.elim
theorem pd_len {K : PySem.W.Frag} (hm : X.mg "len" = none) (ha : PDA X (a :: es) u h) (hg : Gl X "len" := by rfl) (he : starEach (a :: es) X.env = (false, eval a X.env) :: starEach es X.env := by rfl) (hpl : (backTo pos (starEach es X.env)).any (·.1) = false := by rfl) (hK : X.K = K := by rfl) :
    PD X (.Call (.Name "len" p) (a :: es) [] pos) (tCB (fun xs H Q => ∃ x n, xs = [x] ∧ LenV K x H n ∧ Q (.int n) H) u) (dCB oLen h) := by
  subst hK
  exact ⟨pe_callB call_len hg hm PySem.boot_len ha.pa (by decide) (by decide) he hpl, se_cb (sc_len _) ha.sa⟩
def oI2 (z : Int → Int → D) : List D → R → (R → D → Prop) → Prop
  | [.int i, .int j], r, Q => Q r (z i j)
  | _, _, _ => False
def oMax2 := oI2 fun i j => .int (if j > i then j else i)
def oMin2 := oI2 fun i j => .int (if j < i then j else i)
theorem sc_I2 {w : Int → Int → V} {z : Int → Int → D} (h : ∀ i j N H, Rep N H (z i j) (w i j)) : SC (fun xs H Q => ∃ i j, xs = [.int i, .int j] ∧ Q (w i j) H) (oI2 z) := fun N H r vs ds Q QQ hc hr q k => by
  unfold oI2 at q
  split at q
  · obtain ⟨v, v', rfl, h1, h2⟩ := rep2 hr
    unfold Rep at h1 h2
    subst h1; subst h2
    exact ⟨_, _, rfl, k _ H r _ hc (Kr.refl _ _) (h ..) q⟩
  · exact q.elim
theorem pd_max2 (hcm : X.calm = true) (hm : X.mg "max" = none) (ha : PDA X (a :: es) u h) (hg : Gl X "max" := by rfl) (he : starEach (a :: es) X.env = (false, eval a X.env) :: starEach es X.env := by rfl) (hpl : (backTo pos (starEach es X.env)).any (·.1) = false := by rfl) :
    PD X (.Call (.Name "max" p) (a :: es) [] pos) (tCB (fun xs H Q => ∃ i j, xs = [.int i, .int j] ∧ Q (.int (if j > i then j else i)) H) u) (dCB oMax2 h) :=
  ⟨pe_callB (call_max2 hcm) hg hm (by decide +kernel) ha.pa (by decide) (by decide) he hpl, se_cb (sc_I2 fun _ _ _ _ => rep_int) ha.sa⟩
theorem pd_min2 (hcm : X.calm = true) (hm : X.mg "min" = none) (ha : PDA X (a :: es) u h) (hg : Gl X "min" := by rfl) (he : starEach (a :: es) X.env = (false, eval a X.env) :: starEach es X.env := by rfl) (hpl : (backTo pos (starEach es X.env)).any (·.1) = false := by rfl) :
    PD X (.Call (.Name "min" p) (a :: es) [] pos) (tCB (fun xs H Q => ∃ i j, xs = [.int i, .int j] ∧ Q (.int (if j < i then j else i)) H) u) (dCB oMin2 h) :=
  ⟨pe_callB (call_min2 hcm) hg hm (by decide +kernel) ha.pa (by decide) (by decide) he hpl, se_cb (sc_I2 fun _ _ _ _ => rep_int) ha.sa⟩
def oAbs : List D → R → (R → D → Prop) → Prop
  | [.int i], r, Q => Q r (.int (if i < 0 then -i else i))
  | _, _, _ => False
theorem sc_abs : SC (fun xs H Q => ∃ i, xs = [.int i] ∧ Q (.int (if i < 0 then -i else i)) H) oAbs := fun N H r vs ds Q QQ hc hr q k => by
  unfold oAbs at q
  split at q
  · obtain ⟨v, rfl, h1⟩ := rep1 hr
    unfold Rep at h1
    subst h1
    exact ⟨_, rfl, k _ H r _ hc (Kr.refl _ _) rep_int q⟩
  · exact q.elim
theorem pd_abs (hm : X.mg "abs" = none) (ha : PDA X (a :: es) u h) (hg : Gl X "abs" := by rfl) (he : starEach (a :: es) X.env = (false, eval a X.env) :: starEach es X.env := by rfl) (hpl : (backTo pos (starEach es X.env)).any (·.1) = false := by rfl) :
    PD X (.Call (.Name "abs" p) (a :: es) [] pos) (tCB (fun xs H Q => ∃ i, xs = [.int i] ∧ Q (.int (if i < 0 then -i else i)) H) u) (dCB oAbs h) :=
  ⟨pe_callB call_abs hg hm (by decide +kernel) ha.pa (by decide) (by decide) he hpl, se_cb sc_abs ha.sa⟩
def oInt1 : List D → R → (R → D → Prop) → Prop
  | [.int i], r, Q => Q r (.int i)
  | [.bl x], r, Q => Q r (.int (if x then 1 else 0))
  | _, _, _ => False
theorem sc_int1 : SC (fun xs H Q => (∃ i, xs = [.int i] ∧ Q (.int i) H) ∨ ∃ k, xs = [.bl k] ∧ Q (.int (if k then 1 else 0)) H) oInt1 := fun N H r vs ds Q QQ hc hr q k => by
  unfold oInt1 at q
  split at q
  · obtain ⟨v, rfl, h1⟩ := rep1 hr
    unfold Rep at h1
    subst h1
    exact .inl ⟨_, rfl, k _ H r _ hc (Kr.refl _ _) rep_int q⟩
  · obtain ⟨v, rfl, h1⟩ := rep1 hr
    unfold Rep at h1
    subst h1
    exact .inr ⟨_, rfl, k _ H r _ hc (Kr.refl _ _) rep_int q⟩
  · exact q.elim
theorem pd_int1 (hm : X.mg "int" = none) (ha : PDA X (a :: es) u h) (hg : Gl X "int" := by rfl) (he : starEach (a :: es) X.env = (false, eval a X.env) :: starEach es X.env := by rfl) (hpl : (backTo pos (starEach es X.env)).any (·.1) = false := by rfl) :
    PD X (.Call (.Name "int" p) (a :: es) [] pos) (tCB (fun xs H Q => (∃ i, xs = [.int i] ∧ Q (.int i) H) ∨ ∃ k, xs = [.bl k] ∧ Q (.int (if k then 1 else 0)) H) u) (dCB oInt1 h) :=
  ⟨pe_callTy call_int1 hg hm (by decide +kernel) ha.pa (by decide) (by decide) he hpl, se_cb sc_int1 ha.sa⟩
def oAll (w : List Bool → Bool) : List D → R → (R → D → Prop) → Prop
  | [x], r, Q => ∃ bs : List Bool, lstOf r x = some (bs.map D.bl) ∧ Q r (.bl (w bs))
  | _, _, _ => False
theorem sc_all (K : PySem.W.Frag) (w : List Bool → Bool) : SC (fun vs H Q => ∃ (z : Addr) (bs : List Bool), vs = [V.ref z] ∧ SqL K H z (bs.map V.bl) ∧ Q (.bl (w bs)) H) (oAll w) := fun N H r vs ds Q QQ hc hr q k => by
  unfold oAll at q
  split at q
  · obtain ⟨bs, e, q⟩ := q
    obtain ⟨v, rfl, hv⟩ := rep1 hr
    obtain ⟨z, ws, rfl, g, l⟩ := lstOf_sq (K := K) hc hv e
    rw [l.bls] at g
    exact ⟨z, bs, rfl, g, k _ H r _ hc (Kr.refl _ _) rep_bl q⟩
  · exact q.elim
theorem pd_all {K : PySem.W.Frag} (hc : X.calm = true) (hm : X.mg "all" = none) (ha : PDA X (a :: es) u h) (hg : Gl X "all" := by rfl) (he : starEach (a :: es) X.env = (false, eval a X.env) :: starEach es X.env := by rfl) (hpl : (backTo pos (starEach es X.env)).any (·.1) = false := by rfl) (hK : X.K = K := by rfl) :
    PD X (.Call (.Name "all" p) (a :: es) [] pos) (tCB (rAll K) u) (dCB (oAll fun bs => bs.all id) h) := by
  subst hK
  exact ⟨pe_callB (cr_all hc) hg hm (by decide +kernel) ha.pa (by decide) (by decide) he hpl, se_cb (sc_all X.K fun bs => bs.all id) ha.sa⟩
theorem pd_any {K : PySem.W.Frag} (hc : X.calm = true) (hm : X.mg "any" = none) (ha : PDA X (a :: es) u h) (hg : Gl X "any" := by rfl) (he : starEach (a :: es) X.env = (false, eval a X.env) :: starEach es X.env := by rfl) (hpl : (backTo pos (starEach es X.env)).any (·.1) = false := by rfl) (hK : X.K = K := by rfl) :
    PD X (.Call (.Name "any" p) (a :: es) [] pos) (tCB (rAny K) u) (dCB (oAll fun bs => bs.any id) h) := by
  subst hK
  exact ⟨pe_callB (cr_any hc) hg hm (by decide +kernel) ha.pa (by decide) (by decide) he hpl, se_cb (sc_all X.K fun bs => bs.any id) ha.sa⟩
def oSort (mk : Bool) : List D → R → (R → D → Prop) → Prop
  | [x], r, Q => ∃ ns : List Int, lstOf r x = some (ns.map D.int) ∧ ∀ ns' : List Int, ns'.Perm ns → ns'.Pairwise (· ≤ ·) → mkD mk (ns'.map D.int) r Q
  | _, _, _ => False
theorem sc_sort (K : PySem.W.Frag) (mk : Bool) : SC (rSortedI K) (oSort mk) := fun N H r vs ds Q QQ hc hr q k => by
  unfold oSort at q
  split at q
  · obtain ⟨ns, e, q⟩ := q
    obtain ⟨v, rfl, hv⟩ := rep1 hr
    obtain ⟨z, ws, rfl, g, l⟩ := lstOf_sq (K := K) hc hv e
    rw [l.ints] at g
    exact ⟨z, ns, rfl, g, fun ns' p h1 h2 hp => mkD_ok hc (RepL.ofInts ns') (q ns' h1 h2) k hp⟩
  · exact q.elim
theorem pd_sort {K : PySem.W.Frag} (mk : Bool) (hm : X.mg "sorted" = none) (ha : PDA X (a :: es) u h) (hg : Gl X "sorted" := by rfl) (he : starEach (a :: es) X.env = (false, eval a X.env) :: starEach es X.env := by rfl) (hpl : (backTo pos (starEach es X.env)).any (·.1) = false := by rfl) (hK : X.K = K := by rfl) :
    PD X (.Call (.Name "sorted" p) (a :: es) [] pos) (tCB (rSortedI K) u) (dCB (oSort mk) h) := by
  subst hK
  exact ⟨pe_callB cr_sortedI hg hm (by decide +kernel) ha.pa (by decide) (by decide) he hpl, se_cb (sc_sort X.K mk) ha.sa⟩
/-- isinstance(x, T) -/
def tyn (r : R) : D → Option String
  | .non => some "NoneType"
  | .bl _ => some "bool"
  | .int _ => some "int"
  | .str _ => some "str"
  | .lst _ => some "list"
  | .scr _ => some "list"
  | .tup _ => some "tuple"
  | .dct _ => some "dict"
  | .ob z => match r.lookup z with
    | some (.lst _) => some "list"
    | some (.dct _) => some "dict"
    | _ => none
  | _ => none
theorem tyn_of {K : PySem.W.Frag} {N : Addr → Prop} {H : Hp} {r : R} {d : D} {v : V} {n : String} (hc : Cs N H r) (hr : Rep (Av N r) H d v) (e : tyn r d = some n) : TyX K H v (.type n) := by
  cases d with
  | non => unfold Rep at hr; subst hr; cases e; exact .base .non
  | bl x => unfold Rep at hr; subst hr; cases e; exact .base (.bl x)
  | int x => unfold Rep at hr; subst hr; cases e; exact .base (.int x)
  | str x => unfold Rep at hr; subst hr; cases e; exact .base (.str x)
  | ty x => cases e
  | ob z =>
    have e' : (match r.lookup z with | some (.lst _) => some "list" | some (.dct _) => some "dict" | _ => none) = some n := e
    unfold Rep at hr
    subst hr
    cases q : r.lookup z with
    | none => rw [q] at e'; cases e'
    | some cl =>
      rw [q] at e'
      cases cl with
      | lst ys =>
        cases e'
        obtain ⟨vs, h1, h2⟩ := hc.cl _ (lookup_mem q)
        exact .base (.lst h1)
      | dct kvs =>
        cases e'
        exact .base (.dK (hc.cl _ (lookup_mem q)))
      | ins _ _ _ => cases e'
  | dct kvs => unfold Rep at hr; obtain ⟨z, rfl, _, g⟩ := hr; cases e; exact .base (.dK g)
  | scr ns => unfold Rep at hr; obtain ⟨z, rfl, _, o, g⟩ := hr; cases e; exact .base (.frz g)
  | lst xs => unfold Rep at hr; obtain ⟨z, vs, rfl, _, g, _⟩ := hr; cases e; exact .base (.lst g)
  | tup xs => unfold Rep at hr; obtain ⟨z, vs, rfl, _, g, _⟩ := hr; cases e; exact .base (.tup g)
def isB (m n : String) : Bool := decide (m = n) || (decide (m = "bool") && decide (n = "int"))
def tyns : List String := ["NoneType", "bool", "int", "str", "list", "tuple", "dict"]
theorem kit_isB : ∀ m ∈ tyns, ∀ n ∈ tyns, kitB m n = some (isB m n) := by decide +kernel
theorem tyn_in {r : R} {d : D} {n : String} (e : tyn r d = some n) : n ∈ tyns := by
  unfold tyn at e
  split at e
  case h_9 => split at e <;> first | (cases e; decide) | cases e
  all_goals first | (cases e; decide) | cases e
def oIsi : List D → R → (R → D → Prop) → Prop
  | [x, .ty n], r, Q => ∃ m, tyn r x = some m ∧ n ∈ tyns ∧ Q r (.bl (isB m n))
  | _, _, _ => False
theorem sc_isi (K : PySem.W.Frag) : SC (rIsi K) oIsi := fun N H r vs ds Q QQ hc hr q k => by
  unfold oIsi at q
  split at q
  · obtain ⟨m, e, hn, q⟩ := q
    obtain ⟨v, v', rfl, h1, h2⟩ := rep2 hr
    have t := tyn_of (K := K) hc h1 e
    unfold Rep at h2
    subst h2
    exact ⟨v, _, _, _, _, rfl, .ty _, t, kit_ty (kit_isB m (tyn_in e) _ hn), k _ H r _ hc (Kr.refl _ _) rep_bl q⟩
  · exact q.elim
theorem pd_isi {K : PySem.W.Frag} (hm : X.mg "isinstance" = none) (ha : PDA X (a :: es) u h) (hg : Gl X "isinstance" := by rfl) (he : starEach (a :: es) X.env = (false, eval a X.env) :: starEach es X.env := by rfl) (hpl : (backTo pos (starEach es X.env)).any (·.1) = false := by rfl) (hK : X.K = K := by rfl) :
    PD X (.Call (.Name "isinstance" p) (a :: es) [] pos) (tCB (rIsi K) u) (dCB oIsi h) := by
  subst hK
  exact ⟨pe_callB call_isi hg hm (by decide +kernel) ha.pa (by decide) (by decide) he hpl, se_cb (sc_isi X.K) ha.sa⟩
/-- isinstance(x, (T1, T2, ..)) -/
def tysOf : List D → Option (List String)
  | [] => some []
  | .ty n :: ds => (tysOf ds).map (n :: ·)
  | _ :: _ => none
def oIsT : List D → R → (R → D → Prop) → Prop
  | [x, .tup ts], r, Q => ∃ m ns, tyn r x = some m ∧ tysOf ts = some ns ∧ (∀ n ∈ ns, n ∈ tyns) ∧ Q r (.bl (ns.any (isB m)))
  | _, _, _ => False
theorem tys_rep {N : Addr → Prop} {H : Hp} : ∀ {ts : List D} {ns : List String} {vs : List V}, tysOf ts = some ns → RepL N H ts vs → Paired ClsV vs (ns.map Value.type)
  | [], _, _, e, h => by unfold tysOf at e; cases e; unfold RepL at h; subst h; exact .nil
  | d :: ds, _, _, e, h => by
    unfold RepL at h
    obtain ⟨v, ws, rfl, h1, h2⟩ := h
    cases d <;> unfold tysOf at e <;> try cases e
    obtain ⟨ns, e1, rfl⟩ := Option.map_eq_some_iff.mp e
    unfold Rep at h1
    subst h1
    exact .cons (.ty _) (tys_rep e1 h2)
theorem kit_anyB {K : PySem.W.Frag} {m : String} (hm : m ∈ tyns) : ∀ {ns : List String}, (∀ n ∈ ns, n ∈ tyns) → PySem.W.kitAny K (.type m) (ns.map Value.type) = some (ns.any (isB m))
  | [], _ => kitAny_nil
  | n :: ns, h => kitAny_cons (kit_ty (kit_isB m hm n (h n List.mem_cons_self))) (fun z => by rw [List.any_cons, z]; exact kit_anyB hm fun x hx => h x (List.mem_cons_of_mem _ hx)) (fun z => by rw [List.any_cons, z]; rfl)
theorem sc_isT (K : PySem.W.Frag) : SC (rIsiT K) oIsT := fun N H r vs ds Q QQ hc hr q k => by
  unfold oIsT at q
  split at q
  · obtain ⟨m, ns, e, e2, hn, q⟩ := q
    obtain ⟨v, v', rfl, h1, h2⟩ := rep2 hr
    have t := tyn_of (K := K) hc h1 e
    unfold Rep at h2
    obtain ⟨z, ws, rfl, _, g, l⟩ := h2
    exact ⟨v, z, ws, _, _, _, rfl, g, tys_rep e2 l, t, kit_anyB (tyn_in e) hn, k _ H r _ hc (Kr.refl _ _) rep_bl q⟩
  · exact q.elim
theorem pd_isT {K : PySem.W.Frag} (hm : X.mg "isinstance" = none) (ha : PDA X (a :: es) u h) (hg : Gl X "isinstance" := by rfl) (he : starEach (a :: es) X.env = (false, eval a X.env) :: starEach es X.env := by rfl) (hpl : (backTo pos (starEach es X.env)).any (·.1) = false := by rfl) (hK : X.K = K := by rfl) :
    PD X (.Call (.Name "isinstance" p) (a :: es) [] pos) (tCB (rIsiT K) u) (dCB oIsT h) := by
  subst hK
  exact ⟨pe_callB call_isiT hg hm (by decide +kernel) ha.pa (by decide) (by decide) he hpl, se_cb (sc_isT X.K) ha.sa⟩
/-- list(x), tuple(x) -/
def oList (mk : Bool) : List D → R → (R → D → Prop) → Prop
  | [x], r, Q => ∃ xs, seqOf r x = some xs ∧ mkD mk xs r Q
  | _, _, _ => False
theorem sc_list (K : PySem.W.Frag) (mk : Bool) : SC (fun xs H Q => ∃ p ys, xs = [.ref p] ∧ (SqL K H p ys ∨ SqT K H p ys) ∧ ∀ l, H l = none → Q (.ref l) (upd H l (.lst ys))) (oList mk) := fun N H r vs ds Q QQ hc hr q k => by
  unfold oList at q
  split at q
  · obtain ⟨xs, e, q⟩ := q
    obtain ⟨v, rfl, hv⟩ := rep1 hr
    obtain ⟨z, ws, rfl, g, l⟩ := seqOf_sq (K := K) hc hv e
    exact ⟨z, ws, rfl, g, fun p hp => mkD_ok hc l q k hp⟩
  · exact q.elim
theorem pd_list {K : PySem.W.Frag} (mk : Bool) (hm : X.mg "list" = none) (ha : PDA X (a :: es) u h) (hg : Gl X "list" := by rfl) (he : starEach (a :: es) X.env = (false, eval a X.env) :: starEach es X.env := by rfl) (hpl : (backTo pos (starEach es X.env)).any (·.1) = false := by rfl) (hK : X.K = K := by rfl) :
    PD X (.Call (.Name "list" p) (a :: es) [] pos) (tCB (fun xs H Q => ∃ p ys, xs = [.ref p] ∧ (SqL K H p ys ∨ SqT K H p ys) ∧ ∀ l, H l = none → Q (.ref l) (upd H l (.lst ys))) u) (dCB (oList mk) h) := by
  subst hK
  exact ⟨pe_callTy call_list_of hg hm (by decide +kernel) ha.pa (by decide) (by decide) he hpl, se_cb (sc_list X.K mk) ha.sa⟩
def oTuple : List D → R → (R → D → Prop) → Prop
  | [.tup xs], r, Q => Q r (.tup xs)
  | [x], r, Q => ∃ xs, lstOf r x = some xs ∧ Q r (.tup xs)
  | _, _, _ => False
theorem sc_tuple (K : PySem.W.Frag) : SC (fun xs H Q => ∃ p ys, xs = [.ref p] ∧ ((SqL K H p ys ∧ ∀ l, H l = none → Q (.ref l) (upd H l (.tup ys))) ∨ (SqT K H p ys ∧ Q (.ref p) H))) oTuple := fun N H r vs ds Q QQ hc hr q k => by
  unfold oTuple at q
  split at q
  · obtain ⟨v, rfl, hv⟩ := rep1 hr
    have h0 := hv
    unfold Rep at hv
    obtain ⟨z, ws, rfl, _, g, l⟩ := hv
    exact ⟨z, ws, rfl, .inr ⟨.inl (.inl g), k _ H r _ hc (Kr.refl _ _) h0 q⟩⟩
  · obtain ⟨xs, e, q⟩ := q
    obtain ⟨v, rfl, hv⟩ := rep1 hr
    obtain ⟨z, ws, rfl, g, l⟩ := lstOf_sq (K := K) hc hv e
    exact ⟨z, ws, rfl, .inl ⟨g, fun p hp => k _ _ r _ (new_cs hc hp) (new_kr hp) (new_tup hc hp l) q⟩⟩
  · exact q.elim
theorem pd_tuple {K : PySem.W.Frag} (hm : X.mg "tuple" = none) (ha : PDA X (a :: es) u h) (hg : Gl X "tuple" := by rfl) (he : starEach (a :: es) X.env = (false, eval a X.env) :: starEach es X.env := by rfl) (hpl : (backTo pos (starEach es X.env)).any (·.1) = false := by rfl) (hK : X.K = K := by rfl) :
    PD X (.Call (.Name "tuple" p) (a :: es) [] pos) (tCB (fun xs H Q => ∃ p ys, xs = [.ref p] ∧ ((SqL K H p ys ∧ ∀ l, H l = none → Q (.ref l) (upd H l (.tup ys))) ∨ (SqT K H p ys ∧ Q (.ref p) H))) u) (dCB oTuple h) := by
  subst hK
  exact ⟨pe_callTy call_tuple_of hg hm (by decide +kernel) ha.pa (by decide) (by decide) he hpl, se_cb (sc_tuple X.K) ha.sa⟩
/-! ### what a cell's list does -/
theorem set_cell {N : Addr → Prop} {H : Hp} {r : R} {z : Addr} {xs : List D} {vs : List V} (hc : Cs N H r) (m : z ∈ adr r) (l : RepL (Av N r) H xs vs) : Cs N (upd H z (.lst vs)) (put r z (.lst xs)) :=
  put_cs hc m ⟨vs, upd_same, l.kr (put_kr m)⟩

/-! ### methods of lists and texts -/
def SM (r1 : V → List V → Hp → VK → Prop) (o : D → List D → R → (R → D → Prop) → Prop) : Prop := ∀ (N : Addr → Prop) (H : Hp) (r : R) (x : V) (dx : D) (vs : List V) (ds : List D) (Q : R → D → Prop) (QQ : VK), Cs N H r → Rep (Av N r) H dx x → RepL (Av N r) H ds vs → o dx ds r Q →
  (∀ v H' r' d, Cs N H' r' → Kr r H r' H' → Rep (Av N r') H' d v → Q r' d → QQ v H') → r1 x vs H QQ
def okT (K : PySem.W.Frag) (T : String) (ok : R → D → Prop) : Prop := ∀ (N : Addr → Prop) (H : Hp) (r : R) (x : V) (dx : D), Cs N H r → Rep (Av N r) H dx x → ok r dx → tyV K T x H
def dM (ok : R → D → Prop) (o : D → List D → R → (R → D → Prop) → Prop) (fo : DE) (h : DA) : DE := fun r g Q => fo r g fun r1 x => ok r1 x ∧ h r1 g fun r2 ds => o x ds r2 Q
def isL (r : R) (x : D) : Prop := (lstOf r x).isSome = true
def isS (_ : R) : D → Prop
  | .str _ => True
  | _ => False
theorem okT_L (K : PySem.W.Frag) : okT K "list" isL := fun N H r x dx hc hx ok => by
  obtain ⟨xs, e⟩ := Option.isSome_iff_exists.mp ok
  obtain ⟨z, vs, rfl, g, _⟩ := lstOf_sq (K := K) hc hx e
  exact .inl ⟨rfl, vs, g⟩
theorem okT_S (K : PySem.W.Frag) : okT K "str" isS := fun N H r x dx hc hx ok => by
  unfold isS at ok
  split at ok
  · unfold Rep at hx; subst hx; rfl
  · exact ok.elim
theorem se_m {K : PySem.W.Frag} {T : String} {ok : R → D → Prop} {o : D → List D → R → (R → D → Prop) → Prop} {r1 : V → List V → Hp → VK → Prop} {to : TE} (hk : okT K T ok) (ho : SM r1 o) (ha : SE to fa) (hh : SA u h) : SE (tBM K T r1 to u) (dM ok o fa h) := fun N H r σ g Q QQ hc hg q k =>
  ha N H r σ g _ _ hc hg q fun x H1 r1 dx c1 k1 p1 ⟨q1, q2⟩ => ⟨hk N H1 r1 x dx c1 p1 q1, hh N H1 r1 σ g _ _ c1 (hg.kr k1) q2 fun vs H2 r2 ds c2 k2 p2 q3 =>
    ho N H2 r2 x dx vs ds Q QQ c2 (p1.kr k2) p2 q3 fun v H' r' d a1 a2 a3 a4 => k v H' r' d a1 ((k1.trans k2).trans a2) a3 a4⟩
theorem se_m0 {K : PySem.W.Frag} {T : String} {ok : R → D → Prop} {o : D → List D → R → (R → D → Prop) → Prop} {r1 : V → List V → Hp → VK → Prop} {to : TE} (hk : okT K T ok) (ho : SM r1 o) (ha : SE to fa) : SE (tBM0 K T r1 to) (dM ok o fa dNil) := fun N H r σ g Q QQ hc hg q k =>
  ha N H r σ g _ _ hc hg q fun x H1 r1 dx c1 k1 p1 ⟨q1, q2⟩ => ⟨hk N H1 r1 x dx c1 p1 q1,
    ho N H1 r1 x dx [] [] Q QQ c1 p1 .nil q2 fun v H' r' d a1 a2 a3 a4 => k v H' r' d a1 (k1.trans a2) a3 a4⟩
theorem pd_bm {K : PySem.W.Frag} {T id : String} {name : Str} {apos cpos : Pos} {ok : R → D → Prop} {om : D → List D → R → (R → D → Prop) → Prop} {r1 : V → List V → Hp → VK → Prop} {o : Expr} {to : TE} {fo : DE} (pa : PlainAttrs T) (slot : Slot T name id) (hty : typeOf (.builtin id) = pure (.type "method_descriptor"))
    (hm : MtR X id r1) (hk : okT X.K T ok) (hs : SM r1 om) (ho : PD X o to fo) (ha : PDA X (a :: es) u h) (hbase : attributeBase o name X.env (eval o X.env) = eval o X.env := by rfl)
    (hfew : ((backTo cpos (starEach (a :: es) X.env)).all (fun x => !x.1) && (backToKw cpos (keywordEach [] X.env)).all (fun x => x.1.isSome) && decide ((a :: es).length + ([] : List Keyword).length + (if ([] : List Keyword).isEmpty then 0 else 1) < 30)) = true := by rfl)
    (hline : (apos.endLine == cpos.line) = true := by rfl) (h1 : starEach (a :: es) X.env = (false, eval a X.env) :: starEach es X.env := by rfl) (h2 : (backTo cpos (starEach es X.env)).any (·.1) = false := by rfl) (hK : X.K = K := by rfl) :
    PD X (.Call (.Attribute o name apos) (a :: es) [] cpos) (tBM K T r1 to u) (dM ok om fo h) := by
  subst hK
  exact ⟨L2.pe_bm pa slot hty hm ho.pe ha.pa hbase hfew hline h1 h2, se_m hk hs ho.se ha.sa⟩
theorem pd_bm0 {K : PySem.W.Frag} {T id : String} {name : Str} {apos cpos : Pos} {ok : R → D → Prop} {om : D → List D → R → (R → D → Prop) → Prop} {r1 : V → List V → Hp → VK → Prop} {o : Expr} {to : TE} {fo : DE} (pa : PlainAttrs T) (slot : Slot T name id) (hty : typeOf (.builtin id) = pure (.type "method_descriptor"))
    (hm : MtR X id r1) (hk : okT X.K T ok) (hs : SM r1 om) (ho : PD X o to fo) (hpe : PE X (.Call (.Attribute o name apos) [] [] cpos) (tBM0 X.K T r1 to)) (hK : X.K = K := by rfl) :
    PD X (.Call (.Attribute o name apos) [] [] cpos) (tBM0 K T r1 to) (dM ok om fo dNil) := by
  subst hK
  exact ⟨hpe, se_m0 hk hs ho.se⟩
/-- x.append(y) -/
def mApp : D → List D → R → (R → D → Prop) → Prop
  | .ob z, [y], r, Q => ∃ xs, r.lookup z = some (.lst xs) ∧ xs.length < sizeLine ∧ Q (put r z (.lst (xs ++ [y]))) .non
  | _, _, _, _ => False
theorem obRef {N : Addr → Prop} {H : Hp} {z : Addr} {v : V} (h : Rep N H (.ob z) v) : v = .ref z := by unfold Rep at h; exact h
theorem sm_app : SM rAppend mApp := fun N H r x dx vs ds Q QQ hc hx hr q k => by
  unfold mApp at q
  split at q
  · rename_i z y
    obtain ⟨xs, e, hz, q⟩ := q
    obtain ⟨v, rfl, hv⟩ := rep1 hr
    have m := lookup_mem e
    obtain ⟨ws, g1, l1⟩ := hc.cl _ m
    obtain rfl := obRef hx
    exact ⟨z, ws, v, rfl, rfl, g1, by rw [← l1.length]; exact hz, k _ _ _ _ (set_cell hc (adr_of_mem m) (l1.append (.one hv))) (put_kr (adr_of_mem m)) rep_non q⟩
  · exact q.elim
/-- x.pop() -/
def mPop : D → List D → R → (R → D → Prop) → Prop
  | .ob z, [], r, Q => ∃ xs y, r.lookup z = some (.lst xs) ∧ xs[xs.length - 1]? = some y ∧ Q (put r z (.lst xs.dropLast)) y
  | _, _, _, _ => False
theorem RepL.dropLast {N : Addr → Prop} {H : Hp} {ds : List D} {vs : List V} (l : RepL N H ds vs) : RepL N H ds.dropLast vs.dropLast := by
  rw [List.dropLast_eq_take, List.dropLast_eq_take, ← l.length]
  exact l.take _
theorem sm_pop : SM rPop mPop := fun N H r x dx vs ds Q QQ hc hx hr q k => by
  unfold mPop at q
  split at q
  · rename_i z
    obtain ⟨xs, y, e, hy, q⟩ := q
    unfold RepL at hr
    have m := lookup_mem e
    obtain ⟨ws, g1, l1⟩ := hc.cl _ m
    obtain rfl := obRef hx
    obtain ⟨v, hv, pv⟩ := l1.get hy
    have kk := put_kr (o := .lst ws.dropLast) (c := .lst xs.dropLast) (H := H) (adr_of_mem m)
    exact ⟨z, ws, v, rfl, hr, g1, by rw [← l1.length]; exact hv, k _ _ _ _ (set_cell hc (adr_of_mem m) l1.dropLast) kk (pv.kr kk) q⟩
  · exact q.elim
/-- x.pop(i) -/
def mPopAt : D → List D → R → (R → D → Prop) → Prop
  | .ob z, [.int i], r, Q => ∃ xs n y, r.lookup z = some (.lst xs) ∧ -(2 ^ 63) ≤ i ∧ i < 2 ^ 63 ∧ seqIndex? i xs.length = some n ∧ xs[n]? = some y ∧ Q (put r z (.lst (xs.eraseIdx n))) y
  | _, _, _, _ => False
theorem RepL.eraseIdx {N : Addr → Prop} {H : Hp} : ∀ {ds : List D} {vs : List V} (n : Nat), RepL N H ds vs → RepL N H (ds.eraseIdx n) (vs.eraseIdx n)
  | [], _, _, h => by unfold RepL at h; subst h; exact .nil
  | d :: ds, _, 0, h => by
    unfold RepL at h
    obtain ⟨v, ws, rfl, h1, h2⟩ := h
    exact h2
  | d :: ds, _, n + 1, h => by
    unfold RepL at h
    obtain ⟨v, ws, rfl, h1, h2⟩ := h
    exact .cons h1 (RepL.eraseIdx n h2)
theorem sm_popAt : SM rPopAt mPopAt := fun N H r x dx vs ds Q QQ hc hx hr q k => by
  unfold mPopAt at q
  split at q
  · rename_i z i
    obtain ⟨xs, n, y, e, h1, h2, h3, hy, q⟩ := q
    obtain ⟨v, rfl, hv⟩ := rep1 hr
    unfold Rep at hv
    subst hv
    have m := lookup_mem e
    obtain ⟨ws, g1, l1⟩ := hc.cl _ m
    obtain rfl := obRef hx
    obtain ⟨v, hv, pv⟩ := l1.get hy
    have kk := put_kr (o := .lst (ws.eraseIdx n)) (c := .lst (xs.eraseIdx n)) (H := H) (adr_of_mem m)
    exact ⟨z, ws, _, n, v, rfl, rfl, g1, h1, h2, by rw [← l1.length]; exact h3, hv, k _ _ _ _ (set_cell hc (adr_of_mem m) (l1.eraseIdx n)) kk (pv.kr kk) q⟩
  · exact q.elim
/-- x.clear() -/
def mClear : D → List D → R → (R → D → Prop) → Prop
  | .ob z, [], r, Q => ∃ xs, r.lookup z = some (.lst xs) ∧ Q (put r z (.lst [])) .non
  | _, _, _, _ => False
theorem sm_clear : SM rClear mClear := fun N H r x dx vs ds Q QQ hc hx hr q k => by
  unfold mClear at q
  split at q
  · rename_i z
    obtain ⟨xs, e, q⟩ := q
    unfold RepL at hr
    have m := lookup_mem e
    obtain ⟨ws, g1, l1⟩ := hc.cl _ m
    obtain rfl := obRef hx
    exact ⟨z, ws, rfl, hr, g1, k _ _ _ _ (set_cell hc (adr_of_mem m) .nil) (put_kr (adr_of_mem m)) rep_non q⟩
  · exact q.elim
/-- x.index(y) -/
def mIndex : D → List D → R → (R → D → Prop) → Prop
  | x, [y], r, Q => ∃ (xs : List D) (z : D) (n : Nat), lstOf r x = some xs ∧ flatD y = true ∧ xs.all flatD = true ∧ xs[n]? = some z ∧ eqV (toV z) (toV y) = true ∧ (∀ (m : Nat) (w : D), m < n → xs[m]? = some w → eqV (toV w) (toV y) = false) ∧ Q r (.int n)
  | _, _, _, _ => False
theorem sm_index (K : PySem.W.Frag) : SM (rIndex K) mIndex := fun N H r x dx vs ds Q QQ hc hx hr q k => by
  unfold mIndex at q
  split at q
  · obtain ⟨xs, z, n, e, f1, f2, hz, h1, h2, q⟩ := q
    obtain ⟨v, rfl, hv⟩ := rep1 hr
    obtain ⟨b, ws, rfl, g, l⟩ := lstOf_sq (K := K) hc hx e
    obtain ⟨e1, g1⟩ := toV_of hv f1
    obtain ⟨e2, g2⟩ := toVs_of l f2
    subst e1; subst e2
    refine ⟨b, _, _, n, toV z, rfl, rfl, g, g1, g2, by rw [List.getElem?_map, hz]; rfl, h1, ?_, k _ H r _ hc (Kr.refl _ _) rep_int q⟩
    intro m w hm hw
    rw [List.getElem?_map] at hw
    cases hq : xs[m]? with
    | none => rw [hq] at hw; cases hw
    | some w' =>
      rw [hq] at hw
      cases hw
      exact h2 m w' hm hq
  · exact q.elim
theorem md_app {K : PySem.W.Frag} {o : Expr} {to : TE} {fo : DE} {apos cpos : Pos} (ho : PD X o to fo) (ha : PDA X [a] u h) (hbase : attributeBase o "append" X.env (eval o X.env) = eval o X.env := by rfl)
    (hfew : ((backTo cpos (starEach [a] X.env)).all (fun x => !x.1) && (backToKw cpos (keywordEach [] X.env)).all (fun x => x.1.isSome) && decide ([a].length + ([] : List Keyword).length + (if ([] : List Keyword).isEmpty then 0 else 1) < 30)) = true := by rfl)
    (hline : (apos.endLine == cpos.line) = true := by rfl) (h1 : starEach [a] X.env = (false, eval a X.env) :: starEach [] X.env := by rfl) (hK : X.K = K := by rfl) : PD X (.Call (.Attribute o "append" apos) [a] [] cpos) (tBM K "list" rAppend to u) (dM isL mApp fo h) := by
  subst hK
  exact pd_bm PySem.F.plainAttrs_list PySem.F.slot_list_append PySem.F.type_list_append mt_append (okT_L _) sm_app ho ha hbase hfew hline h1
theorem md_popAt {K : PySem.W.Frag} {o : Expr} {to : TE} {fo : DE} {apos cpos : Pos} (ho : PD X o to fo) (ha : PDA X [a] u h) (hbase : attributeBase o "pop" X.env (eval o X.env) = eval o X.env := by rfl)
    (hfew : ((backTo cpos (starEach [a] X.env)).all (fun x => !x.1) && (backToKw cpos (keywordEach [] X.env)).all (fun x => x.1.isSome) && decide ([a].length + ([] : List Keyword).length + (if ([] : List Keyword).isEmpty then 0 else 1) < 30)) = true := by rfl)
    (hline : (apos.endLine == cpos.line) = true := by rfl) (h1 : starEach [a] X.env = (false, eval a X.env) :: starEach [] X.env := by rfl) (hK : X.K = K := by rfl) : PD X (.Call (.Attribute o "pop" apos) [a] [] cpos) (tBM K "list" rPopAt to u) (dM isL mPopAt fo h) := by
  subst hK
  exact pd_bm PySem.F.plainAttrs_list PySem.F.slot_list_pop PySem.F.type_list_pop mt_popAt (okT_L _) sm_popAt ho ha hbase hfew hline h1
theorem md_pop {K : PySem.W.Frag} {o : Expr} {to : TE} {fo : DE} {apos cpos : Pos} (ho : PD X o to fo) (hbase : attributeBase o "pop" X.env (eval o X.env) = eval o X.env := by rfl) (hline : (apos.endLine == cpos.line) = true := by rfl) (hK : X.K = K := by rfl) :
    PD X (.Call (.Attribute o "pop" apos) [] [] cpos) (tBM0 K "list" rPop to) (dM isL mPop fo dNil) := by
  subst hK
  exact ⟨pe_bm0 PySem.F.plainAttrs_list PySem.F.slot_list_pop PySem.F.type_list_pop mt_pop ho.pe hbase hline, se_m0 (okT_L _) sm_pop ho.se⟩
theorem md_clear {K : PySem.W.Frag} {o : Expr} {to : TE} {fo : DE} {apos cpos : Pos} (ho : PD X o to fo) (hbase : attributeBase o "clear" X.env (eval o X.env) = eval o X.env := by rfl) (hline : (apos.endLine == cpos.line) = true := by rfl) (hK : X.K = K := by rfl) :
    PD X (.Call (.Attribute o "clear" apos) [] [] cpos) (tBM0 K "list" rClear to) (dM isL mClear fo dNil) := by
  subst hK
  exact ⟨pe_bm0 PySem.F.plainAttrs_list PySem.F.slot_list_clear PySem.F.type_list_clear mt_clear ho.pe hbase hline, se_m0 (okT_L _) sm_clear ho.se⟩
theorem md_index {K : PySem.W.Frag} {o : Expr} {to : TE} {fo : DE} {apos cpos : Pos} (ho : PD X o to fo) (ha : PDA X [a] u h) (hbase : attributeBase o "index" X.env (eval o X.env) = eval o X.env := by rfl)
    (hfew : ((backTo cpos (starEach [a] X.env)).all (fun x => !x.1) && (backToKw cpos (keywordEach [] X.env)).all (fun x => x.1.isSome) && decide ([a].length + ([] : List Keyword).length + (if ([] : List Keyword).isEmpty then 0 else 1) < 30)) = true := by rfl)
    (hline : (apos.endLine == cpos.line) = true := by rfl) (h1 : starEach [a] X.env = (false, eval a X.env) :: starEach [] X.env := by rfl) (hK : X.K = K := by rfl) : PD X (.Call (.Attribute o "index" apos) [a] [] cpos) (tBM K "list" (rIndex K) to u) (dM isL mIndex fo h) := by
  subst hK
  exact pd_bm PySem.F.plainAttrs_list PySem.F.slot_list_index PySem.F.type_list_index mt_index (okT_L _) (sm_index _) ho ha hbase hfew hline h1
end
end DL

set_option Elab.async false
set_option linter.all false
set_option maxRecDepth 100000
set_option maxHeartbeats 4000000
namespace DL
open PySem L2 PyProof.Rows

/-! ### frames of cells -/
section
variable {N N' : Addr → Prop} {H H' H1 : Hp} {r r' r1 rc rest : R} {d : D} {v : V} {ds : List D} {vs : List V} {σ : L2.St} {g : G}
theorem adr_app {r r' : R} : adr (r ++ r') = adr r ++ adr r' := List.map_append
theorem Cs.perm (h : Cs N H r) (p : r.Perm r') : Cs N H r' := by
  have ha : (adr r).Perm (adr r') := p.map _
  have hk : Kp (Av N r) H (Av N r') H := fun b o e n => ⟨e, fun z => n (z.elim .inl fun m => .inr (ha.mem_iff.mpr m))⟩
  exact ⟨h.al, ha.nodup_iff.mp h.nd, fun b m => h.dj b (ha.mem_iff.mpr m), fun q hq => (h.cl q (p.mem_iff.mpr hq)).kp hk fun _ e => e, h.sy⟩
theorem Kr.perm (h : Kr r H r' H') (p : r'.Perm r1) : Kr r H r1 H' := fun b o e n => ⟨(h b o e n).1, fun m => (h b o e n).2 ((p.map (·.1)).mem_iff.mpr m)⟩
def Nx (N : Addr → Prop) (rest : R) : Addr → Prop := fun b => N b ∨ b ∈ adr rest
theorem Av.split {b : Addr} : Av (Nx N rest) rc b ↔ Av N (rc ++ rest) b := by
  unfold Av Nx
  rw [adr_app, List.mem_append]
  constructor
  · rintro ((h | h) | h)
    · exact .inl h
    · exact .inr (.inr h)
    · exact .inr (.inl h)
  · rintro (h | h | h)
    · exact .inl (.inl h)
    · exact .inr h
    · exact .inl (.inr h)
theorem Kp.of_iff {N1 N2 : Addr → Prop} (h : ∀ b, N2 b → N1 b) : Kp N1 H N2 H := fun b o e n => ⟨e, fun m => n (h b m)⟩
theorem Cs.split (h : Cs N H (rc ++ rest)) : Cs (Nx N rest) H rc := by
  have nd := h.nd
  rw [adr_app] at nd
  obtain ⟨n1, n2, n3⟩ := List.nodup_append.mp nd
  refine ⟨fun b m => m.elim (h.al b) fun m => h.has (by rw [adr_app]; exact List.mem_append_right _ m), n1, fun b m z => z.elim (h.dj b (by rw [adr_app]; exact List.mem_append_left _ m)) fun z => n3 b m b z rfl, fun q hq => (h.cl q (List.mem_append_left _ hq)).kp (Kp.of_iff fun b => Av.split.mp) fun _ e => e, .inl h.sy⟩
theorem Cs.join (h0 : Cs N H (rc ++ rest)) (h : Cs (Nx N rest) H' r') (k : Kr rc H r' H') : Cs N H' (r' ++ rest) ∧ Kr (rc ++ rest) H (r' ++ rest) H' := by
  have nd := h0.nd
  rw [adr_app] at nd
  obtain ⟨n1, n2, n3⟩ := List.nodup_append.mp nd
  have kk : Kr (rc ++ rest) H (r' ++ rest) H' := fun b o e n => by
    rw [adr_app, List.mem_append, not_or] at n
    obtain ⟨h1, h2⟩ := k b o e n.1
    exact ⟨h1, by rw [adr_app, List.mem_append, not_or]; exact ⟨h2, n.2⟩⟩
  refine ⟨⟨fun b m => h.al b (.inl m), ?_, fun b m => ?_, fun q hq => ?_, h0.sy⟩, kk⟩
  · rw [adr_app]
    exact List.nodup_append.mpr ⟨h.nd, n2, fun a ha b hb e => h.dj a ha (.inr (e ▸ hb))⟩
  · rw [adr_app, List.mem_append] at m
    rcases m with m | m
    · exact fun z => h.dj b m (.inl z)
    · exact h0.dj b (by rw [adr_app]; exact List.mem_append_right _ m)
  · rcases List.mem_append.mp hq with hq | hq
    · exact (h.cl q hq).kp (Kp.of_iff fun b => Av.split.mpr) fun _ e => e
    · have ha : q.1 ∉ adr rc := fun m => n3 _ m _ (List.mem_map.mpr ⟨q, hq, rfl⟩) rfl
      exact (h0.cl q (List.mem_append_right _ hq)).kp kk.kp fun o e => (k _ o e ha).1
/-- fewer cells, in any order -/
def Sub (r' r : R) : Prop := ∃ r0 : R, r'.Perm r0 ∧ r0.Sublist r
theorem Sub.refl (r : R) : Sub r r := ⟨r, .refl r, .refl r⟩
theorem Sub.of (h : List.Sublist r' r) : Sub r' r := ⟨r', .refl r', h⟩
theorem Sub.ofP (h : r'.Perm r) : Sub r' r := ⟨r, h, .refl r⟩
theorem Sub.mem (s : Sub r' r) {b : Addr} (m : b ∈ adr r') : b ∈ adr r := let ⟨_, p, q⟩ := s; (q.map (·.1)).subset ((p.map (·.1)).mem_iff.mp m)
theorem Sub.cs (s : Sub r' r) (h : Cs N H r) : Cs N H r' := let ⟨_, p, q⟩ := s; (sub_cs h q).perm p.symm
theorem Sub.kr (s : Sub r' r) : Kr r H r' H := fun b o e n => ⟨e, fun m => n (s.mem m)⟩
theorem Gs.sub (h : Gs (Av N r) H σ g) (s : Sub r' r) : Gs (Av N r') H σ g := ⟨h.ln, fun i d e => let ⟨v, e1, e2⟩ := h.sl i d e; ⟨v, e1, Rep.kp (sub_kp fun b m => s.mem m) _ _ e2⟩⟩
end

/-! ### what a def promises -/
abbrev DSp := R → List D → (R → D → Prop) → Prop
def lft (sp : DSp) : Sp := fun vs H QQ _ => ∃ (N : Addr → Prop) (r : R) (ds : List D) (Q : R → D → Prop), Cs N H r ∧ RepL (Av N r) H ds vs ∧ sp r ds Q ∧ ∀ v H' r' d, Cs N H' r' → Kr r H r' H' → Rep (Av N r') H' d v → Q r' d → QQ v H'
/-- a def's promise where no repr runs above it -/
structure FnG (P : Program) (w : World) (K : PySem.W.Frag) (mg : Str → Option Value) (base : Heap) (CX : CXT) (k : Nat) (f : Addr) (fd : FuncData) (ps : List Str) (sp : Sp) : Prop where
  len : ∀ vs H Q E, sp vs H Q E → vs.length = ps.length
  run : ∀ (A : Around) (outer : List Env) (s : Shared) (H : Hp) (args : Args) (us : List Value) (vs : List V) (Q : VK) (E : XK), A.guards = some [] → Room k A → Env0 P w K mg base A outer s H → BindsTo s fd args (ps.zip us) → Vals vs us → sp vs H Q E → codeAny (model P w) A (.call (.ref f) args) (CR CX outer P w H s Q E) s
theorem FnG.mono {P : Program} {w : World} {K : PySem.W.Frag} {mg : Str → Option Value} {base : Heap} {CX : CXT} {j k : Nat} {f : Addr} {fd : FuncData} {ps : List Str} {sp : Sp} (F : FnG P w K mg base CX j f fd ps sp) (h : j ≤ k) : FnG P w K mg base CX k f fd ps sp :=
  ⟨F.len, fun A outer s H args us vs Q E hg hr => F.run A outer s H args us vs Q E hg (hr.mono h)⟩
abbrev FnD (P : Program) (w : World) (K : PySem.W.Frag) (mg : Str → Option Value) (base : Heap) (k : Nat) (f : Addr) (fd : FuncData) (ps : List Str) (sp : DSp) : Prop := FnG P w K mg base CX0 k f fd ps (lft sp)
theorem run_g {X : Cx} {CX : CXT} {k : Nat} {f : Addr} {fd : FuncData} {ps : List Str} {sp : Sp} {E : XK} {pins : List (Addr × Obj)} {σ : L2.St} {H : Hp} {s : Shared} {Q : VK} {us : List Value} {vs : List V} (F : FnG X.prog X.w X.K X.mg X.base CX k f fd ps sp) (hG : X.A.guards = some []) (hr : Room k X.A)
    (hb : Binds X.K fd ps []) (hx : Passes CX X E) (I : Inv X pins σ H s) (r : Vals vs us) (h : sp vs H Q E) : wpAny (model X.prog X.w) X.A (call (.ref f) us) (EP X pins σ Q) X.xe s := by
  have hl : (us ++ []).length = ps.length := by rw [List.append_nil, ← r.length]; exact F.len _ _ _ _ h
  have bt := hb s us I.kIn hl
  rw [List.append_nil] at bt
  refine wpAny_call (codeAny_mono (F.run X.A X.stack s H ⟨us, []⟩ us vs Q E hG hr I.env0 bt r h) fun r s' q => ?_)
  match r, q with
  | .error e, q => exact hx pins σ H s e s' I q
  | .ok (.ret u), q => exact I.after q
  | .ok .next, q => exact False.elim q
  | .ok .brk, q => exact False.elim q
  | .ok .cont, q => exact False.elim q
def tCallG (sp : Sp) (E : XK) (t : TA) : TE := fun σ H Q => t σ H fun vs H1 => sp vs H1 Q E
section
variable {X : Cx} {e a b c : Expr} {te ta tb tc : TE} {f fa fb fc : DE} {pos p p2 q0 : Pos} {es rest : List Expr} {tA tB' : TT} {fA fB : DT} {u : TA} {h : DA}
theorem pe_callG {CX : CXT} {k : Nat} {fx : Addr} {fd : FuncData} {ps : List Str} {sp : Sp} {E : XK} {x : Str} (F : FnG X.prog X.w X.K X.mg X.base CX k fx fd ps sp) (hG : X.A.guards = some []) (hr : Room k X.A) (hm : X.mg x = some (.ref fx)) (hk : PySem.W.keepIn X.K (.ref fx) = true)
    (hb : Binds X.K fd ps []) (hx : Passes CX X E) (ha : PA X (a :: es) u) (hg : Gl X x := by rfl) (hdb : (x == ("__debug__" : Str)) = false := by decide) (he : starEach (a :: es) X.env = (false, eval a X.env) :: starEach es X.env := by rfl) (hpl : (backTo pos (starEach es X.env)).any (·.1) = false := by rfl) :
    PE X (.Call (.Name x p) (a :: es) [] pos) (tCallG sp E u) := by
  refine ⟨fun pins s σ H Q I q => wpAny_Call_Name_kw (ld_glob I hg hm ?_ hdb)⟩
  exact PySem.W.callWith_K (h₀ := X.base) I.ok.mod.kin hk (thn (ha.run pos pins s σ H _ I q) fun us s1 ⟨vs, H1, I1, r, q⟩ => ⟨I1.kIn, run_g F hG hr hb hx I1 r q⟩) he hpl
theorem pe_callG0 {CX : CXT} {k : Nat} {fx : Addr} {fd : FuncData} {ps : List Str} {sp : Sp} {E : XK} {x : Str} (F : FnG X.prog X.w X.K X.mg X.base CX k fx fd ps sp) (hG : X.A.guards = some []) (hr : Room k X.A) (hm : X.mg x = some (.ref fx)) (hk : PySem.W.keepIn X.K (.ref fx) = true)
    (hb : Binds X.K fd ps []) (hx : Passes CX X E) (hg : Gl X x := by rfl) (hdb : (x == ("__debug__" : Str)) = false := by decide) : PE X (.Call (.Name x p) [] [] pos) (tCallG sp E tNil) := by
  refine ⟨fun pins s σ H Q I q => wpAny_Call_Name_kw (ld_glob I hg hm ?_ hdb)⟩
  exact PySem.W.callWith_K0 I.kIn hk (run_g (us := []) F hG hr hb hx I .nil q)
/-- f(..): of the cells, rc are handed over -/
def dCall (sp : DSp) (h : DA) : DE := fun r g Q => h r g fun r1 ds => ∃ rc rest, r1.Perm (rc ++ rest) ∧ sp rc ds fun r2 d => Q (r2 ++ rest) d
theorem se_call {sp : DSp} {E : XK} (ha : SA u h) : SE (tCallG (lft sp) E u) (dCall sp h) := fun N H r σ g Q QQ hc hg q k =>
  ha N H r σ g _ _ hc hg q fun vs H1 r1 ds c1 k1 p1 ⟨rc, rest, hp, q1⟩ => by
    have c2 := c1.perm hp
    have k2 := k1.perm hp
    refine ⟨Nx N rest, rc, ds, _, c2.split, RepL.kp (Kp.of_iff fun b z => ?_) _ _ p1, q1, fun v H' r' d a1 a2 a3 a4 => ?_⟩
    · exact (Av.split.mp z).elim .inl fun m => .inr ((hp.map (·.1)).mem_iff.mpr m)
    · obtain ⟨j1, j2⟩ := Cs.join c2 a1 a2
      exact k v H' _ d j1 (k2.trans j2) (Rep.kp (Kp.of_iff fun b => Av.split.mpr) _ _ a3) a4
theorem pd_call {k : Nat} {fx : Addr} {fd : FuncData} {ps : List Str} {sp : DSp} {x : Str} (F : FnD X.prog X.w X.K X.mg X.base k fx fd ps sp) (hG : X.A.guards = some []) (hr : Room k X.A) (hm : X.mg x = some (.ref fx)) (hk : PySem.W.keepIn X.K (.ref fx) = true) (hb : Binds X.K fd ps [])
    (ha : PDA X (a :: es) u h) (hg : Gl X x := by rfl) (hdb : (x == ("__debug__" : Str)) = false := by decide) (he : starEach (a :: es) X.env = (false, eval a X.env) :: starEach es X.env := by rfl) (hpl : (backTo pos (starEach es X.env)).any (·.1) = false := by rfl) :
    PD X (.Call (.Name x p) (a :: es) [] pos) (tCallG (lft sp) E0 u) (dCall sp h) := ⟨pe_callG F hG hr hm hk hb L2.pass0 ha.pa hg hdb he hpl, se_call ha.sa⟩
end

/-! ### targets -/
abbrev DG := D → R → G → (R → G → Prop) → Prop
def SG (is : List Nat) (t : TG) (f : DG) : Prop := ∀ (N : Addr → Prop) (H : Hp) (r : R) (σ : L2.St) (g : G) (v : V) (d : D) (Q : R → G → Prop) (QQ : L2.St → Hp → Prop), Cs N H r → Gs (Av N r) H σ g → Rep (Av N r) H d v → f d r g Q →
  (∀ σ' H' r' g', Cs N H' r' → Kr r H r' H' → Gs (Av N r') H' σ' g' → σ'.length = σ.length → (∀ j, j ∉ is → σ'[j]? = σ[j]?) → Q r' g' → QQ σ' H') → t v σ H QQ
def SGs (is : List Nat) (t : TGs) (f : List D → R → G → (R → G → Prop) → Prop) : Prop := ∀ (N : Addr → Prop) (H : Hp) (r : R) (σ : L2.St) (g : G) (vs : List V) (ds : List D) (Q : R → G → Prop) (QQ : L2.St → Hp → Prop), Cs N H r → Gs (Av N r) H σ g → RepL (Av N r) H ds vs → f ds r g Q →
  (∀ σ' H' r' g', Cs N H' r' → Kr r H r' H' → Gs (Av N r') H' σ' g' → σ'.length = σ.length → (∀ j, j ∉ is → σ'[j]? = σ[j]?) → Q r' g' → QQ σ' H') → t vs σ H QQ
structure PDG (X : Cx) (tg : Expr) (is : List Nat) (t : TG) (f : DG) : Prop where
  pg : PG X tg t
  sg : SG is t f
structure PDGs (X : Cx) (tg : List Expr) (is : List Nat) (t : TGs) (f : List D → R → G → (R → G → Prop) → Prop) : Prop where
  pg : PGs X tg t
  sg : SGs is t f
def tName (i : Nat) : DG := fun d r g Q => Q r (g.set i (some d))
section
variable {X : Cx} {e a b c : Expr} {te ta tb tc : TE} {f fa fb fc : DE} {pos p p2 q0 : Pos} {es rest : List Expr} {is js : List Nat}
theorem tg_name {i : Nat} {x : Str} (hN : X.N.Nodup) (hi : X.N[i]? = some x := by rfl) (hx : Loc X.env.scope x := by first | exact Or.inl rfl | exact Or.inr rfl) (hf : X.fn x = true ∨ X.env.scope.names.lookup x = some .local := by first | exact .inl rfl | exact .inr rfl) : PDG X (.Name x pos) [i] (gName i) (tName i) :=
  ⟨pg_name hN hi hx hf, fun N H r σ g v d Q QQ hc hg hv q k => k _ H r _ hc (Kr.refl _ _) (hg.set hv) (by simp) (fun j hj => by rw [List.getElem?_set_ne (fun z => hj (by simp [z]))]) q⟩
def tNils : List D → R → G → (R → G → Prop) → Prop
  | [], r, g, Q => Q r g
  | _, _, _, _ => False
def tConss (t : DG) (u : List D → R → G → (R → G → Prop) → Prop) : List D → R → G → (R → G → Prop) → Prop
  | d :: ds, r, g, Q => t d r g fun r1 g1 => u ds r1 g1 Q
  | _, _, _, _ => False
theorem tg_nil : PDGs X [] [] gNil tNils := ⟨pgs_nil, fun N H r σ g vs ds Q QQ hc hg hv q k => by
  unfold tNils at q
  split at q
  · unfold RepL at hv
    exact ⟨hv, k σ H r g hc (Kr.refl _ _) hg rfl (fun _ _ => rfl) q⟩
  · exact q.elim⟩
theorem tg_cons {t : TG} {u : TGs} {ft : DG} {fu : List D → R → G → (R → G → Prop) → Prop} (h1 : PDG X a is t ft) (h2 : PDGs X es js u fu) (hs : (assignEach (a :: es) X.env).map (·.2) = assign a X.env :: (assignEach es X.env).map (·.2) := by rfl) : PDGs X (a :: es) (is ++ js) (gCons t u) (tConss ft fu) :=
  ⟨pgs_cons h1.pg h2.pg hs, fun N H r σ g vs ds Q QQ hc hg hv q k => by
    unfold tConss at q
    split at q
    · unfold RepL at hv
      obtain ⟨v, ws, rfl, h3, h4⟩ := hv
      exact ⟨v, ws, rfl, h1.sg N H r σ g v _ _ _ hc hg h3 q fun σ1 H1 r1 g1 c1 k1 p1 l1 o1 q1 => h2.sg N H1 r1 σ1 g1 ws _ Q QQ c1 p1 (h4.kr k1) q1 fun σ2 H2 r2 g2 c2 k2 p2 l2 o2 q2 =>
        k σ2 H2 r2 g2 c2 (k1.trans k2) p2 (l2.trans l1) (fun j hj => by rw [List.mem_append, not_or] at hj; exact (o2 j hj.2).trans (o1 j hj.1)) q2⟩
    · exact q.elim⟩
def tTupG (n : Nat) (u : List D → R → G → (R → G → Prop) → Prop) : DG
  | .tup ds, r, g, Q => ds.length = n ∧ u ds r g Q
  | _, _, _, _ => False
theorem tg_tup {K : PySem.W.Frag} {kk n : Nat} {u : TGs} {fu : List D → R → G → (R → G → Prop) → Prop} (hc : X.calm = true) (h : PDGs X es is u fu) (hn : (assignEach es X.env).length = n := by rfl) (hst : (assignEach es X.env).findIdx? (·.1) = none := by rfl) (hK : X.K = K := by rfl) : PDG X (.Tuple es kk pos) is (gTup K n u) (tTupG n fu) := by
  subst hK
  exact ⟨pg_tup hc h.pg hn hst, fun N H r σ g v d Q QQ hc hg hv q k => by
    unfold tTupG at q
    split at q
    · unfold Rep at hv
      obtain ⟨z, vs, rfl, _, g1, l⟩ := hv
      exact ⟨z, vs, rfl, .inl (.inl g1), by rw [← l.length]; exact q.1, h.sg N H r σ g vs _ Q QQ hc hg l q.2 k⟩
    · exact q.elim⟩
def tSub (fo fi : DE) : DG := fun d r g Q => fo r g fun r1 x => fi r1 g fun r2 i => match x, i with
  | .ob z, .int n => ∃ xs j, r2.lookup z = some (.lst xs) ∧ ixN xs.length n = some j ∧ Q (put r2 z (.lst (xs.set j d))) g
  | _, _ => False
theorem tg_sub {o i : Expr} {to ti : TE} {fo fi : DE} (ho : PD X o to fo) (hi : PD X i ti fi)
    (ha : ∀ v, assign (.Subscript o i pos) X.env v = (do
      let x ← holding [v] (eval o X.env)
      let y ← holding [v, x] (eval i X.env)
      standAt pos
      holding [v, x, y] (setItem x y v)
      release [v, x, y] []) := by intro _; rfl) : PDG X (.Subscript o i pos) [] (gSub to ti rSetL) (tSub fo fi) :=
  ⟨pg_sub ho.pe hi.pe set_list ha, fun N H r σ g v d Q QQ hc hg hv q k =>
    ho.se N H r σ g _ _ hc hg q fun x H1 r1 dx c1 k1 p1 q1 => hi.se N H1 r1 σ g _ _ c1 (hg.kr k1) q1 fun y H2 r2 dy c2 k2 p2 q2 => by
      split at q2
      · obtain ⟨xs, j, e, hj, q2⟩ := q2
        have m := lookup_mem e
        obtain ⟨ws, g1, l1⟩ := c2.cl _ m
        unfold Rep at p1 p2
        subst p1; subst p2
        have kk := put_kr (o := .lst (ws.set j v)) (c := .lst (xs.set j d)) (H := H2) (adr_of_mem m)
        exact ⟨_, ws, _, j, rfl, rfl, g1, by rw [← l1.length]; exact hj, k σ _ _ g (set_cell c2 (adr_of_mem m) (l1.set j ((hv.kr k1).kr k2))) ((k1.trans k2).trans kk) (((hg.kr k1).kr k2).kr kk) rfl (fun _ _ => rfl) q2⟩
      · exact q2.elim⟩
end

/-! ### what is walked -/
def Kept (kp : List (Addr × List D)) (r : R) : Prop := ∀ q ∈ kp, r.lookup q.1 = some (.lst q.2)
structure ItOk (N0 : Addr → Prop) (J : It) (kp : List (Addr × List D)) (ds : List D) (r0 : R) (H0 : Hp) : Prop where
  ex : ∃ (Gd : Hp → Prop) (Y : Nat → Hp → V → Hp → Prop), Walk J ds.length Gd Y ∧
    (∀ N r H, Kp (Av N0 r0) H0 (Av N r) H → Cs N H r → Kept kp r → Gd H) ∧
    (∀ N i r H x H', i < ds.length → Kp (Av N0 r0) H0 (Av N r) H → Cs N H r → Kept kp r → Y i H x H' → ∃ d, ds[i]? = some d ∧ Cs N H' r ∧ Kr r H r H' ∧ Rep (Av N r) H' d x)
abbrev DI := R → G → (R → List (Addr × List D) → List D → Prop) → Prop
def SI (wi : TI) (fi : DI) : Prop := ∀ (N : Addr → Prop) (H : Hp) (r : R) (σ : L2.St) (g : G) (Q : R → List (Addr × List D) → List D → Prop) (RR : It → Hp → Prop), Cs N H r → Gs (Av N r) H σ g → fi r g Q →
  (∀ J H' r' kp ds, Cs N H' r' → Kr r H r' H' → ItOk N J kp ds r' H' → Q r' kp ds → RR J H') → wi σ H RR
structure PDI (X : Cx) (tg e : Expr) (wi : TI) (fi : DI) : Prop where
  pi : PI X tg e wi
  si : SI wi fi
/-- the list's items, and the cell that must stay -/
def srcOf (r : R) : D → Option (List (Addr × List D) × List D)
  | .ob z => match r.lookup z with
    | some (.lst xs) => some ([(z, xs)], xs)
    | _ => none
  | d => (lstOf r d).map fun xs => ([], xs)
section
variable {K : PySem.W.Frag} {N N0 : Addr → Prop} {H H0 : Hp} {r r0 : R} {d : D} {v : V} {kp : List (Addr × List D)} {ds : List D}
/-- a list to be read stays one -/
theorem src_ok (hc : Cs N0 H0 r0) (h : Rep (Av N0 r0) H0 d v) (e : srcOf r0 d = some (kp, ds)) : ∃ z, v = .ref z ∧ (∃ vs, SqL K H0 z vs) ∧
    (∀ N r H, Kp (Av N0 r0) H0 (Av N r) H → Cs N H r → Kept kp r → ∃ vs, SqL K H z vs ∧ RepL (Av N r) H ds vs) := by
  by_cases hd : ∃ z, d = .ob z
  · obtain ⟨z, rfl⟩ := hd
    have e' : (match r0.lookup z with | some (.lst xs) => some ([(z, xs)], xs) | _ => none) = some (kp, ds) := e
    unfold Rep at h
    cases q : r0.lookup z with
    | none => rw [q] at e'; cases e'
    | some cl =>
      rw [q] at e'
      cases cl with
      | lst ys =>
        cases e'
        obtain ⟨vs, h1, h2⟩ := hc.cl _ (lookup_mem q)
        refine ⟨z, h, ⟨vs, .inl (.inl h1)⟩, fun N r H k c kt => ?_⟩
        obtain ⟨ws, h3, h4⟩ := c.cl _ (lookup_mem (kt _ List.mem_cons_self))
        exact ⟨ws, .inl (.inl h3), h4⟩
      | _ => cases e'
  · have e' : (lstOf r0 d).map (fun xs => (([] : List (Addr × List D)), xs)) = some (kp, ds) := by
      cases d <;> first | exact e | exact absurd ⟨_, rfl⟩ hd
    obtain ⟨xs, e1, e2⟩ := Option.map_eq_some_iff.mp e'
    cases e2
    cases d with
    | ob z => exact absurd ⟨_, rfl⟩ hd
    | lst ys =>
      cases e1
      unfold Rep at h
      obtain ⟨z, vs, rfl, n, g, l⟩ := h
      exact ⟨z, rfl, ⟨vs, .inl (.inl g)⟩, fun N r H k c _ => ⟨vs, .inl (.inl (k z _ g n).1), RepL.kp k _ _ l⟩⟩
    | scr ns =>
      cases e1
      unfold Rep at h
      obtain ⟨z, rfl, n, o, g⟩ := h
      exact ⟨z, rfl, ⟨_, .inl (.inr ⟨o, g⟩)⟩, fun N r H k c _ => ⟨_, .inl (.inr ⟨o, (k z _ g n).1⟩), RepL.ofInts ns⟩⟩
    | _ => cases e1
theorem it_list {z : Addr} (hs : ∀ N r H, Kp (Av N0 r0) H0 (Av N r) H → Cs N H r → Kept kp r → ∃ vs, SqL K H z vs ∧ RepL (Av N r) H ds vs) : ItOk N0 (Itl K z) kp ds r0 H0 := by
  refine ⟨fun H => ∃ vs, SqL K H z vs ∧ vs.length = ds.length, fun i H x H' => H' = H ∧ ∀ vs, SqL K H z vs → vs[i]? = some x, ⟨fun i H hi ⟨vs, q, l⟩ => ⟨vs, vs[i]'(by omega), q, by simp [show i < vs.length by omega]⟩, fun H ⟨vs, q, l⟩ => ⟨vs, q, Nat.le_of_eq l⟩, fun i H x H' hi _ y => y⟩, fun N r H k c kt => ?_, fun N i r H x H' hi k c kt y => ?_⟩
  · obtain ⟨vs, q, l⟩ := hs N r H k c kt
    exact ⟨vs, q, l.length.symm⟩
  · obtain ⟨vs, q, l⟩ := hs N r H k c kt
    obtain ⟨rfl, y⟩ := y
    obtain ⟨d, h1, h2⟩ := l.getV (y vs q)
    exact ⟨d, h1, c, Kr.refl _ _, h2⟩
theorem pair_new {i : Nat} {x : V} {H' : Hp} {xs ys : Nat → Option V} {d1 d2 : D} (hc : Cs N H r) (y : YPair xs ys i H x H') (h1 : ∀ v, xs i = some v → Rep (Av N r) H d1 v) (h2 : ∀ v, ys i = some v → Rep (Av N r) H d2 v) : Cs N H' r ∧ Kr r H r H' ∧ Rep (Av N r) H' (.tup [d1, d2]) x := by
  obtain ⟨T, a, b, rfl, hT, rfl, e1, e2⟩ := y
  exact ⟨new_cs hc hT, new_kr hT, new_tup hc hT (.cons (h1 a e1) (.one (h2 b e2)))⟩
def enumD : Nat → List D → List D
  | _, [] => []
  | i, d :: ds => .tup [.int i, d] :: enumD (i + 1) ds
theorem enumD_length : ∀ (i : Nat) (ds : List D), (enumD i ds).length = ds.length
  | _, [] => rfl
  | i, d :: ds => by show (enumD (i + 1) ds).length + 1 = ds.length + 1; rw [enumD_length]
theorem enumD_get : ∀ (i : Nat) (ds : List D) (j : Nat), (enumD i ds)[j]? = ds[j]?.map fun d => D.tup [.int ((i + j : Nat) : Int), d]
  | _, [], j => by simp [enumD]
  | i, d :: ds, 0 => by simp [enumD]
  | i, d :: ds, j + 1 => by
    show (enumD (i + 1) ds)[j]? = _
    rw [enumD_get (i + 1) ds j, List.getElem?_cons_succ, show i + 1 + j = i + (j + 1) by omega]
theorem it_enum {z : Addr} (hs : ∀ N r H, Kp (Av N0 r0) H0 (Av N r) H → Cs N H r → Kept kp r → ∃ vs, SqL K H z vs ∧ RepL (Av N r) H ds vs) : ItOk N0 (Ite K z) kp (enumD 0 ds) r0 H0 := by
  refine ⟨fun H => ∃ vs, SqL K H z vs ∧ vs.length = ds.length, fun i H x H' => ∃ T y, x = .ref T ∧ H T = none ∧ H' = upd H T (.tup [.int (i : Nat), y]) ∧ ∀ vs, SqL K H z vs → vs[i]? = some y,
    ⟨fun i H hi ⟨vs, q, l⟩ => ?_, fun H ⟨vs, q, l⟩ => ⟨vs, q, by rw [enumD_length]; exact Nat.le_of_eq l⟩, fun i H x H' hi _ y => y⟩, fun N r H k c kt => ?_, fun N i r H x H' hi k c kt y => ?_⟩
  · rw [enumD_length] at hi
    exact ⟨vs, vs[i]'(by omega), q, by simp [show i < vs.length by omega]⟩
  · obtain ⟨vs, q, l⟩ := hs N r H k c kt
    exact ⟨vs, q, l.length.symm⟩
  · obtain ⟨vs, q, l⟩ := hs N r H k c kt
    obtain ⟨T, w, rfl, hT, rfl, y⟩ := y
    obtain ⟨d, h1, h2⟩ := l.getV (y vs q)
    exact ⟨.tup [.int ((0 + i : Nat) : Int), d], by rw [enumD_get, h1]; rfl, new_cs c hT, new_kr hT, new_tup c hT (.cons (by rw [Nat.zero_add]; exact rep_int) (.one h2))⟩
def zipD : List D → List D → List D
  | x :: xs, y :: ys => .tup [x, y] :: zipD xs ys
  | _, _ => []
theorem zipD_length : ∀ xs ys : List D, (zipD xs ys).length = min xs.length ys.length
  | [], _ => by simp [zipD]
  | _ :: _, [] => by simp [zipD]
  | x :: xs, y :: ys => by simp [zipD, zipD_length xs ys, Nat.succ_min_succ]
theorem zipD_get : ∀ (xs ys : List D) (i : Nat) (x y : D), xs[i]? = some x → ys[i]? = some y → (zipD xs ys)[i]? = some (.tup [x, y])
  | [], _, i, x, y, h, _ => by simp at h
  | _ :: _, [], i, x, y, _, h => by simp at h
  | a :: xs, b :: ys, 0, x, y, h, h' => by simp at h h'; subst h; subst h'; rfl
  | a :: xs, b :: ys, i + 1, x, y, h, h' => by
    show (zipD xs ys)[i]? = _
    exact zipD_get xs ys i x y (by simpa using h) (by simpa using h')
theorem it_zip {z z' : Addr} {kp' : List (Addr × List D)} {es : List D} (hs : ∀ N r H, Kp (Av N0 r0) H0 (Av N r) H → Cs N H r → Kept kp r → ∃ vs, SqL K H z vs ∧ RepL (Av N r) H ds vs)
    (hs' : ∀ N r H, Kp (Av N0 r0) H0 (Av N r) H → Cs N H r → Kept kp' r → ∃ vs, SqL K H z' vs ∧ RepL (Av N r) H es vs) : ItOk N0 (Itz K z z') (kp ++ kp') (zipD ds es) r0 H0 := by
  refine ⟨fun H => ∃ vs ws, SqL K H z vs ∧ SqL K H z' ws ∧ vs.length = ds.length ∧ ws.length = es.length, fun i H x H' => ∃ T a b, x = .ref T ∧ H T = none ∧ H' = upd H T (.tup [a, b]) ∧ (∀ vs, SqL K H z vs → vs[i]? = some a) ∧ ∀ vs, SqL K H z' vs → vs[i]? = some b,
    ⟨fun i H hi ⟨vs, ws, q1, q2, l1, l2⟩ => ?_, fun H ⟨vs, ws, q1, q2, l1, l2⟩ => ⟨vs, ws, q1, q2, by rw [zipD_length]; omega⟩, fun i H x H' hi _ y => y⟩, fun N r H k c kt => ?_, fun N i r H x H' hi k c kt y => ?_⟩
  · rw [zipD_length] at hi
    exact ⟨vs, ws, vs[i]'(by omega), ws[i]'(by omega), q1, q2, by simp [show i < vs.length by omega], by simp [show i < ws.length by omega]⟩
  · obtain ⟨vs, q, l⟩ := hs N r H k c fun q hq => kt q (List.mem_append_left _ hq)
    obtain ⟨ws, q', l'⟩ := hs' N r H k c fun q hq => kt q (List.mem_append_right _ hq)
    exact ⟨vs, ws, q, q', l.length.symm, l'.length.symm⟩
  · obtain ⟨vs, q, l⟩ := hs N r H k c fun q hq => kt q (List.mem_append_left _ hq)
    obtain ⟨ws, q', l'⟩ := hs' N r H k c fun q hq => kt q (List.mem_append_right _ hq)
    obtain ⟨T, a, b, rfl, hT, rfl, y1, y2⟩ := y
    obtain ⟨d, h1, h2⟩ := l.getV (y1 vs q)
    obtain ⟨d', h3, h4⟩ := l'.getV (y2 ws q')
    exact ⟨_, zipD_get _ _ _ _ _ h1 h3, new_cs c hT, new_kr hT, new_tup c hT (.cons h2 (.one h4))⟩
def rangeD (lo : Int) : Nat → List D
  | 0 => []
  | n + 1 => .int lo :: rangeD (lo + 1) n
theorem rangeD_length : ∀ (lo : Int) (n : Nat), (rangeD lo n).length = n
  | _, 0 => rfl
  | lo, n + 1 => by show (rangeD (lo + 1) n).length + 1 = n + 1; rw [rangeD_length]
theorem rangeD_get : ∀ (lo : Int) (n i : Nat), i < n → (rangeD lo n)[i]? = some (.int (lo + i))
  | _, 0, i, h => by omega
  | lo, n + 1, 0, _ => by show some (D.int lo) = _; simp
  | lo, n + 1, i + 1, h => by
    show (rangeD (lo + 1) n)[i]? = _
    rw [rangeD_get (lo + 1) n i (by omega), show lo + 1 + (i : Int) = lo + ((i + 1 : Nat) : Int) by omega]
theorem it_range {lo : Int} {n : Nat} : ItOk N0 (Itr lo n) [] (rangeD lo n) r0 H0 := by
  have w : Walk (Itr lo n) n (fun _ => True) (YFn fun i => .int (lo + i)) := walk_range
  refine ⟨fun _ => True, YFn fun i => .int (lo + i), ?_, fun _ _ _ _ _ _ => trivial, fun N i r H x H' hi k c _ y => ?_⟩
  · rw [rangeD_length]; exact w
  · rw [rangeD_length] at hi
    obtain ⟨rfl, rfl⟩ := y
    exact ⟨_, rangeD_get lo n i hi, c, Kr.refl _ _, rep_int⟩
end
section
variable {X : Cx} {tg e a b c : Expr} {te ta tb tc : TE} {f fa fb fc : DE} {pos p p2 q0 tpos : Pos} {es elts : List Expr} {u : TA} {h : DA} {kk : Nat}
def iL (fa : DE) : DI := fun r g Q => fa r g fun r1 d => ∃ kp ds, srcOf r1 d = some (kp, ds) ∧ Q r1 kp ds
def iE (h : DA) : DI := fun r g Q => h r g fun r1 l => match l with
  | [d] => ∃ kp ds, srcOf r1 d = some (kp, ds) ∧ Q r1 kp (enumD 0 ds)
  | _ => False
def iZ (h : DA) : DI := fun r g Q => h r g fun r1 l => match l with
  | [d, d'] => ∃ kp ds kp' ds', srcOf r1 d = some (kp, ds) ∧ srcOf r1 d' = some (kp', ds') ∧ Q r1 (kp ++ kp') (zipD ds ds')
  | _ => False
def iR1 (h : DA) : DI := fun r g Q => h r g fun r1 l => match l with
  | [.int j] => -(2 ^ 62) ≤ j ∧ j < 2 ^ 62 ∧ Q r1 [] (rangeD 0 j.toNat)
  | _ => False
def iR2 (h : DA) : DI := fun r g Q => h r g fun r1 l => match l with
  | [.int i, .int j] => (-(2 ^ 62) ≤ i ∧ i < 2 ^ 62 ∧ -(2 ^ 62) ≤ j ∧ j < 2 ^ 62) ∧ Q r1 [] (rangeD i (j - i).toNat)
  | _ => False
theorem di_list {K : PySem.W.Frag} (ha : PD X a ta fa) (hK : X.K = K := by rfl) : PDI X tg a (iList K ta) (iL fa) := by
  subst hK
  exact ⟨pi_list ha.pe, fun N H r σ g Q RR hc hg q k =>
  ha.se N H r σ g _ _ hc hg q fun v H1 r1 d c1 k1 p1 ⟨kp, ds, e, q1⟩ => by
    obtain ⟨z, rfl, h1, h2⟩ := src_ok (K := X.K) c1 p1 e
    exact ⟨z, rfl, h1, k _ H1 r1 kp ds c1 k1 (it_list h2) q1⟩⟩
theorem di_enum {K : PySem.W.Frag} (hm : X.mg "enumerate" = none) (ha : PDA X [a] u h) (hg : Gl X "enumerate" := by rfl) (hs : starEach [a] X.env = [(false, eval a X.env)] := by rfl) (hK : X.K = K := by rfl) : PDI X (.Tuple elts kk tpos) (.Call (.Name "enumerate" p) [a] [] pos) (iEnum K u) (iE h) := by
  subst hK
  exact ⟨pi_enum hg hm ha.pa hs, fun N H r σ g Q RR hc hg q k =>
  ha.sa N H r σ g _ _ hc hg q fun vs H1 r1 l c1 k1 p1 q1 => by
    split at q1
    · obtain ⟨kp, ds, e, q1⟩ := q1
      obtain ⟨v, rfl, hv⟩ := rep1 p1
      obtain ⟨z, rfl, ⟨ws, h1⟩, h2⟩ := src_ok (K := X.K) c1 hv e
      exact ⟨z, ws, rfl, h1, k _ H1 r1 kp _ c1 k1 (it_enum h2) q1⟩
    · exact q1.elim⟩
theorem di_zip {K : PySem.W.Frag} (hm : X.mg "zip" = none) (ha : PDA X [a, b] u h) (hg : Gl X "zip" := by rfl) (hpi : PI X (.Tuple elts kk tpos) (.Call (.Name "zip" p) [a, b] [] pos) (iZip X.K u)) (hK : X.K = K := by rfl) : PDI X (.Tuple elts kk tpos) (.Call (.Name "zip" p) [a, b] [] pos) (iZip K u) (iZ h) := by
  subst hK
  exact ⟨hpi, fun N H r σ g Q RR hc hg q k =>
  ha.sa N H r σ g _ _ hc hg q fun vs H1 r1 l c1 k1 p1 q1 => by
    split at q1
    · obtain ⟨kp, ds, kp', ds', e, e', q1⟩ := q1
      obtain ⟨v, v', rfl, hv, hv'⟩ := rep2 p1
      obtain ⟨z, rfl, ⟨ws, h1⟩, h2⟩ := src_ok (K := X.K) c1 hv e
      obtain ⟨z', rfl, ⟨ws', h1'⟩, h2'⟩ := src_ok (K := X.K) c1 hv' e'
      exact ⟨z, z', ws, ws', rfl, h1, h1', k _ H1 r1 _ _ c1 k1 (it_zip h2 h2') q1⟩
    · exact q1.elim⟩
theorem di_range1 (hm : X.mg "range" = none) (ha : PDA X [a] u h) (hg : Gl X "range" := by rfl) (hs : starEach [a] X.env = [(false, eval a X.env)] := by rfl) : PDI X tg (.Call (.Name "range" p) [a] [] pos) (iRng1 u) (iR1 h) := ⟨pi_range1 hg hm ha.pa hs, fun N H r σ g Q RR hc hg q k =>
  ha.sa N H r σ g _ _ hc hg q fun vs H1 r1 l c1 k1 p1 q1 => by
    split at q1
    · obtain ⟨v, rfl, hv⟩ := rep1 p1
      unfold Rep at hv
      subst hv
      exact ⟨_, rfl, q1.1, q1.2.1, k _ H1 r1 [] _ c1 k1 it_range q1.2.2⟩
    · exact q1.elim⟩
theorem di_range2 (hm : X.mg "range" = none) (ha : PDA X [a, b] u h) (hg : Gl X "range" := by rfl) (hs : starEach [a, b] X.env = [(false, eval a X.env), (false, eval b X.env)] := by rfl) (hs2 : starEach [b] X.env = [(false, eval b X.env)] := by rfl) : PDI X tg (.Call (.Name "range" p) [a, b] [] pos) (iRng2 u) (iR2 h) := ⟨pi_range2 hg hm ha.pa hs hs2, fun N H r σ g Q RR hc hg q k =>
  ha.sa N H r σ g _ _ hc hg q fun vs H1 r1 l c1 k1 p1 q1 => by
    split at q1
    · obtain ⟨v, v', rfl, hv, hv'⟩ := rep2 p1
      unfold Rep at hv hv'
      subst hv; subst hv'
      exact ⟨_, _, rfl, q1.1, k _ H1 r1 [] _ c1 k1 it_range q1.2⟩
    · exact q1.elim⟩
end
end DL

set_option Elab.async false
set_option linter.all false
set_option maxRecDepth 100000
set_option maxHeartbeats 4000000
namespace DL
open PySem L2 PyProof.Rows

/-! ### list comprehensions -/
section
variable {N N' : Addr → Prop} {H H' H1 H2 : Hp} {r r' r1 r2 : R} {z p : Addr} {o : HO} {d : D} {v : V} {ds : List D} {vs : List V} {σ : L2.St} {g : G}
def Or (N : Addr → Prop) (z : Addr) : Addr → Prop := fun b => N b ∨ b = z
theorem or_kp (h : Cs N H r) (n : H z = none) : Kp (Av N r) H (Av (Or N z) r) (upd H z o) := fun b u e m => by
  have ne : b ≠ z := ne_of_none e n
  refine ⟨by rw [upd_ne ne]; exact e, fun q => ?_⟩
  rcases q with (q | q) | q
  · exact m (.inl q)
  · exact ne q
  · exact m (.inr q)
theorem or_cs (h : Cs N H r) (n : H z = none) : Cs (Or N z) (upd H z o) r := by
  refine ⟨fun b m => ?_, h.nd, fun b m q => ?_, fun q hq => (h.cl q hq).kp (or_kp h n) fun u e => by rw [upd_ne (ne_of_none e n)]; exact e, .inl h.sy⟩
  · rcases m with m | rfl
    · exact (new_cs h n).al b m
    · exact ⟨o, upd_same⟩
  · rcases q with q | rfl
    · exact h.dj b m q
    · obtain ⟨u, e⟩ := h.has m
      rw [n] at e; cases e
theorem at_kp (hz : N z) : Kp (Av N r) H (Av N r) (upd H z o) := fun b u e m => ⟨by rw [upd_ne (show b ≠ z from fun q => m (.inl (by rw [q]; exact hz)))]; exact e, m⟩
theorem at_cs (h : Cs N H r) (hz : N z) : Cs N (upd H z o) r := by
  refine ⟨fun b m => ?_, h.nd, h.dj, fun q hq => (h.cl q hq).kp (at_kp hz) fun u e => by
    rw [upd_ne (show q.1 ≠ z from fun e2 => h.dj q.1 (List.mem_map.mpr ⟨q, hq, rfl⟩) (by rw [e2]; exact hz))]; exact e, h.sy⟩
  by_cases e : b = z
  · subst e; exact ⟨o, upd_same⟩
  · obtain ⟨u, e2⟩ := h.al b m
    exact ⟨u, by rw [upd_ne e]; exact e2⟩
theorem of_or_cs (h : Cs (Or N z) H r) (hs : N sysModules) : Cs N H r := ⟨fun b m => h.al b (.inl m), h.nd, fun b m q => h.dj b m (.inl q), fun q hq => (h.cl q hq).kp (Kp.of_iff fun b m => m.elim (fun m => .inl (.inl m)) .inr) fun _ e => e, hs⟩
theorem of_or_kp : Kp (Av (Or N z) r) H (Av N r) H := Kp.of_iff fun b m => m.elim (fun m => .inl (.inl m)) .inr
theorem Kr.at (k : Kr r H r' H') (e : H z = some o) (n : z ∉ adr r) : H' z = some o := (k z o e n).1
theorem Kr.to_or (k : Kr r1 H1 r H) (n : H1 z = none) : Kp (Av N r1) H1 (Av (Or N z) r) H := fun b u e m => by
  obtain ⟨h1, h2⟩ := k b u e fun q => m (.inr q)
  refine ⟨h1, fun q => ?_⟩
  rcases q with (q | q) | q
  · exact m (.inl q)
  · exact ne_of_none e n q
  · exact h2 q
theorem Kr.past (k : Kr r1 H1 r H) (n : H1 z = none) : Kr r1 H1 r (upd H z o) := fun b u e m => ⟨by rw [upd_ne (ne_of_none e n)]; exact (k b u e m).1, (k b u e m).2⟩
/-- the list at z, made on the way, is done -/
theorem mkD_at {mk : Bool} {Q : R → D → Prop} {QQ : V → Hp → Prop} {r0 : R} {H0 : Hp} (h : Cs (Or N z) H r) (hsy : N sysModules) (hN : ¬ N z) (e : H z = some (.lst vs)) (l : RepL (Av (Or N z) r) H ds vs) (k0 : Kr r1 H1 r H) (n : H1 z = none) (kk : Kr r0 H0 r1 H1) (q : mkD mk ds r Q)
    (k : ∀ v H' r' d, Cs N H' r' → Kr r0 H0 r' H' → Rep (Av N r') H' d v → Q r' d → QQ v H') : QQ (.ref z) H := by
  have nz : z ∉ adr r := fun m => h.dj z m (.inr rfl)
  have c := of_or_cs h hsy
  unfold mkD at q
  cases mk with
  | false =>
    refine k _ H r (.lst ds) c (kk.trans k0) ?_ (by simpa using q)
    unfold Rep
    exact ⟨z, vs, rfl, fun m => m.elim hN nz, e, RepL.kp of_or_kp _ _ l⟩
  | true =>
    have hk : Kp (Av (Or N z) r) H (Av N ((z, .lst ds) :: r)) H := Kp.of_iff fun b m => by
      rcases m with m | m
      · exact .inl (.inl m)
      · rcases List.mem_cons.mp m with m | m
        · exact .inl (.inr m)
        · exact .inr m
    refine k _ H ((z, .lst ds) :: r) (.ob z) ⟨c.al, ?_, fun b m => ?_, fun q hq => ?_, hsy⟩ (kk.trans fun b u e m => ⟨(k0 b u e m).1, ?_⟩) (by unfold Rep; rfl) ((by simpa using q : ∀ p, p ∉ adr r → Q ((p, .lst ds) :: r) (.ob p)) z nz)
    · rw [adr_cons, List.nodup_cons]; exact ⟨nz, c.nd⟩
    · rcases List.mem_cons.mp m with rfl | m
      · exact hN
      · exact c.dj b m
    · rcases List.mem_cons.mp hq with rfl | hq
      · exact ⟨vs, e, RepL.kp hk _ _ l⟩
      · exact (h.cl q hq).kp hk fun _ e => e
    · rw [adr_cons, List.mem_cons, not_or]
      exact ⟨ne_of_none e n, (k0 b u e m).2⟩
def wipeG (g : G) : List Nat → G
  | [] => g
  | i :: is => (wipeG g is).set i none
theorem wipeG_len : ∀ is : List Nat, (wipeG g is).length = g.length
  | [] => rfl
  | i :: is => by unfold wipeG; rw [List.length_set, wipeG_len is]
theorem wipeG_some {i : Nat} {d : D} : ∀ {is : List Nat}, (wipeG g is)[i]? = some (some d) → g[i]? = some (some d) ∧ i ∉ is
  | [], h => ⟨h, by simp⟩
  | j :: is, h => by
    unfold wipeG at h
    by_cases hj : j = i
    · subst hj
      by_cases hl : j < (wipeG g is).length
      · rw [List.getElem?_set_self hl] at h; cases h
      · rw [List.getElem?_eq_none (by simpa using hl)] at h; cases h
    · rw [List.getElem?_set_ne hj] at h
      obtain ⟨h1, h2⟩ := wipeG_some h
      exact ⟨h1, by simp only [List.mem_cons, not_or]; exact ⟨fun e => hj e.symm, h2⟩⟩
theorem wipe_out {i : Nat} : ∀ {is : List Nat}, i ∉ is → (wipe σ is)[i]? = σ[i]?
  | [], _ => rfl
  | j :: is, h => by
    rw [List.mem_cons, not_or] at h
    unfold wipe
    rw [List.getElem?_set_ne (fun e => h.1 e.symm)]
    exact wipe_out h.2
theorem wipe_in {i : Nat} : ∀ {is : List Nat}, i ∈ is → i < σ.length → (wipe σ is)[i]? = some none
  | j :: is, h, hl => by
    unfold wipe
    by_cases e : j = i
    · subst e
      rw [List.getElem?_set_self (by rw [wipe_length]; exact hl)]
    · rw [List.getElem?_set_ne e]
      exact wipe_in ((List.mem_cons.mp h).resolve_left fun q => e q.symm) hl
theorem wipe_same {σ' : L2.St} {is : List Nat} (hl : σ'.length = σ.length) (ho : ∀ j, j ∉ is → σ'[j]? = σ[j]?) : wipe σ' is = wipe σ is := by
  refine List.ext_getElem? fun i => ?_
  by_cases hi : i ∈ is
  · by_cases hl2 : i < σ.length
    · rw [wipe_in hi hl2, wipe_in hi (by omega)]
    · rw [List.getElem?_eq_none (by rw [wipe_length]; omega), List.getElem?_eq_none (by rw [wipe_length]; omega)]
  · rw [wipe_out hi, wipe_out hi, ho i hi]
theorem wipe_idem (is : List Nat) : wipe (wipe σ is) is = wipe σ is := wipe_same (wipe_length _ _) fun j hj => wipe_out hj
theorem Gs.wipe (is : List Nat) (h : Gs N H σ g) : Gs N H (L2.wipe σ is) (wipeG g is) := ⟨by rw [wipe_length, wipeG_len, h.ln], fun i d e => by
  obtain ⟨h1, h2⟩ := wipeG_some e
  obtain ⟨v, h3, h4⟩ := h.sl i d h1
  exact ⟨v, by rw [wipe_out h2]; exact h3, h4⟩⟩
theorem Gs.kp (k : Kp N H N' H') (h : Gs N H σ g) : Gs N' H' σ g := ⟨h.ln, fun i d e => let ⟨v, e1, e2⟩ := h.sl i d e; ⟨v, e1, Rep.kp k _ _ e2⟩⟩
end

def lcCore (mk : Bool) (tgt : DG) (tst : DT) (elt : DE) (g0 : G) (Q : R → D → Prop) (r1 : R) (kp : List (Addr × List D)) (ds : List D) : Prop := ds.length ≤ sizeLine ∧ ∃ I : Nat → R → List D → Prop, (∃ r', Sub r' r1 ∧ I 0 r' []) ∧
  (∀ i d r ys, ds[i]? = some d → I i r ys → Kept kp r ∧ tgt d r g0 fun r1 g1 => tst r1 g1 fun r2 b => if b = true then elt r2 g1 fun r3 y => ∃ r', Sub r' r3 ∧ I (i + 1) r' (ys ++ [y]) else ∃ r', Sub r' r2 ∧ I (i + 1) r' ys) ∧
  (∀ r ys, I ds.length r ys → Kept kp r ∧ mkD mk ys r Q)
def dLc (mk : Bool) (fi : DI) (tgt : DG) (tst : DT) (elt : DE) (is : List Nat) : DE := fun r g Q => fi r g (lcCore mk tgt tst elt (wipeG g is) Q)
theorem se_lc {mk : Bool} {wi : TI} {fi : DI} {tg : TG} {tgt : DG} {tt : TT} {tst : DT} {te : TE} {elt : DE} {is js : List Nat} (si : SI wi fi) (sg : SG js tg tgt) (st : ST tt tst) (se : SE te elt) (hj : ∀ j ∈ js, j ∈ is) : SE (tLc wi tg tt te is) (dLc mk fi tgt tst elt is) := fun N H r σ g Q QQ hc hg q k =>
  si N H r σ g _ _ hc hg q fun J H1 r1 kp ds c1 k1 it ⟨hz, I, ⟨r0, hs0, q0⟩, qs, qd⟩ => by
    intro z hD
    obtain ⟨Gd, Y, w, hGd, hY⟩ := it.ex
    have hNz : ¬ N z := fun m => by
      obtain ⟨u, e⟩ := c1.al z m
      rw [hD] at e; cases e
    refine lc_it w (Qd := fun H => QQ (.ref z) H) (fun i H => ∃ (r : R) (ys : List D) (vs : List V), Cs (Or N z) H r ∧ Kr r1 H1 r H ∧ H z = some (.lst vs) ∧ RepL (Av (Or N z) r) H ys vs ∧ ys.length ≤ i ∧ I i r ys) ?h0 ?hG ?hs ?hd
    case h0 => exact ⟨r0, [], [], hs0.cs (or_cs c1 hD), (new_kr hD).trans hs0.kr, upd_same, .nil, Nat.le_refl _, q0⟩
    case hG =>
      rintro i H2 hi ⟨r2, ys, vs, c2, k2, _, _, _, q2⟩
      refine hGd (Or N z) r2 H2 (k2.to_or hD) c2 ?_
      rcases Nat.lt_or_eq_of_le hi with h | h
      · exact (qs i _ r2 ys (List.getElem?_eq_getElem h) q2).1
      · exact (qd r2 ys (h ▸ q2)).1
    case hs =>
      rintro i x H2 H3 hi ⟨r2, ys, vs, c2, k2, hz2, l2, hl2, q2⟩ y
      have hi' : i < ds.length := hi
      obtain ⟨d, hd, c3, k3, p3⟩ := hY (Or N z) i r2 H2 x H3 hi (k2.to_or hD) c2 (qs i _ r2 ys (List.getElem?_eq_getElem hi') q2).1 y
      replace q2 := qs i d r2 ys hd q2
      have g3 : Gs (Av (Or N z) r2) H3 (L2.wipe σ is) (wipeG g is) := (((hg.kr k1).kp (k2.to_or hD)).kr k3).wipe is
      have nz2 : z ∉ adr r2 := fun m => c2.dj z m (.inr rfl)
      refine sg (Or N z) H3 r2 (L2.wipe σ is) (wipeG g is) x d _ _ c3 g3 p3 q2.2 fun σ4 H4 r4 g4 c4 k4 p4 l4 o4 q4 => ⟨?_, st (Or N z) H4 r4 σ4 g4 _ _ c4 p4 q4 fun b H5 r5 c5 k5 q5 => ?_⟩
      · exact (wipe_same l4 fun j hj' => o4 j fun m => hj' (hj j m)).trans (wipe_idem is)
      · have nz4 : z ∉ adr r4 := fun m => c4.dj z m (.inr rfl)
        have nz5 : z ∉ adr r5 := fun m => c5.dj z m (.inr rfl)
        have e5 : H5 z = some (.lst vs) := k5.at (k4.at (k3.at hz2 nz2) nz2) nz4
        have kk := ((k2.trans k3).trans k4).trans k5
        have l5 := ((l2.kr k3).kr k4).kr k5
        cases b with
        | false =>
          rw [if_neg Bool.false_ne_true] at q5 ⊢
          obtain ⟨r6, hs6, q6⟩ := q5
          exact ⟨r6, ys, vs, hs6.cs c5, kk.trans hs6.kr, e5, RepL.kp (sub_kp fun b m => hs6.mem m) _ _ l5, Nat.le_succ_of_le hl2, q6⟩
        | true =>
          rw [if_pos rfl] at q5 ⊢
          refine se (Or N z) H5 r5 σ4 g4 _ _ c5 (p4.kr k5) q5 fun v H6 r6 dy c6 k6 p6 q6 => ?_
          have e6 : H6 z = some (.lst vs) := k6.at e5 nz5
          have l6 := l5.kr k6
          obtain ⟨r7, hs7, q7⟩ := q6
          refine ⟨vs, e6, by rw [← l6.length]; omega, r7, ys ++ [dy], vs ++ [v], hs7.cs (at_cs c6 (.inr rfl)), ((kk.trans k6).trans hs7.kr).past hD, upd_same, ?_, by rw [List.length_append, List.length_singleton]; omega, ?_⟩
          · exact RepL.kp (sub_kp fun b m => hs7.mem m) _ _ (RepL.kp (at_kp (.inr rfl)) _ _ (l6.append (.one p6)))
          · exact q7
    case hd =>
      rintro H2 ⟨r2, ys, vs, c2, k2, hz2, l2, hl2, q2⟩
      exact mkD_at c2 c1.sy hNz hz2 l2 k2 hD k1 (qd r2 ys q2).2 k
structure PDTs (X : Cx) (ifs : List Expr) (t : TT) (f : DT) : Prop where
  pts : PTs X ifs t
  st : ST t f
def dYes : DT := fun r _ Q => Q r true
section
variable {X : Cx} {e a b c elt tg iter : Expr} {te ta tb tc : TE} {f fa fb fc fe : DE} {pos p : Pos} {es rest ifs : List Expr} {tA tB' tt : TT} {fA fB ft : DT} {u : TA} {h : DA}
theorem pts_n : PDTs X [] tYes dYes := ⟨pts_nil, fun N H r σ g Q QQ hc hg q k => k true H r hc (Kr.refl _ _) q⟩
theorem pts_o (ha : PDT X a tA fA) : PDTs X [a] tA fA := ⟨pts_one ha.pt, ha.st⟩
theorem pd_lc (mk : Bool) {scope : Scope} {own : List (Str × Nat)} {is : List Nat} {wi : TI} {fi : DI} {g : TG} {tgt : DG} {js : List Nat} (hc : X.calm = true) (hN : X.N.Nodup) (hi : PDI X tg iter wi fi) (ok : BlkOk X.N X.env.scope scope own)
    (hg : ∀ (s : Shared) (H : Hp) (C : Addr) (cl : List (Str × Addr)) (fp : List Addr), PDG (X.blk s H scope (compEnvC scope cl C X.env) fp) tg js g tgt) (ht : ∀ (s : Shared) (H : Hp) (C : Addr) (cl : List (Str × Addr)) (fp : List Addr), PDTs (X.blk s H scope (compEnvC scope cl C X.env) fp) ifs tt ft)
    (he : ∀ (s : Shared) (H : Hp) (C : Addr) (cl : List (Str × Addr)) (fp : List Addr), PD (X.blk s H scope (compEnvC scope cl C X.env) fp) elt te fe) (hj : ∀ j ∈ js, j ∈ own.map (·.2) := by decide) (hs : ∀ x, foldedSetIterable iter X.env x = pure x := by intro _; rfl) (his : own.map (·.2) = is := by rfl) :
    PD X (.ListComp elt [⟨tg, iter, ifs, 0⟩] scope pos) (tLc wi g tt te (own.map (·.2))) (dLc mk fi tgt ft fe is) := by
  subst his
  exact ⟨pe_lc hc hN hi.pi ok (fun s H C cl fp => (hg s H C cl fp).pg) (fun s H C cl fp => (ht s H C cl fp).pts) (fun s H C cl fp => (he s H C cl fp).pe) hs,
    se_lc hi.si (hg X.s_0 X.H_0 0 [] []).sg (ht X.s_0 X.H_0 0 [] []).st (he X.s_0 X.H_0 0 [] []).se hj⟩
end

/-! ### statements -/
structure DEnds where
  nx : R → G → Prop
  rt : R → D → Prop
  bk : R → G → Prop := fun _ _ => False
  ct : R → G → Prop := fun _ _ => False
abbrev DS := DEnds → R → G → Prop
structure Lk (N : Addr → Prop) (r : R) (H : Hp) (E : Ends) (F : DEnds) : Prop where
  nx : ∀ σ' H' r' g', Cs N H' r' → Kr r H r' H' → Gs (Av N r') H' σ' g' → F.nx r' g' → E.nx σ' H'
  rt : ∀ v H' r' d, Cs N H' r' → Kr r H r' H' → Rep (Av N r') H' d v → F.rt r' d → E.rt v H'
  bk : ∀ σ' H' r' g', Cs N H' r' → Kr r H r' H' → Gs (Av N r') H' σ' g' → F.bk r' g' → E.bk σ' H'
  ct : ∀ σ' H' r' g', Cs N H' r' → Kr r H r' H' → Gs (Av N r') H' σ' g' → F.ct r' g' → E.ct σ' H'
def SS (t : TS) (f : DS) : Prop := ∀ (N : Addr → Prop) (H : Hp) (r : R) (σ : L2.St) (g : G) (E : Ends) (F : DEnds), Cs N H r → Gs (Av N r) H σ g → f F r g → Lk N r H E F → t E σ H
theorem Lk.kr {N : Addr → Prop} {r r' : R} {H H' : Hp} {E : Ends} {F : DEnds} (l : Lk N r H E F) (k : Kr r H r' H') : Lk N r' H' E F :=
  ⟨fun a b c d e f => l.nx a b c d e (k.trans f), fun a b c d e f => l.rt a b c d e (k.trans f), fun a b c d e f => l.bk a b c d e (k.trans f), fun a b c d e f => l.ct a b c d e (k.trans f)⟩
structure PDS (X : Cx) (st : Stmt) (t : TS) (f : DS) : Prop where
  ps : PS X st t
  ss : SS t f
structure PDSs (X : Cx) (st : List Stmt) (t : TS) (f : DS) : Prop where
  ps : PSs X st t
  ss : SS t f
section
variable {X : Cx} {e a b c elt tg iter : Expr} {te ta tb tc : TE} {f fa fb fc fe : DE} {pos p p' : Pos} {es rest ifs : List Expr} {tA tB' tt : TT} {fA fB ft : DT} {u : TA} {h : DA} {st : Stmt} {sts as bs : List Stmt} {t1 t2 : TS} {f1 f2 : DS} {g : TG} {fg : DG} {is : List Nat}
def sNext : DS := fun F r g => F.nx r g
def sSeq (f1 f2 : DS) : DS := fun F r g => f1 { F with nx := fun r g => f2 F r g } r g
def sAsg (f : DE) (t : DG) : DS := fun F r g => f r g fun r1 d => t d r1 g F.nx
def sDrop (f : DE) : DS := fun F r g => f r g fun r1 _ => F.nx r1 g
def sRet (f : DE) : DS := fun F r g => f r g F.rt
def sIf (c : DT) (f1 f2 : DS) : DS := fun F r g => c r g fun r1 b => if b = true then f1 F r1 g else f2 F r1 g
def sCt : DS := fun F r g => F.ct r g
def sBk : DS := fun F r g => F.bk r g
theorem ss_nil : PDSs X [] tNext sNext := ⟨pss_nil, fun N H r σ g E F hc hg q l => l.nx σ H r g hc (Kr.refl _ _) hg q⟩
theorem ss_pass : PDS X (.Pass pos) tNext sNext := ⟨ps_pass, fun N H r σ g E F hc hg q l => l.nx σ H r g hc (Kr.refl _ _) hg q⟩
theorem ss_ct : PDS X (.Continue pos) tCont sCt := ⟨ps_continue, fun N H r σ g E F hc hg q l => l.ct σ H r g hc (Kr.refl _ _) hg q⟩
theorem ss_seq {t1 t2 : TS} (h1 : SS t1 f1) (h2 : SS t2 f2) : SS (tSeq t1 t2) (sSeq f1 f2) := fun N H r σ g E F hc hg q l =>
  h1 N H r σ g _ _ hc hg q ⟨fun σ' H' r' g' c k gs q => h2 N H' r' σ' g' E F c gs q (l.kr k), l.rt, l.bk, l.ct⟩
theorem ss_cons (h1 : PDS X st t1 f1) (h2 : PDSs X sts t2 f2) : PDSs X (st :: sts) (tSeq t1 t2) (sSeq f1 f2) := ⟨pss_cons h1.ps h2.ps, ss_seq h1.ss h2.ss⟩
theorem ss_one (h1 : PDS X st t1 f1) : PDSs X [st] t1 f1 := ⟨pss_one h1.ps, h1.ss⟩
theorem ss_drop (ha : PD X a ta fa) (hs : swapsWith a none pos.line X.env = pure false := by rfl) : PDS X (.Expr a pos) (tDrop ta) (sDrop fa) := ⟨ps_expr ha.pe hs, fun N H r σ g E F hc hg q l =>
  ha.se N H r σ g _ _ hc hg q fun v H1 r1 d c1 k1 p1 q1 => l.nx σ H1 r1 g c1 k1 (hg.kr k1) q1⟩
theorem ss_ret (ha : PD X a ta fa) : PDS X (.Return (some a) pos) (tRet ta) (sRet fa) := ⟨ps_ret ha.pe, fun N H r σ g E F hc hg q l =>
  ha.se N H r σ g _ _ hc hg q fun v H1 r1 d c1 k1 p1 q1 => l.rt v H1 r1 d c1 k1 p1 q1⟩
theorem ss_if (hc : PDT X c tA fA) (ha : PDSs X as t1 f1) (hb : PDSs X bs t2 f2) : PDS X (.If c as bs pos) (tIfS tA t1 t2) (sIf fA f1 f2) := ⟨ps_if hc.pt ha.ps hb.ps, fun N H r σ g E F h0 hg q l =>
  hc.st N H r σ g _ _ h0 hg q fun x H1 r1 c1 k1 q1 => by
    cases x with
    | true =>
      rw [if_pos rfl] at q1 ⊢
      exact ha.ss N H1 r1 σ g E F c1 (hg.kr k1) q1 (l.kr k1)
    | false =>
      rw [if_neg Bool.false_ne_true] at q1 ⊢
      exact hb.ss N H1 r1 σ g E F c1 (hg.kr k1) q1 (l.kr k1)⟩
/-- code that is never come to -/
def sNever : DS := fun _ _ _ => False
theorem ss_never : PDSs X sts tNever sNever := ⟨pss_never, fun _ _ _ _ _ _ _ _ _ q _ => q.elim⟩
theorem ss_asgT {t : TE} {g : TG} {fa : DE} (ha : SE t fa) (hg : SG is g fg) : SS (tAsg t g) (sAsg fa fg) := fun N H r σ gg E F hc hgs q l =>
  ha N H r σ gg _ _ hc hgs q fun v H1 r1 d c1 k1 p1 q1 => hg N H1 r1 σ gg v d _ _ c1 (hgs.kr k1) p1 q1 fun σ' H' r' g' c2 k2 p2 _ _ q2 => l.nx σ' H' r' g' c2 (k1.trans k2) p2 q2
theorem ss_set {i : Nat} {x : Str} (hN : X.N.Nodup) (ha : PD X a ta fa) (hi : X.N[i]? = some x := by rfl) (hx : Loc X.env.scope x := by first | exact Or.inl rfl | exact Or.inr rfl) (hs : swapsWith a (some (.Name x p')) pos.line X.env = pure false := by rfl)
    (hf : X.fn x = true ∨ X.env.scope.names.lookup x = some .local := by first | exact .inl rfl | exact .inr rfl) : PDS X (.Assign [.Name x p'] a pos) (tAsg ta (gName i)) (sAsg fa (tName i)) :=
  ⟨ps_set hN hi hx ha.pe hs hf, ss_asgT ha.se (is := [i]) fun N H r σ g v d Q QQ hc hg hv q k => k _ H r _ hc (Kr.refl _ _) (hg.set hv) (by simp) (fun j hj => by rw [List.getElem?_set_ne (fun z => hj (by simp [z]))]) q⟩
theorem ss_asg {tgt : Expr} (ha : PD X a ta fa) (hg : PDG X tgt is g fg) (hs : swapsWithSole [tgt] a pos.line X.env = pure false := by rfl) (hw : swappedStores [tgt] a X.env = pure none := by rfl) (h1 : (assignEach [tgt] X.env).map (·.2) = [assign tgt X.env] := by rfl) :
    PDS X (.Assign [tgt] a pos) (tAsg ta g) (sAsg fa fg) := ⟨ps_asg ha.pe hg.pg hs hw h1, ss_asgT ha.se hg.sg⟩
/-- name = [.. for ..] -/
theorem ss_lc (mk : Bool) {i : Nat} {y : Str} {py spos : Pos} {scope : Scope} {own : List (Str × Nat)} {is : List Nat} {wi : TI} {fi : DI} {g : TG} {tgt : DG} {js : List Nat} (hc : X.calm = true) (hN : X.N.Nodup) (hsw : swapsWith (.ListComp elt [⟨tg, iter, ifs, 0⟩] scope pos) (some (.Name y py)) spos.line X.env = pure true) (hi : PDI X tg iter wi fi) (ok : BlkOk X.N X.env.scope scope own)
    (hg : ∀ (s : Shared) (H : Hp) (C : Addr) (cl : List (Str × Addr)) (fp : List Addr), PDG (X.blk s H scope (compEnvC scope cl C X.env) fp) tg js g tgt) (ht : ∀ (s : Shared) (H : Hp) (C : Addr) (cl : List (Str × Addr)) (fp : List Addr), PDTs (X.blk s H scope (compEnvC scope cl C X.env) fp) ifs tt ft)
    (he : ∀ (s : Shared) (H : Hp) (C : Addr) (cl : List (Str × Addr)) (fp : List Addr), PD (X.blk s H scope (compEnvC scope cl C X.env) fp) elt te fe) (hj : ∀ j ∈ js, j ∈ own.map (·.2) := by decide) (hy : X.N[i]? = some y := by rfl) (hyl : X.env.scope.names.lookup y = some .local := by rfl) (hs : ∀ x, foldedSetIterable iter X.env x = pure x := by intro _; rfl) (his : own.map (·.2) = is := by rfl) :
    PDS X (.Assign [.Name y py] (.ListComp elt [⟨tg, iter, ifs, 0⟩] scope pos) spos) (tAsg (tLc wi g tt te (own.map (·.2))) (gName i)) (sAsg (dLc mk fi tgt ft fe is) (tName i)) := by
  subst his
  exact ⟨ps_setLc hc hN hy hyl hsw hi.pi ok (fun s H C cl fp => (hg s H C cl fp).pg) (fun s H C cl fp => (ht s H C cl fp).pts) (fun s H C cl fp => (he s H C cl fp).pe) hs,
    ss_asgT (se_lc hi.si (hg X.s_0 X.H_0 0 [] []).sg (ht X.s_0 X.H_0 0 [] []).st (he X.s_0 X.H_0 0 [] []).se hj) (is := [i]) fun N H r σ g v d Q QQ hc hg hv q k => k _ H r _ hc (Kr.refl _ _) (hg.set hv) (by simp) (fun j hj => by rw [List.getElem?_set_ne (fun z => hj (by simp [z]))]) q⟩
/-- a, b = x, y: plain local names -/
def sPar (i j : Nat) (h : DA) : DS := fun F r g => h r g fun r1 l => match l with
  | [x, y] => F.nx r1 ((g.set i (some x)).set j (some y))
  | _ => False
theorem ss_par {i j : Nat} {x y : Str} {px py pt : Pos} {kt k2 pt2} (hN : X.N.Nodup) (ha : PDA X [a, b] u h) (hw : swappedStores [.Tuple [.Name x px, .Name y py] kt pt] (.Tuple [a, b] k2 pt2) X.env = pure (some [x, y]))
    (hc : X.calm = true := by rfl) (hi : X.N[i]? = some x := by rfl) (hj : X.N[j]? = some y := by rfl) (hij : i ≠ j := by decide) (hx : X.env.scope.names.lookup x = some .local := by rfl) (hy : X.env.scope.names.lookup y = some .local := by rfl)
    (hs : swapsWithSole [.Tuple [.Name x px, .Name y py] kt pt] (.Tuple [a, b] k2 pt2) pos.line X.env = pure false := by rfl) :
    PDS X (.Assign [.Tuple [.Name x px, .Name y py] kt pt] (.Tuple [a, b] k2 pt2) pos) (tPar i j u) (sPar i j h) := ⟨ps_par hc hN hi hj hij hx hy ha.pa hw hs, fun N H r σ g E F c0 hg q l =>
  ha.sa N H r σ g _ _ c0 hg q fun vs H1 r1 ds c1 k1 p1 q1 => by
    split at q1
    · obtain ⟨v, w, rfl, h1, h2⟩ := rep2 p1
      exact ⟨v, w, rfl, l.nx _ H1 r1 _ c1 k1 (((hg.kr k1).set h1).set h2) q1⟩
    · exact q1.elim⟩

/-! ### for, while -/
def forCore (tgt : DG) (body : DS) (F : DEnds) (g : G) (r1 : R) (kp : List (Addr × List D)) (ds : List D) : Prop := ∃ I : Nat → R → G → Prop, (∃ r', Sub r' r1 ∧ I 0 r' g) ∧
  (∀ i d r g, ds[i]? = some d → I i r g → Kept kp r ∧ tgt d r g fun r1 g1 => body { F with nx := fun r g => ∃ r', Sub r' r ∧ I (i + 1) r' g, ct := fun r g => ∃ r', Sub r' r ∧ I (i + 1) r' g, bk := F.nx } r1 g1) ∧
  (∀ r g, I ds.length r g → Kept kp r ∧ F.nx r g)
def sFor (fi : DI) (tgt : DG) (body : DS) : DS := fun F r g => fi r g (forCore tgt body F g)
theorem ss_forT {wi : TI} {fi : DI} {t : TG} {tgt : DG} {tb : TS} {body : DS} (si : SI wi fi) (sg : SG is t tgt) (sb : SS tb body) : SS (tFor wi t tb) (sFor fi tgt body) := fun N H r σ g E F hc hg q l =>
  si N H r σ g _ _ hc hg q fun J H1 r1 kp ds c1 k1 it ⟨I, ⟨r0, hs0, q0⟩, qs, qd⟩ => by
    obtain ⟨Gd, Y, w, hGd, hY⟩ := it.ex
    refine for_it w (fun i σ H => ∃ (r : R) (g : G), Cs N H r ∧ Kr r1 H1 r H ∧ Gs (Av N r) H σ g ∧ I i r g) ?h0 ?hG ?hs ?hd
    case h0 => exact ⟨r0, g, hs0.cs c1, hs0.kr, (hg.kr k1).sub hs0, q0⟩
    case hG =>
      rintro i σ2 H2 hi ⟨r2, g2, c2, k2, _, q2⟩
      refine hGd N r2 H2 k2.kp c2 ?_
      rcases Nat.lt_or_eq_of_le hi with h | h
      · exact (qs i _ r2 g2 (List.getElem?_eq_getElem h) q2).1
      · exact (qd r2 g2 (h ▸ q2)).1
    case hs =>
      rintro i x σ2 H2 H3 hi ⟨r2, g2, c2, k2, s2, q2⟩ y
      have hi' : i < ds.length := hi
      obtain ⟨d, hd, c3, k3, p3⟩ := hY N i r2 H2 x H3 hi k2.kp c2 (qs i _ r2 g2 (List.getElem?_eq_getElem hi') q2).1 y
      replace q2 := qs i d r2 g2 hd q2
      refine sg N H3 r2 σ2 g2 x d _ _ c3 (s2.kr k3) p3 q2.2 fun σ4 H4 r4 g4 c4 k4 s4 _ _ q4 => ?_
      have kk := (k2.trans k3).trans k4
      have again : ∀ σ' H' r' g', Cs N H' r' → Kr r4 H4 r' H' → Gs (Av N r') H' σ' g' → (∃ r'', Sub r'' r' ∧ I (i + 1) r'' g') → ∃ (r : R) (g : G), Cs N H' r ∧ Kr r1 H1 r H' ∧ Gs (Av N r) H' σ' g ∧ I (i + 1) r g :=
        fun σ' H' r' g' c k s ⟨r'', hs, q⟩ => ⟨r'', g', hs.cs c, (kk.trans k).trans hs.kr, s.sub hs, q⟩
      exact sb N H4 r4 σ4 g4 _ _ c4 s4 q4 ⟨again, fun v H' r' d c k p q => l.rt v H' r' d c ((k1.trans kk).trans k) p q, fun σ' H' r' g' c k s q => l.nx σ' H' r' g' c ((k1.trans kk).trans k) s q, again⟩
    case hd =>
      rintro σ2 H2 ⟨r2, g2, c2, k2, s2, q2⟩
      exact l.nx σ2 H2 r2 g2 c2 (k1.trans k2) s2 (qd r2 g2 q2).2
theorem ss_for {wi : TI} {fi : DI} {t : TG} {tgt : DG} {tb : TS} {body : DS} (hp : PassesOwn (model X.prog X.w) X.A X.env X.xe) (hc : X.calm = true) (hi : PDI X tg iter wi fi) (hg : PDG X tg is t tgt) (hb : PDSs X sts tb body) (hs : ∀ x, foldedSetIterable iter X.env x = pure x := by intro _; rfl) :
    PDS X (.For tg iter sts [] pos) (tFor wi t tb) (sFor fi tgt body) := ⟨ps_for hp hc hi.pi hg.pg hb.ps hs, ss_forT hi.si hg.sg hb.ss⟩
def whCore (c : DT) (body : DS) (F : DEnds) (r : R) (g : G) : Prop := ∃ I : Nat → R → G → Prop, (∃ n r', Sub r' r ∧ I n r' g) ∧
  ∀ n r g, I n r g → c r g fun r1 b => if b = true then body { F with nx := fun r g => ∃ r', Sub r' r ∧ ∃ m, m < n ∧ I m r' g, ct := fun r g => ∃ r', Sub r' r ∧ ∃ m, m < n ∧ I m r' g, bk := F.nx } r1 g else F.nx r1 g
def sWhile (c : DT) (body : DS) : DS := whCore c body
theorem ss_whileT {tb : TS} {body : DS} (st : ST tA fA) (sb : SS tb body) : SS (tWhile tA tb) (sWhile fA body) := fun N H r σ g E F hc hg ⟨I, ⟨n, r0, hs0, q⟩, qs⟩ l => by
  refine ⟨fun m σ H' => ∃ (r' : R) (g : G), Cs N H' r' ∧ Kr r H r' H' ∧ Gs (Av N r') H' σ g ∧ I m r' g, ⟨n, r0, g, hs0.cs hc, hs0.kr, hg.sub hs0, q⟩, ?_⟩
  rintro m σ2 H2 ⟨r2, g2, c2, k2, s2, q2⟩
  · replace q2 := qs m r2 g2 q2
    refine st N H2 r2 σ2 g2 _ _ c2 s2 q2 fun b H3 r3 c3 k3 q3 => ?_
    cases b with
    | false =>
      rw [if_neg Bool.false_ne_true] at q3 ⊢
      exact l.nx σ2 H3 r3 g2 c3 (k2.trans k3) (s2.kr k3) q3
    | true =>
      rw [if_pos rfl] at q3 ⊢
      have kk := k2.trans k3
      have again : ∀ σ' H' r' g', Cs N H' r' → Kr r3 H3 r' H' → Gs (Av N r') H' σ' g' → (∃ r'', Sub r'' r' ∧ ∃ m', m' < m ∧ I m' r'' g') → ∃ m', m' < m ∧ ∃ (r' : R) (g : G), Cs N H' r' ∧ Kr r H r' H' ∧ Gs (Av N r') H' σ' g ∧ I m' r' g :=
        fun σ' H' r' g' c k s ⟨r'', hs, m', hm, q⟩ => ⟨m', hm, r'', g', hs.cs c, (kk.trans k).trans hs.kr, s.sub hs, q⟩
      refine ⟨fun σ H' => ∃ m', m' < m ∧ ∃ (r' : R) (g : G), Cs N H' r' ∧ Kr r H r' H' ∧ Gs (Av N r') H' σ g ∧ I m' r' g, fun σ' H' q => q, ?_⟩
      exact sb N H3 r3 σ2 g2 _ _ c3 (s2.kr k3) q3 ⟨again, fun v H' r' d c k p q => l.rt v H' r' d c (kk.trans k) p q, fun σ' H' r' g' c k s q => l.nx σ' H' r' g' c (kk.trans k) s q, again⟩
theorem ss_while {tb : TS} {body : DS} (hp : PassesOwn (model X.prog X.w) X.A X.env X.xe) (hc : PDT X c tA fA) (hb : PDSs X sts tb body) : PDS X (.While c sts [] pos) (tWhile tA tb) (sWhile fA body) := ⟨ps_while hp hc.pt hb.ps, ss_whileT hc.st hb.ss⟩
end

/-! ### a def -/
def startG (N : List Str) (ds : List D) : G := ds.map some ++ List.replicate (N.length - ds.length) none
theorem gs_start {N : Addr → Prop} {H : Hp} {ds : List D} {vs : List V} (M : List Str) (l : RepL N H ds vs) : Gs N H (L2.start M vs) (startG M ds) := by
  have hl := l.length
  refine ⟨by unfold L2.start startG; simp [hl], fun i d e => ?_⟩
  unfold startG at e
  by_cases hi : i < ds.length
  · rw [List.getElem?_append_left (by simpa using hi), List.getElem?_map] at e
    cases q : ds[i]? with
    | none => rw [q] at e; cases e
    | some d' =>
      rw [q] at e
      cases e
      obtain ⟨v, h1, h2⟩ := l.get q
      refine ⟨v, ?_, h2⟩
      unfold L2.start
      rw [List.getElem?_append_left (by simp; omega), List.getElem?_map, h1]
      rfl
  · rw [List.getElem?_append_right (by simpa using hi), List.getElem?_replicate] at e
    split at e <;> cases e
section
variable {P : Program} {w : World} {K : PySem.W.Frag} {mg : Str → Option Value} {base : Heap}
/-- the body's reading is run in a fresh frame -/
theorem g_of {x qual : Str} {st : Stmt} {f : Addr} {fd : FuncData} {N ps : List Str} {k : Nat} {sp : Sp} {CX : CXT} (F : Fun K x qual st f fd) (S : FnScope N ps (defScope st)) (len : ∀ vs H Q E, sp vs H Q E → vs.length = ps.length)
    (hbody : ∀ (cdv : Value) (A : Around) (outer : List Env) (s : Shared) (H : Hp) (vs : List V) (Q : VK) (E : XK), A.guards = some [] → Room k (A.deeper (envOfC qual (defScope st) s.heap.objs.size f cdv)) → sp vs H Q E →
      ∃ t, PSs (cxOf CX P w K mg base N qual (defScope st) f cdv A outer s H E) (defBody st) t ∧ t { nx := fun _ H' => Q .non H', rt := Q } (L2.start N vs) H) : FnG P w K mg base CX (k + 1) f fd ps sp := by
  obtain ⟨oc, od, kV, doc, pm, an, cdv, ct, osl, rfl, lk, hcd⟩ := F.ex
  refine ⟨len, fun A outer s H args us vs Q E hG hr e0 hb r hsp => ?_⟩
  have old : ∀ b o, base.get? b = some o → s.heap.get? b = some o := fun b o e => (e0.bs b o e).1
  have KX : K.In s.heap := e0.mod.kin.keeps old
  refine codeAny_call_function hr.depth (KX _ _ lk) rfl S.co S.gen rfl (PySem.W.codeRec_of KX hcd) (hb _ _ _ _ (wpAny_newFunctionEnv_cells S.kind (fun y hy => ?_) fun env he s1 x => ?_))
  · rcases S.par y.1 (List.of_mem_zip (show (y.1, y.2) ∈ ps.zip us from hy)).1 with q | q
    · exact .inl q
    · exact .inr ⟨q, PySem.W.cellsFrom_some _ _ _ (.inl q)⟩
  · subst he
    refine ⟨(e0.mod.nolimit.keeps old).keeps x.toInCall.keep, codeAny_func ?_⟩
    obtain ⟨t, ht, hq⟩ := hbody cdv A outer s H vs Q E hG (hr.deeper _) hsp
    have I := inv_start (CX := CX) (E := E) S hr.hd e0 (len _ _ _ _ hsp) r x
    refine wpAny_mono (ht.run [] s1 (L2.start N vs) H _ I hq) (fun fl s' hs => ?_) fun _ _ hs => hs
    match fl, hs with
    | .ret u, ⟨v, σ', H', J, rv, q⟩ => exact ⟨v, H', J.os, J.bare, J.base, J.hok, rv, q⟩
    | .next, ⟨σ', H', J, q⟩ => exact ⟨V.non, H', J.os, J.bare, J.base, J.hok, rfl, q⟩
    | .brk, ⟨_, _, _, q⟩ => exact False.elim q
    | .cont, ⟨_, _, _, q⟩ => exact False.elim q
/-- THE RULE for a def that raises nothing: D's transformer of its body; cells that its frame made and nobody holds are dropped -/
theorem d_of {x qual : Str} {st : Stmt} {f : Addr} {fd : FuncData} {N ps : List Str} {k : Nat} {sp : DSp} (F : Fun K x qual st f fd) (S : FnScope N ps (defScope st)) (len : ∀ r ds Q, sp r ds Q → ds.length = ps.length)
    (hbody : ∀ (cdv : Value) (A : Around) (outer : List Env) (s : Shared) (H : Hp) (E : XK), A.guards = some [] → Room k (A.deeper (envOfC qual (defScope st) s.heap.objs.size f cdv)) →
      ∃ t g, PDSs (cxOf CX0 P w K mg base N qual (defScope st) f cdv A outer s H E).nox (defBody st) t g ∧
        ∀ r ds Q, sp r ds Q → g { nx := fun r' _ => ∃ r'', Sub r'' r' ∧ Q r'' .non, rt := fun r' d => ∃ r'', Sub r'' r' ∧ Q r'' d } r (startG N ds)) : FnD P w K mg base (k + 1) f fd ps sp := by
  refine g_of F S (fun vs H Q E ⟨_, r, ds, Q', _, l, h, _⟩ => by rw [← l.length]; exact len r ds Q' h) fun cdv A outer s H vs Q E hG hr ⟨M, r, ds, Q', c, l, h, k'⟩ => ?_
  obtain ⟨t, g, hd, hq⟩ := hbody cdv A outer s H E hG hr
  refine ⟨t, hd.ps.nox, hd.ss M H r _ _ _ _ c (gs_start N l) (hq r ds Q' h) ⟨fun σ' H' r' g' c' k1 _ ⟨r'', hs, q⟩ => ?_, fun v H' r' d c' k1 p ⟨r'', hs, q⟩ => ?_, fun _ _ _ _ _ _ _ q => q.elim, fun _ _ _ _ _ _ _ q => q.elim⟩⟩
  · exact k' _ H' r'' _ (hs.cs c') (k1.trans hs.kr) rep_non q
  · exact k' v H' r'' d (hs.cs c') (k1.trans hs.kr) (Rep.kp (sub_kp fun b m => hs.mem m) _ _ p) q
end
end DL

set_option Elab.async false
set_option linter.all false
set_option maxRecDepth 100000
set_option maxHeartbeats 8000000
/-! set(xs), xs a list of ints: built, then sorted or counted; repr of data. -/
namespace DL
open PySem L2 PyProof.Rows

abbrev S0 (w : World) : Obj := { cls := .type "set", dict := none, data := .set #[] 0 (.fresh 0 0 (!w.params.followText "set-order")) }
section
variable {P : Program} {w : World} {A : Around} {E : Value → Shared → Prop} {s : Shared}
set_option maxRecDepth 100000 in
theorem mk_set {l : Addr} {its : Array Value} (ns : List Int) {Q : Value → Shared → Prop} (hd : A.handled = none) (pl : s.heap.IsList l its) (ia : IntsAre its.toList ns) (few : ns.length + 1 < scanBound)
    (k : ∀ (g : Heap) (t c : Nat), SetR w g s.heap.objs.size (fun j => decide (j ∈ ns)) c → (∀ b o, s.heap.get? b = some o → g.get? b = some o) → Q (.ref s.heap.objs.size) { s with heap := g, toks := t }) : wpAny (model P w) A (call (.type "set") [.ref l]) Q E s := by
  have hsz : its.size = ns.length := by have z := IntsAre.length ia; simpa using z
  obtain ⟨c0, tl0, hmro0⟩ := F.called_set.mro
  have q1 := F.called_set.made; have q2 := F.called_set.sub
  refine wpAny_call (codeAny_of_tree (show wpAny _ _ (callAny (.type "set") _) _ _ _ from ?_))
  refine wpAny_pure ⟨Code.quiet_builtin _ (by decide +kernel), codeAny_builtin F.entry_type_call ?_⟩
  rw [Around.under_plain (weight_type_call_type "set" [.ref l] []) rfl]
  have q3 := F.called_set.notType; have q4 := F.called_set.canCreate; have q5 := F.typeCall_set_1 (.ref l)
  repeat (any_goals (first | assumption | wp_step))

  refine codeAny_mono (code_set_led1 (.ref l) (E := E) (Q₁ := fun ob z => ob = .ref s.heap.objs.size ∧ z = { s with heap := s.heap.push (S0 w) }) ⟨rfl, rfl⟩) fun rr z hrr => ?_
  match rr, hrr with
  | .error e, hrr => exact hrr
  | .ok (.ret ob), ⟨e1, e2⟩ =>
    subst e1; subst e2
    have gS : (s.heap.push (S0 w)).get? s.heap.objs.size = some (S0 w) := Heap.get?_push_size _ rfl
    have tS : Shared.TypeIs { s with heap := s.heap.push (S0 w) } (.ref s.heap.objs.size) "set" := ⟨_, gS, rfl⟩
    have q6 := F.called_set.init.lookup; have q7 := F.called_set.init.bind (.ref s.heap.objs.size)
    repeat (any_goals (first | assumption | wp_step))

    refine codeAny_mono (codeAny_call_builtin (R := wants (fun v z => v = .none ∧ ∃ g t c, z = { s with heap := g, toks := t } ∧ SetR w g s.heap.objs.size (fun j => decide (j ∈ ns)) c ∧ (∀ b o, s.heap.get? b = some o → g.get? b = some o)) E)
      F.called_set.init.plain F.entry_set_init (check_set_init_1 tS ?_)) fun r2 z2 h2 => ?_
    · obtain ⟨⟨ocl, odi, oda, osl⟩, hol, hcl, n0, hda⟩ := pl
      have hcl' : ocl = .type "list" := hcl
      have hda' : oda = .seq its n0 := hda
      subst hcl'; subst hda'
      have g1 := Heap.get?_push_of_some (S0 w) hol
      have q8 := F.sub_list_set; have q9 := F.sub_list_frozenset
      have q10 : (Value.type "list" == Value.type "dict") = false := by decide
      have l1 : (s.heap.push (S0 w)).IsList l its := ⟨_, g1, rfl, n0, rfl⟩
      unfold Builtin.«set.__init__» noKeywords Builtin.Frozenset.updateFrom
      generalize hit : pyIter = itf
      wp_walk
      subst hit

      refine wpAny_pyIter_list l1 (wpAny_bind (wpAny_runValue ?_))
      have lt : l < s.heap.objs.size := Heap.lt_size hol
      have hd3 : A.in1.in1.in1.handled = none := by simp [hd]
      have sz1 : (s.heap.push (S0 w)).objs.size = s.heap.objs.size + 1 := Heap.size_push ..
      refine set_update_ints ((Walks.list hd3 _ l (by rw [sz1]; exact Nat.ne_of_lt (Nat.lt_succ_of_lt lt)) its).toS) s.heap.objs.size (by rw [sz1]; simp only [List.mem_cons, List.not_mem_nil, or_false, not_or]; exact ⟨Nat.ne_of_lt (Nat.lt_succ_self _), Nat.ne_of_gt lt⟩) ns hsz few (fun i v hv => ?_) (its.size - 0) 0 _ (by omega) (Nat.zero_le _)
        ⟨⟨_, Heap.get?_push_size _ rfl, rfl, rfl⟩, (l1.push _)⟩ ?h0 ?hr
      · have hi : i < ns.length := by rw [← hsz]; exact (Array.getElem?_eq_some_iff.mp hv).1
        obtain ⟨t, e⟩ := PyProof.Rows.IntsAre.int_at ia i v (by rw [Array.getElem?_toList]; exact hv)
        exact ⟨ns[i], t, List.getElem?_eq_getElem hi, by rw [e, List.getD_eq_getElem?_getD, List.getElem?_eq_getElem hi]; rfl⟩
      case h0 => exact ⟨0, Nat.le_refl 0, setR_new_at (Heap.get?_push_of_some _ gS)⟩
      case hr =>
        rintro ⟨g, gg, dd, tt, oo⟩ c mv hc hS
        obtain rfl : gg = s.gens := mv.gens
        obtain rfl : dd = s.drawn := mv.drawn
        obtain rfl : oo = s.os := mv.os
        refine (show wpAny _ _ _ _ _ _ from wpAny_pure (show wpAny _ _ (ret Value.none) _ _ _ from wpAny_pure ⟨rfl, g, tt, c, rfl, hS, fun b o e => ?_⟩))
        have hb : b < s.heap.objs.size := Heap.lt_size e
        exact mv.heap b o (by rw [sz1]; simp only [List.mem_cons, List.not_mem_nil, or_false, not_or]; exact ⟨Nat.ne_of_lt hb, Nat.ne_of_lt (Nat.lt_succ_of_lt hb)⟩) (Heap.get?_push_of_some _ (Heap.get?_push_of_some _ e))
    · match r2, h2 with
      | .error e, h2 => exact h2
      | .ok (.ret v), ⟨e1, g, t, c, e2, hS, hk⟩ =>
        subst e1; subst e2
        repeat (any_goals (first | assumption | wp_step))
        exact k g t c hS hk
      | .ok .next, h2 => exact h2.elim
      | .ok .brk, h2 => exact h2.elim
      | .ok .cont, h2 => exact h2.elim
  | .ok .next, h => exact h.elim
  | .ok .brk, h => exact h.elim
  | .ok .cont, h => exact h.elim
end

/-! ### sorted(set(xs)), len(set(xs)) -/
def rSetL (K : PySem.W.Frag) (w : World) : List V → Hp → VK → Prop := fun vs H Q => ∃ (a : Addr) (ns : List Int), vs = [V.ref a] ∧ SqL K H a (ns.map V.int) ∧ ns.length ≤ 4000 ∧
  ∀ p c, H p = none → (∃ ks : List Int, ks.Nodup ∧ (∀ k, k ∈ ks ↔ k ∈ ns) ∧ ks.length = c) → Q (.ref p) (upd H p (SetO w p (fun j => decide (j ∈ ns)) c))
section
variable {X : Cx} {e a b c : Expr} {te ta tb tc : TE} {f fa fb fc : DE} {pos p p2 q0 : Pos} {es rest : List Expr} {u : TA} {h : DA}
theorem cr_setL (hc : X.calm = true) : CallR X (.type "set") (rSetL X.K X.w) := by
  intro pins s σ H vs us Q I r h
  obtain ⟨a, ns, e1, hs, hl, q⟩ := h
  subst e1
  rw [Vals.ref1 r]
  obtain ⟨its, rv, pl, hz⟩ := I.list hs
  refine mk_set (P := X.prog) (w := X.w) ns (I.ok.hd hc) pl.isList rv.ints (by unfold scanBound; omega) fun g t cc R hk => ?_
  have hq := q s.heap.objs.size cc (I.hok.fresh (Nat.le_refl _)) (by
    obtain ⟨o, es, ep, t, ho, hex, hd, g, nd, hm, hb, hf, hn, _⟩ := R
    refine ⟨es.toList.map keyOf, nd, fun k => ?_, by rw [List.length_map, Array.length_toList]; exact hn⟩
    rw [← hm k, decide_eq_true_eq])
  exact ⟨.ref s.heap.objs.size, _, I.laid (t' := t) hk (Nat.le_refl _) (setO_new R), rfl, hq⟩
/-- len of such a set -/
def rLenO (w : World) : List V → Hp → VK → Prop := fun vs H Q => ∃ (a : Addr) (S : Int → Bool) (n : Nat), vs = [V.ref a] ∧ H a = some (SetO w a S n) ∧ Q (.int n) H
theorem cr_lenO : CallR X (.builtin "len") (rLenO X.w) := by
  intro pins s σ H vs us Q I r h
  obtain ⟨a, S, n, e1, ha, q⟩ := h
  subst e1
  rw [Vals.ref1 r]
  obtain ⟨o, es, ep, t, ho, hex, hd, g, nd, hm, hb, hf, hn, _⟩ := setO_get I ha
  subst hn
  exact call_len_set ho hex hd hf (by unfold scanBound at hb; omega) ⟨.int es.size, H, I.tok _, ⟨_, rfl⟩, q⟩
def oSortSet (mk : Bool) : List D → R → (R → D → Prop) → Prop
  | [x], r, Q => ∃ ns : List Int, lstOf r x = some (ns.map D.int) ∧ ns.length ≤ 4000 ∧ (∀ ks : List Int, ks.Nodup → (∀ k, k ∈ ks ↔ k ∈ ns) → ks.length < 64) ∧
      ∀ ns' : List Int, ns'.Pairwise (· < ·) → (∀ k, k ∈ ns' ↔ k ∈ ns) → mkD mk (ns'.map D.int) r Q
  | _, _, _ => False
def oLenSet : List D → R → (R → D → Prop) → Prop
  | [x], r, Q => ∃ ns : List Int, lstOf r x = some (ns.map D.int) ∧ ns.length ≤ 4000 ∧ ∀ ns' : List Int, ns'.Nodup → (∀ k, k ∈ ns' ↔ k ∈ ns) → Q r (.int ns'.length)
  | _, _, _ => False
theorem se_sortset {K : PySem.W.Frag} {w : World} {mk : Bool} (ha : SA u h) : SE (tCB (rSortedSet w) (tCons (tCB (rSetL K w) u) tNil)) (dCB (oSortSet mk) h) := fun N H r σ g Q QQ hc hg q k =>
  ha N H r σ g _ _ hc hg q fun vs H1 r1 ds c1 k1 p1 q1 => by
    unfold oSortSet at q1
    split at q1
    · obtain ⟨ns, e, hl, hn, q1⟩ := q1
      obtain ⟨v, rfl, hv⟩ := rep1 p1
      obtain ⟨z, ws, rfl, g1, l⟩ := lstOf_sq (K := K) c1 hv e
      rw [l.ints] at g1
      refine ⟨z, ns, rfl, g1, hl, fun p c hp ⟨ks, h1, h2, h3⟩ => ⟨p, _, c, rfl, upd_same, by rw [← h3]; exact hn ks h1 h2, fun ns' p' h4 h5 h6 hp' => ?_⟩⟩
      have kk : Kr r1 H1 r1 (upd H1 p (SetO w p (fun j => decide (j ∈ ns)) c)) := new_kr hp
      exact mkD_ok (new_cs c1 hp) (RepL.ofInts ns') (q1 ns' h4 fun j => by rw [h5 j, decide_eq_true_eq]) (fun v H' r' d a1 a2 a3 a4 => k v H' r' d a1 ((k1.trans kk).trans a2) a3 a4) hp'
    · exact q1.elim
theorem se_lenset {K : PySem.W.Frag} {w : World} (ha : SA u h) : SE (tCB (rLenO w) (tCons (tCB (rSetL K w) u) tNil)) (dCB oLenSet h) := fun N H r σ g Q QQ hc hg q k =>
  ha N H r σ g _ _ hc hg q fun vs H1 r1 ds c1 k1 p1 q1 => by
    unfold oLenSet at q1
    split at q1
    · obtain ⟨ns, e, hl, q1⟩ := q1
      obtain ⟨v, rfl, hv⟩ := rep1 p1
      obtain ⟨z, ws, rfl, g1, l⟩ := lstOf_sq (K := K) c1 hv e
      rw [l.ints] at g1
      refine ⟨z, ns, rfl, g1, hl, fun p c hp ⟨ks, h1, h2, h3⟩ => ⟨p, _, c, rfl, upd_same, ?_⟩⟩
      have kk : Kr r1 H1 r1 (upd H1 p (SetO w p (fun j => decide (j ∈ ns)) c)) := new_kr hp
      exact k _ _ r1 _ (new_cs c1 hp) (k1.trans kk) (by rw [← h3]; exact rep_int) (q1 ks h1 h2)
    · exact q1.elim
theorem pd_sortset {K : PySem.W.Frag} {w : World} (mk : Bool) (hc : X.calm = true) (hm : X.mg "sorted" = none) (hm2 : X.mg "set" = none) (ha : PDA X (a :: es) u h) (hg : Gl X "sorted" := by rfl) (hg2 : Gl X "set" := by rfl)
    (he : starEach (a :: es) X.env = (false, eval a X.env) :: starEach es X.env := by rfl) (hpl : (backTo q0 (starEach es X.env)).any (·.1) = false := by rfl)
    (he2 : starEach [.Call (.Name "set" p2) (a :: es) [] q0] X.env = (false, eval (.Call (.Name "set" p2) (a :: es) [] q0) X.env) :: starEach [] X.env := by rfl) (hpl2 : (backTo pos (starEach [] X.env)).any (·.1) = false := by rfl) (hK : X.K = K := by rfl) (hw : X.w = w := by rfl) :
    PD X (.Call (.Name "sorted" p) [.Call (.Name "set" p2) (a :: es) [] q0] [] pos) (tCB (rSortedSet w) (tCons (tCB (rSetL K w) u) tNil)) (dCB (oSortSet mk) h) := by
  subst hK
  subst hw
  exact ⟨pe_callB (cr_sortedSet hc) hg hm (by decide +kernel) (pa_cons (pe_callTy (cr_setL hc) hg2 hm2 (by decide +kernel) ha.pa (by decide) (by decide) he hpl) pa_nil he2) (by decide) (by decide) he2 hpl2, se_sortset ha.sa⟩
theorem pd_lenset {K : PySem.W.Frag} {w : World} (hc : X.calm = true) (hm : X.mg "len" = none) (hm2 : X.mg "set" = none) (ha : PDA X (a :: es) u h) (hg : Gl X "len" := by rfl) (hg2 : Gl X "set" := by rfl)
    (he : starEach (a :: es) X.env = (false, eval a X.env) :: starEach es X.env := by rfl) (hpl : (backTo q0 (starEach es X.env)).any (·.1) = false := by rfl)
    (he2 : starEach [.Call (.Name "set" p2) (a :: es) [] q0] X.env = (false, eval (.Call (.Name "set" p2) (a :: es) [] q0) X.env) :: starEach [] X.env := by rfl) (hpl2 : (backTo pos (starEach [] X.env)).any (·.1) = false := by rfl) (hK : X.K = K := by rfl) (hw : X.w = w := by rfl) :
    PD X (.Call (.Name "len" p) [.Call (.Name "set" p2) (a :: es) [] q0] [] pos) (tCB (rLenO w) (tCons (tCB (rSetL K w) u) tNil)) (dCB oLenSet h) := by
  subst hK
  subst hw
  exact ⟨pe_callB cr_lenO hg hm (by decide +kernel) (pa_cons (pe_callTy (cr_setL hc) hg2 hm2 (by decide +kernel) ha.pa (by decide) (by decide) he hpl) pa_nil he2) (by decide) (by decide) he2 hpl2, se_lenset ha.sa⟩
/-! ### repr of data -/
def rRepr (K : PySem.W.Frag) : List V → Hp → VK → Prop := fun vs H Q => ∃ v d, vs = [v] ∧ Dp K H v d ∧ d.showable = true ∧ d.hasDict = false ∧ d.depth ≤ 60 ∧ d.shown.length ≤ sizeLine ∧ (∃ a, v = .ref a) ∧ Q (.str d.shown) H
theorem cr_repr (hG : X.A.guards = some []) (hu : X.A.units + 64 < cLine) : CallR X (.builtin "repr") (rRepr X.K) := by
  intro pins s σ H vs us Q I r h
  obtain ⟨v, d, e1, hd, hs, hh, hp, hz, ⟨z, e2⟩, q⟩ := h
  subst e1; subst e2
  rw [Vals.ref1 r]
  obtain ⟨as, rd⟩ := Dp.reads I d _ (.ref z) hd rfl
  exact repr_of_reads' rd hs (fun x => by rw [hh] at x; cases x) hG (by omega) (fun _ _ e => e) (fun h' u tk hk => ⟨.str d.shown, H, I.kept (t' := tk) hk, ⟨_, rfl⟩, q⟩) hz
def oRepr : List D → R → (R → D → Prop) → Prop
  | [x], r, Q => ∃ d, toPR r x = some d ∧ d.showable = true ∧ d.hasDict = false ∧ d.depth ≤ 60 ∧ d.shown.length ≤ sizeLine ∧ (seqOf r x).isSome = true ∧ Q r (.str d.shown)
  | _, _, _ => False
theorem sc_repr (K : PySem.W.Frag) : SC (rRepr K) oRepr := fun N H r vs ds Q QQ hc hr q k => by
  unfold oRepr at q
  split at q
  · obtain ⟨d, e, h1, h2, h3, h4, h5, q⟩ := q
    obtain ⟨v, rfl, hv⟩ := rep1 hr
    obtain ⟨xs, e5⟩ := Option.isSome_iff_exists.mp h5
    obtain ⟨z, vs, rfl, _⟩ := seqOf_sq (K := K) hc hv e5
    exact ⟨_, d, rfl, dpR_of hc hv e, h1, h2, h3, h4, ⟨z, rfl⟩, k _ H r _ hc (Kr.refl _ _) rep_str q⟩
  · exact q.elim
theorem pd_repr {K : PySem.W.Frag} (hG : X.A.guards = some []) (hu : X.A.units + 64 < cLine) (hm : X.mg "repr" = none) (ha : PDA X (a :: es) u h) (hg : Gl X "repr" := by rfl) (he : starEach (a :: es) X.env = (false, eval a X.env) :: starEach es X.env := by rfl) (hpl : (backTo pos (starEach es X.env)).any (·.1) = false := by rfl) (hK : X.K = K := by rfl) :
    PD X (.Call (.Name "repr" p) (a :: es) [] pos) (tCB (rRepr K) u) (dCB oRepr h) := by
  subst hK
  exact ⟨pe_callB (cr_repr hG hu) hg hm (by decide +kernel) ha.pa (by decide) (by decide) he hpl, se_cb (sc_repr X.K) ha.sa⟩
end
end DL

set_option Elab.async false
set_option linter.all false
set_option maxRecDepth 100000
set_option maxHeartbeats 8000000
/-! repr of data, an empty dict among them; {}; == of texts. -/
namespace DL
open PySem L2 PyProof.Rows
mutual
def toQ : D → Option PyData
  | .non => some .none
  | .bl b => some (.bool b)
  | .int i => some (.int i)
  | .str x => some (.str x)
  | .lst xs => (toQs xs).map PyData.list
  | .tup xs => (toQs xs).map PyData.tuple
  | .dct [] => some (.dict [])
  | _ => none
def toQs : List D → Option (List PyData)
  | [] => some []
  | d :: ds => match toQ d, toQs ds with
    | some q, some qs => some (q :: qs)
    | _, _ => none
end
def RdS (P : Program) (w : World) (H : Hp) (v : V) (q : PyData) : Prop := ∀ (h : Heap) (u : Value), HOk P w H h → RelV v u → ∃ as, Reads h u q as ∧ sysModules ∉ as
def RdSs (P : Program) (w : World) (H : Hp) (vs : List V) (qs : List PyData) : Prop := ∀ (h : Heap) (us : List Value), HOk P w H h → Vals vs us → ∃ as, ReadsAll h us qs as ∧ sysModules ∉ as
section
variable {P : Program} {w : World} {N : Addr → Prop} {H : Hp}
mutual
theorem rds_of (hs : N sysModules) : ∀ (d : D) (v : V) (q : PyData), Rep N H d v → toQ d = some q → RdS P w H v q
  | .non, _, _, h, e => by unfold Rep at h; unfold toQ at e; cases e; subst h; intro g u ok r; cases r; exact ⟨_, .none, by simp⟩
  | .bl x, _, _, h, e => by unfold Rep at h; unfold toQ at e; cases e; subst h; intro g u ok r; cases r; exact ⟨_, .bool x, by simp⟩
  | .int x, _, _, h, e => by unfold Rep at h; unfold toQ at e; cases e; subst h; intro g u ok r; obtain ⟨t, rfl⟩ := r; exact ⟨_, .int x t, by simp⟩
  | .str x, _, _, h, e => by unfold Rep at h; unfold toQ at e; cases e; subst h; intro g u ok r; obtain ⟨t, rfl⟩ := r; exact ⟨_, .str x t, by simp⟩
  | .lst xs, _, _, h, e => by
    unfold Rep at h; unfold toQ at e
    obtain ⟨qs, e1, rfl⟩ := Option.map_eq_some_iff.mp e
    obtain ⟨z, vs, rfl, hz, g, l⟩ := h
    intro hp u ok r
    cases r
    obtain ⟨_, its, n, rv, ho⟩ := ok z _ g
    obtain ⟨as, ra, hn⟩ := rdss_of hs xs vs qs l e1 hp its ok rv
    exact ⟨_, .list ho rfl rfl ra, by
      rw [List.mem_cons, not_or]
      exact ⟨fun x => hz (x ▸ hs), hn⟩⟩
  | .tup xs, _, _, h, e => by
    unfold Rep at h; unfold toQ at e
    obtain ⟨qs, e1, rfl⟩ := Option.map_eq_some_iff.mp e
    obtain ⟨z, vs, rfl, hz, g, l⟩ := h
    intro hp u ok r
    cases r
    obtain ⟨_, its, rv, o, ho, hc, n, hd⟩ := ok z _ g
    obtain ⟨as, ra, hn⟩ := rdss_of hs xs vs qs l e1 hp its ok rv
    exact ⟨_, .tuple ho hc hd ra, hn⟩
  | .dct [], _, _, h, e => by
    unfold Rep at h; unfold toQ at e; cases e
    obtain ⟨z, rfl, hz, g⟩ := h
    intro hp u ok r
    cases r
    obtain ⟨_, hsy, vs, kv, o, es, ep, ho, hx, hd, _, hp2, _⟩ := ok z _ g
    cases kv
    have he : es.toList = [] := by
      cases q : es.toList with
      | nil => rfl
      | cons a b => rw [q] at hp2; cases hp2
    refine ⟨_, .dict (as := []) (bs := []) ho hx.1 hd (by rw [he]; exact .nil) (by rw [he]; exact .nil), ?_⟩
    simp
    exact fun x => hz (x ▸ hs)
  | .dct (_ :: _), _, _, _, e => by unfold toQ at e; cases e
  | .ty _, _, _, _, e => by unfold toQ at e; cases e
  | .ob _, _, _, _, e => by unfold toQ at e; cases e
  | .scr _, _, _, _, e => by unfold toQ at e; cases e
theorem rdss_of (hs : N sysModules) : ∀ (ds : List D) (vs : List V) (qs : List PyData), RepL N H ds vs → toQs ds = some qs → RdSs P w H vs qs
  | [], _, _, h, e => by unfold RepL at h; unfold toQs at e; cases e; subst h; intro g us ok r; cases r; exact ⟨_, .nil, by simp⟩
  | d :: ds, _, _, h, e => by
    unfold RepL at h; unfold toQs at e
    obtain ⟨v, ws, rfl, h1, h2⟩ := h
    cases e1 : toQ d with
    | none => rw [e1] at e; cases e
    | some q =>
      cases e2 : toQs ds with
      | none => rw [e1, e2] at e; cases e
      | some qs =>
        rw [e1, e2] at e; cases e
        intro g us ok r
        cases r with
        | cons r1 r2 =>
          obtain ⟨as, a1, n1⟩ := rds_of hs d v q h1 e1 g _ ok r1
          obtain ⟨bs, a2, n2⟩ := rdss_of hs ds ws qs h2 e2 g _ ok r2
          exact ⟨_, .cons a1 a2, by rw [List.mem_append, not_or]; exact ⟨n1, n2⟩⟩
end
end
def rReprX (P : Program) (w : World) : List V → Hp → VK → Prop := fun vs H Q => ∃ v q, vs = [v] ∧ RdS P w H v q ∧ q.showable = true ∧ q.depth ≤ 60 ∧ q.shown.length ≤ sizeLine ∧ (∃ a, v = .ref a) ∧ Q (.str q.shown) H
section
variable {X : Cx} {e a b c : Expr} {te ta tb tc : TE} {f fa fb fc : DE} {pos p p2 q0 : Pos} {es rest : List Expr} {u : TA} {h : DA}
theorem cr_reprX (hG : X.A.guards = some []) (hu : X.A.units + 64 < cLine) : CallR X (.builtin "repr") (rReprX X.prog X.w) := by
  intro pins s σ H vs us Q I r h
  obtain ⟨v, d, e1, hd, hs, hp, hz, ⟨z, e2⟩, q⟩ := h
  subst e1; subst e2
  rw [Vals.ref1 r]
  obtain ⟨as, rd, hn⟩ := hd s.heap (.ref z) I.hok rfl
  exact repr_of_reads' rd hs (fun _ => hn) hG (by omega) (fun _ _ e => e) (fun h' u tk hk => ⟨.str d.shown, H, I.kept (t' := tk) hk, ⟨_, rfl⟩, q⟩) hz
/-- repr(x) -/
def oReprX : List D → R → (R → D → Prop) → Prop
  | [x], r, Q => ∃ q, toQ x = some q ∧ q.showable = true ∧ q.depth ≤ 60 ∧ q.shown.length ≤ sizeLine ∧ (seqOf [] x).isSome = true ∧ Q r (.str q.shown)
  | _, _, _ => False
theorem seqOf_nil {r : R} {x : D} {xs : List D} (h : seqOf [] x = some xs) : seqOf r x = some xs := by
  cases x <;> first | exact h | cases h
theorem sc_reprX (P : Program) (w : World) : SC (rReprX P w) oReprX := fun N H r vs ds Q QQ hc hr q k => by
  unfold oReprX at q
  split at q
  · obtain ⟨d, e, h1, h3, h4, h5, q⟩ := q
    obtain ⟨v, rfl, hv⟩ := rep1 hr
    obtain ⟨xs, e5⟩ := Option.isSome_iff_exists.mp h5
    obtain ⟨z, vs, rfl, _⟩ := seqOf_sq (K := ([] : PySem.W.Frag)) hc hv (seqOf_nil e5)
    exact ⟨_, d, rfl, rds_of (.inl hc.sy) _ _ _ hv e, h1, h3, h4, ⟨z, rfl⟩, k _ H r _ hc (Kr.refl _ _) rep_str q⟩
  · exact q.elim
theorem pd_reprX {w : World} {P : Program} (hG : X.A.guards = some []) (hu : X.A.units + 64 < cLine) (hm : X.mg "repr" = none) (ha : PDA X (a :: es) u h) (hg : Gl X "repr" := by rfl) (he : starEach (a :: es) X.env = (false, eval a X.env) :: starEach es X.env := by rfl) (hpl : (backTo pos (starEach es X.env)).any (·.1) = false := by rfl) (hw : X.w = w := by rfl) (hP : X.prog = P := by rfl) :
    PD X (.Call (.Name "repr" p) (a :: es) [] pos) (tCB (rReprX P w) u) (dCB oReprX h) := by
  subst hw
  subst hP
  exact ⟨pe_callB (cr_reprX hG hu) hg hm (by decide +kernel) ha.pa (by decide) (by decide) he hpl, se_cb (sc_reprX _ _) ha.sa⟩
/-- {} -/
def dD0 : DE := fun r _ Q => Q r (.dct [])
theorem pd_d0 : PD X (.Dict [] [] pos) tDNewK dD0 := ⟨pe_dnewK, fun N H r σ g Q QQ hc hg q k p hp => by
  refine k _ _ r _ (new_cs hc hp) (new_kr hp) ?_ q
  unfold Rep
  exact ⟨p, rfl, hc.fresh hp, upd_same⟩⟩
/-- == of plain values too -/
def scD : D → D → Bool
  | .str _, .str _ => true
  | .str _, .int _ => true
  | .int _, .str _ => true
  | .str _, .bl _ => true
  | .bl _, .str _ => true
  | .str _, .non => true
  | .non, .str _ => true
  | _, _ => false
def eqS : D → D → Bool
  | .str x, .str y => decide (x = y)
  | _, _ => false
def oEqS (neg : Bool) : D → D → R → (R → D → Prop) → Prop := fun x y r Q => (scD x y = true ∧ Q r (.bl (if neg then !eqS x y else eqS x y))) ∨ (scD x y = false ∧ oEq neg x y r Q)
theorem scD_sc {N : Addr → Prop} {x y : D} {v w : V} (hx : Rep N H x v) (hy : Rep N H y w) (h : scD x y = true) : scal v w = true ∧ decide (v = w) = eqS x y := by
  unfold scD at h
  split at h
  all_goals first | exact absurd h (by decide) | (unfold Rep at hx hy; subst hx; subst hy; exact ⟨rfl, by simp [eqS]⟩)
theorem so_eqS (K : PySem.W.Frag) : SO (fun x y H Q => rEq x y H Q ∨ rEqD K x y H Q) (oEqS false) := fun N H r x y dx dy Q QQ hc hx hy q k => by
  rcases q with ⟨h, q⟩ | ⟨_, q⟩
  · obtain ⟨h1, h2⟩ := scD_sc hx hy h
    exact .inl ⟨h1, k _ H r _ hc (Kr.refl _ _) rep_bl (by rw [h2]; exact q)⟩
  · exact .inr (so_eq K N H r x y dx dy Q QQ hc hx hy q k)
theorem so_neS (K : PySem.W.Frag) : SO (fun x y H Q => rNe x y H Q ∨ rNeD K x y H Q) (oEqS true) := fun N H r x y dx dy Q QQ hc hx hy q k => by
  rcases q with ⟨h, q⟩ | ⟨_, q⟩
  · obtain ⟨h1, h2⟩ := scD_sc hx hy h
    exact .inl ⟨h1, k _ H r _ hc (Kr.refl _ _) rep_bl (by rw [h2]; exact q)⟩
  · exact .inr (so_ne K N H r x y dx dy Q QQ hc hx hy q k)
theorem pd_eqS {K : PySem.W.Frag} (hu : X.A.units + 64 < cLine) (ha : PD X a ta fa) (hb : PD X b tb fb) (hm : behindInMarks .Eq b = false := by rfl) (hK : X.K = K := by rfl) : PD X (.Compare a [.Eq] [b] pos) (tOp (fun x y H Q => rEq x y H Q ∨ rEqD K x y H Q) ta tb) (dOp (oEqS false) fa fb) := by
  subst hK
  exact pd_cmp (.or op_eq (op_eqD hu)) (so_eqS _) ha hb hm
theorem pd_neS {K : PySem.W.Frag} (hu : X.A.units + 64 < cLine) (ha : PD X a ta fa) (hb : PD X b tb fb) (hm : behindInMarks .NotEq b = false := by rfl) (hK : X.K = K := by rfl) : PD X (.Compare a [.NotEq] [b] pos) (tOp (fun x y H Q => rNe x y H Q ∨ rNeD K x y H Q) ta tb) (dOp (oEqS true) fa fb) := by
  subst hK
  exact pd_cmp (.or op_ne (op_neD hu)) (so_neS _) ha hb hm
theorem pt_eqS {K : PySem.W.Frag} (hu : X.A.units + 64 < cLine) (ha : PD X a ta fa) (hb : PD X b tb fb) (hm : behindInMarks .Eq b = false := by rfl) (hK : X.K = K := by rfl) : PDT X (.Compare a [.Eq] [b] pos) (tTest (tOp (fun x y H Q => rEq x y H Q ∨ rEqD K x y H Q) ta tb)) (dTst (dOp (oEqS false) fa fb)) := by
  subst hK
  exact pt_c (.or op_eq (op_eqD hu)) (so_eqS _) ha hb hm
theorem pt_neS {K : PySem.W.Frag} (hu : X.A.units + 64 < cLine) (ha : PD X a ta fa) (hb : PD X b tb fb) (hm : behindInMarks .NotEq b = false := by rfl) (hK : X.K = K := by rfl) : PDT X (.Compare a [.NotEq] [b] pos) (tTest (tOp (fun x y H Q => rNe x y H Q ∨ rNeD K x y H Q) ta tb)) (dTst (dOp (oEqS true) fa fb)) := by
  subst hK
  exact pt_c (.or op_ne (op_neD hu)) (so_neS _) ha hb hm
end
end DL

set_option Elab.async false
set_option linter.all false
set_option maxRecDepth 100000
set_option maxHeartbeats 4000000
/-! DLg: defs by the head's facts, calls by name, the end of a law. -/
namespace DL
open PySem L2 PyProof.Rows
section
variable {P : Program} {w : World} {K : PySem.W.Frag} {mg : Str → Option Value} {base : Heap}
/-- a def by the head's facts: its body's reading is run in a fresh frame -/
theorem gD_of {x qual : Str} {pa : Arguments} {bo : List Stmt} {scp : Scope} {dvs : List V} {kws : List (Str × V)} {f : Addr} {fd : FuncData} {N ps : List Str} {k : Nat} {sp : Sp} {CX : CXT} (F : FunD K x qual pa bo scp dvs kws f fd) (S : FnScope N ps scp) (len : ∀ vs H Q E, sp vs H Q E → vs.length = ps.length)
    (hbody : ∀ (cdv : Value) (A : Around) (outer : List Env) (s : Shared) (H : Hp) (vs : List V) (Q : VK) (E : XK), A.guards = some [] → Room k (A.deeper (envOfC qual scp s.heap.objs.size f cdv)) → sp vs H Q E →
      ∃ t, PSs (cxOf CX P w K mg base N qual scp f cdv A outer s H E) bo t ∧ t { nx := fun _ H' => Q .non H', rt := Q } (L2.start N vs) H) : FnG P w K mg base CX (k + 1) f fd ps sp := by
  obtain ⟨oc, od, dV, kV, doc, pm, an, cdv, ct, osl, rfl, lk, hcd, _, _⟩ := F.ex
  refine ⟨len, fun A outer s H args us vs Q E hG hr e0 hb r hsp => ?_⟩
  have old : ∀ b o, base.get? b = some o → s.heap.get? b = some o := fun b o e => (e0.bs b o e).1
  have KX : K.In s.heap := e0.mod.kin.keeps old
  refine codeAny_call_function hr.depth (KX _ _ lk) rfl S.co S.gen rfl (PySem.W.codeRec_of KX hcd) (hb _ _ _ _ (wpAny_newFunctionEnv_cells S.kind (fun y hy => ?_) fun env he s1 x => ?_))
  · rcases S.par y.1 (List.of_mem_zip (show (y.1, y.2) ∈ ps.zip us from hy)).1 with q | q
    · exact .inl q
    · exact .inr ⟨q, PySem.W.cellsFrom_some _ _ _ (.inl q)⟩
  · subst he
    refine ⟨(e0.mod.nolimit.keeps old).keeps x.toInCall.keep, codeAny_func ?_⟩
    obtain ⟨t, ht, hq⟩ := hbody cdv A outer s H vs Q E hG (hr.deeper _) hsp
    have I := inv_start (CX := CX) (E := E) S hr.hd e0 (len _ _ _ _ hsp) r x
    refine wpAny_mono (ht.run [] s1 (L2.start N vs) H _ I hq) (fun fl s' hs => ?_) fun _ _ hs => hs
    match fl, hs with
    | .ret u, ⟨v, σ', H', J, rv, q⟩ => exact ⟨v, H', J.os, J.bare, J.base, J.hok, rv, q⟩
    | .next, ⟨σ', H', J, q⟩ => exact ⟨V.non, H', J.os, J.bare, J.base, J.hok, rfl, q⟩
    | .brk, ⟨_, _, _, q⟩ => exact False.elim q
    | .cont, ⟨_, _, _, q⟩ => exact False.elim q
/-- what a body has to do, at its start -/
def Does (b : DS) (N : List Str) (sp : DSp) : Prop := ∀ r ds Q, sp r ds Q → b { nx := fun r' _ => ∃ r'', Sub r'' r' ∧ Q r'' .non, rt := fun r' d => ∃ r'', Sub r'' r' ∧ Q r'' d } r (startG N ds)
theorem dD_of {x qual : Str} {pa : Arguments} {bo : List Stmt} {scp : Scope} {dvs : List V} {kws : List (Str × V)} {f : Addr} {fd : FuncData} {N ps : List Str} {k : Nat} {sp : DSp} {b : DS} (F : FunD K x qual pa bo scp dvs kws f fd) (S : FnScope N ps scp) (len : ∀ r ds Q, sp r ds Q → ds.length = ps.length) (hd : Does b N sp)
    (hbody : ∀ (cdv : Value) (A : Around) (outer : List Env) (s : Shared) (H : Hp) (E : XK), A.guards = some [] → Room k (A.deeper (envOfC qual scp s.heap.objs.size f cdv)) →
      ∃ t, PDSs (cxOf CX0 P w K mg base N qual scp f cdv A outer s H E).nox bo t b) : FnD P w K mg base (k + 1) f fd ps sp := by
  refine gD_of F S (fun vs H Q E ⟨_, r, ds, Q', _, l, h, _⟩ => by rw [← l.length]; exact len r ds Q' h) fun cdv A outer s H vs Q E hG hr ⟨M, r, ds, Q', c, l, h, k'⟩ => ?_
  obtain ⟨t, ht⟩ := hbody cdv A outer s H E hG hr
  refine ⟨t, ht.ps.nox, ht.ss M H r _ _ _ _ c (gs_start N l) (hd r ds Q' h) ⟨fun σ' H' r' g' c' k1 _ ⟨r'', hs, q⟩ => ?_, fun v H' r' d c' k1 p ⟨r'', hs, q⟩ => ?_, fun _ _ _ _ _ _ _ q => q.elim, fun _ _ _ _ _ _ _ q => q.elim⟩⟩
  · exact k' _ H' r'' _ (hs.cs c') (k1.trans hs.kr) rep_non q
  · exact k' v H' r'' d (hs.cs c') (k1.trans hs.kr) (Rep.kp (sub_kp fun b m => hs.mem m) _ _ p) q
/-- a def of the top that keeps its promise, by its name -/
structure Cal (P : Program) (w : World) (K : PySem.W.Frag) (mg : Str → Option Value) (base : Heap) (x : Str) (k : Nat) (ps : List Str) (sp : DSp) : Prop where
  ex : ∃ f fd, FnD P w K mg base k f fd ps sp ∧ mg x = some (.ref f) ∧ PySem.W.keepIn K (.ref f) = true ∧ Binds K fd ps []
theorem cal_of {x : Str} {pa : Arguments} {bo : List Stmt} {scp : Scope} {kws : List (Str × V)} {f : Addr} {N ps : List Str} {k : Nat} {sp : DSp} {b : DS} (F : ∃ fd, FunD K x x pa bo scp [] kws f fd) (hm : mg x = some (.ref f)) (S : FnScope N ps scp) (len : ∀ r ds Q, sp r ds Q → ds.length = ps.length) (hd : Does b N sp)
    (hbind : ∀ (kV doc pm : Value) (an : Option Addr) (cdv ct : Value) (us : List Value), us.length = ps.length → bindArgs (PySem.W.fnOf x x pa bo scp .none kV doc pm an cdv ct) ⟨us, []⟩ = pure (ps.zip us))
    (hbody : ∀ (cdv : Value) (A : Around) (outer : List Env) (s : Shared) (H : Hp) (E : XK), A.guards = some [] → Room k (A.deeper (envOfC x scp s.heap.objs.size f cdv)) →
      ∃ t, PDSs (cxOf CX0 P w K mg base N x scp f cdv A outer s H E).nox bo t b) : Cal P w K mg base x (k + 1) ps sp := by
  obtain ⟨fd, F⟩ := F
  exact ⟨f, fd, dD_of F S len hd hbody, hm, F.kp, F.bindsN hbind⟩
end
section
variable {X : Cx} {e a b c : Expr} {te ta tb tc : TE} {f fa fb fc : DE} {pos p : Pos} {es : List Expr} {u : TA} {h : DA}
theorem pd_cal {x : Str} {k k' : Nat} {ps : List Str} {sp : DSp} (C : Cal X.prog X.w X.K X.mg X.base x k ps sp) (hG : X.A.guards = some []) (hr : Room k' X.A) (hk : k ≤ k') (ha : PDA X (a :: es) u h) (hg : Gl X x := by rfl) (hdb : (x == ("__debug__" : Str)) = false := by decide)
    (he : starEach (a :: es) X.env = (false, eval a X.env) :: starEach es X.env := by rfl) (hpl : (backTo pos (starEach es X.env)).any (·.1) = false := by rfl) : PD X (.Call (.Name x p) (a :: es) [] pos) (tCallG (lft sp) E0 u) (dCall sp h) := by
  obtain ⟨fx, fd, F, hm, kp, hb⟩ := C.ex
  exact pd_call F hG (hr.mono hk) hm kp hb ha hg hdb he hpl
end

/-! ### the head's facts, and that no list stands in the written part -/
def noL (K : PySem.W.Frag) : Bool := K.all fun p => !(p.2.cls == .type "list")
abbrev AlN : Type := Bool × He.AlD
def noS (K : PySem.W.Frag) (g : Addr → Option Obj) : Bool := noL K && (K.lookup sysModules).isNone && (g sysModules).any fun o => !(o.cls == .type "list")
def obsN (n : Nat) (fa : List He.Fa) (fn : List He.DefD) (g : Addr → Option Obj) : AlN := (noS (He.frG g (He.asD g n)) g, He.obsD fa fn (He.frG g (He.asD g n)))
structure SaysN (fa : List He.Fa) (fn : List He.DefD) (h : Heap) (K : PySem.W.Frag) : Prop where
  nl : noL K = true
  ks : K.lookup sysModules = none
  sy : ∃ o, h.get? sysModules = some o ∧ o.cls ≠ .type "list"
  sa : He.SaysD fa fn K
theorem SaysN.of {fa : List He.Fa} {fn : List He.DefD} {h : Heap} {K : PySem.W.Frag} {b : He.AlD} (e1 : noS K h.get? = true) (e2 : He.SaysD fa fn K) : SaysN fa fn h K := by
  unfold noS at e1
  rw [Bool.and_eq_true, Bool.and_eq_true] at e1
  refine ⟨e1.1.1, Option.isNone_iff_eq_none.mp e1.1.2, ?_, e2⟩
  have z := e1.2
  cases q : h.get? sysModules with
  | none => rw [q] at z; cases z
  | some o =>
    rw [q] at z
    refine ⟨o, rfl, fun x => ?_⟩
    rw [Option.any_some, x] at z
    exact absurd z (by decide)
def hookN (n : Nat) (fa : List He.Fa) (fn : List He.DefD) : PySem.W.Hook where
  α := AlN
  obs := fun s => obsN n fa fn s.heap.get?
  val := fun _ => (true, He.valD fn)
  says := fun _ h => ∃ K : PySem.W.Frag, K.In h ∧ SaysN fa fn h K
  of := fun s _ e => ⟨_, He.frG_in, SaysN.of (b := He.valD fn) (congrArg Prod.fst e) (congrArg Prod.snd e)⟩
  keeps := fun _ _ _ ⟨K, hK, c⟩ k => ⟨K, PySem.W.Frag.In.keeps hK k, c.nl, c.ks, let ⟨o, e, n⟩ := c.sy; ⟨o, k _ _ e, n⟩, c.sa⟩
theorem obsN_eq {n : Nat} {fa : List He.Fa} {fn : List He.DefD} {g : Addr → Option Obj} {s : Shared} (h : ∀ a, g a = s.heap.get? a) : obsN n fa fn g = (hookN n fa fn).obs s := by
  obtain rfl : g = s.heap.get? := funext h
  rfl
theorem noL_of {K : PySem.W.Frag} (h : noL K = true) {a : Addr} {o : Obj} (e : K.lookup a = some o) : o.cls ≠ .type "list" := by
  have m : ∀ (K : List (Addr × Obj)), K.lookup a = some o → (a, o) ∈ K := by
    intro K
    induction K with
    | nil => intro e; cases e
    | cons q r ih =>
      intro e
      obtain ⟨b, x⟩ := q
      by_cases hb : a = b
      · subst hb
        rw [List.lookup_cons_self] at e
        cases e
        exact List.mem_cons_self
      · rw [List.lookup_cons, beq_false_of_ne hb] at e
        exact List.mem_cons_of_mem _ (ih e)
  have z := List.all_eq_true.mp h _ (m K e)
  intro q
  rw [q] at z
  exact absurd z (by decide)
/-- a def's promise at the law's own call: the script is the only thing that is known -/
theorem law_g {P : Program} {w : World} {K : PySem.W.Frag} {mg mb : Str → Option Value} {k : Nat} {fa a : Addr} {fd : FuncData} {x : Str} {sp : DSp} {s₁ : Shared} {vs : List Value} {ns : List Int} (KX : K.In s₁.heap) (nl : noL K = true) (ks : K.lookup sysModules = none) (sy : ∃ o, s₁.heap.get? sysModules = some o ∧ o.cls ≠ .type "list") (hns : s₁.heap.Ns mainGlobals mg) (hb : s₁.heap.Ns builtinsNs mb)
    (hbb : ∀ x : Str, x ≠ "__name__" → mb x = bootBuiltins x) (hlim : s₁.heap.NoLimit) (hg : s₁.gens = #[]) (ha : s₁.heap.get? a = some { cls := .type "list", data := .seq vs.toArray }) (hi : IntsAre vs ns) (hl : ns.length ≤ sizeLine) (hr : Room k callerA)
    (F : ∀ base : Heap, K.In base → base.Ns mainGlobals mg → FnD P w K mg base k fa fd [x] sp) (hbind : ∀ (s : Shared) (u : Value), BindsTo s fd ⟨[u], []⟩ [(x, u)]) (hsp : sp [] [.scr ns] fun _ d => d = .bl true) :
    codeAny (model P w) callerA (.call (.ref fa) ⟨[.ref a], []⟩) (fun r s' => r = .ok (.ret (.bool true)) ∧ OldK s₁.heap s'.heap ∧ s'.os = s₁.os ∧ AllBare s'.gens) s₁ := by
  have rv := vals_ints hi
  have hK : K.lookup a = none := by
    cases e : K.lookup a with
    | none => rfl
    | some o =>
      have z := KX a o e
      rw [ha] at z
      cases z
      exact absurd rfl (noL_of nl e)
  obtain ⟨o1, ho1, hol⟩ := sy
  have has : a ≠ sysModules := fun e => by
    rw [e, ho1] at ha; cases ha
    exact hol rfl
  let ob : Obj := { cls := .type "list", data := .seq vs.toArray }
  let H : Hp := fun b => if b = a then some (.frz ob (.lst (ns.map V.int))) else if b = sysModules then some (.frz o1 (.ext fun _ => True)) else none
  have hA : H a = some (.frz ob (.lst (ns.map V.int))) := if_pos rfl
  have hS : ∃ o, H sysModules = some o := by
    by_cases e : sysModules = a
    · exact ⟨_, by rw [e]; exact hA⟩
    · exact ⟨_, (if_neg e).trans (if_pos rfl)⟩
  have hN : ∀ b, b ≠ a → b ≠ sysModules → H b = none := fun b h h2 => (if_neg h).trans (if_neg h2)
  have hok : HOk P w H s₁.heap := fun b u z => by
    by_cases e : b = a
    · subst e
      rw [hA] at z; cases z
      exact ⟨ha, by rw [List.length_map]; exact hl, vs, _, rv, ha⟩
    · by_cases e2 : b = sysModules
      · have hz : H b = some (.frz o1 (.ext fun _ => True)) := (if_neg e).trans (if_pos e2)
        rw [hz] at z; cases z
        rw [e2]
        exact ⟨ho1, trivial, ⟨o1, ho1⟩, fun _ _ _ _ => trivial⟩
      · rw [hN b e e2] at z; cases z
  have nsK : ∀ {b : Addr} {m : Str → Option Value}, b ≠ sysModules → s₁.heap.Ns b m → (hidT s₁.heap H).Ns b m := fun {b m} hb ⟨o, es, ep, e, d, r⟩ => ⟨o, es, ep, hidT_get e (hN b (fun z => by
    subst z
    rw [ha] at e; cases e
    cases d) hb), d, r⟩
  have hKb : K.In (hidT s₁.heap H) := fun b o e => hidT_get (KX b o e) (hN b (fun z => by rw [z, hK] at e; cases e) fun z => by rw [z, ks] at e; cases e)
  have hM : Mod K mg (hidT s₁.heap H) := ⟨hKb, nsK (by decide) hns, ⟨mb, nsK (by decide) hb, hbb⟩, let ⟨mc, h1, h2⟩ := hlim; ⟨mc, nsK (by decide) h1, h2⟩⟩
  have e0 : Env0 P w K mg (hidT s₁.heap H) callerA [] s₁ H := ⟨rfl, hM, fun b o e => of_hidT e, Nat.le_of_eq (hidT_size _ _), trivial, fun b z => (nomatch (show b ∈ ([] : List Addr) from z)), hok, .of_eq hg⟩
  have hc : Cs (fun b => b = sysModules) H [] := ⟨fun _ z => z ▸ hS, List.nodup_nil, (fun _ z => nomatch z), (fun _ z => nomatch z), rfl⟩
  have hrep : RepL (Av (fun b => b = sysModules) []) H [.scr ns] [.ref a] := .one (by
    unfold Rep
    exact ⟨a, rfl, (fun z => Or.elim z has (fun z => nomatch z)), ob, hA⟩)
  refine codeAny_mono ((F _ hKb (nsK (by decide) hns)).run callerA [] s₁ H ⟨[.ref a], []⟩ [.ref a] [.ref a] (fun v _ => v = .bl true) (fun _ _ _ => False) rfl hr e0 (hbind s₁ (.ref a)) (.cons rfl .nil)
    ⟨fun b => b = sysModules, [], [.scr ns], _, hc, hrep, hsp, fun v H' r' d _ _ p e => by subst e; unfold Rep at p; exact p⟩) fun r s' q => ?_
  match r, q with
  | .ok (.ret u), ⟨v, H', os, bare, un, hok', r', q⟩ =>
    have e : v = .bl true := q
    subst e
    obtain rfl : u = Value.bool true := r'
    refine ⟨rfl, OldK.of_keep fun b o e => ?_, os, bare⟩
    by_cases z : b = a
    · subst z
      have z2 := un.frzs _ ob _ hA
      obtain ⟨e2, _⟩ := hok' _ _ z2
      rw [ha] at e; cases e
      exact e2
    · by_cases z3 : b = sysModules
      · have hz : H b = some (.frz o1 (.ext fun _ => True)) := (if_neg z).trans (if_pos z3)
        have z2 := un.frzs _ o1 _ hz
        obtain ⟨e2, _⟩ := hok' _ _ z2
        rw [z3, ho1] at e; cases e
        rw [z3] at e2 ⊢
        exact e2
      · exact un.keep b o e (hN b z z3) (fun m => nomatch (show b ∈ ([] : List Addr) from m)) (fun m => nomatch m)
/-- the end: a law, by its def's promise -/
theorem walk_g {l : PySem.W.OpenLaw} {n k : Nat} {q : Program} {loose : List Str} {XP : (Str → Option Value) → Heap → Prop} {YP : World → Heap → Prop} {d : DefRec} {x : Str} (hn : l.most = some n) (hn2 : n ≤ sizeLine) (hdf : d.params.defaults = []) (hr : Room k callerA)
    (F : ∀ (w : World) (mg : Str → Option Value) (fa : Addr) (h : Heap), YP w h → h.Ns mainGlobals mg → mg d.name = some (.ref fa) →
      ∃ (K : PySem.W.Frag) (fd : FuncData) (sp : DSp), K.In h ∧ noL K = true ∧ K.lookup sysModules = none ∧ (∃ o, h.get? sysModules = some o ∧ o.cls ≠ .type "list") ∧ (∀ (s : Shared) (u : Value), BindsTo s fd ⟨[u], []⟩ [(x, u)]) ∧ (∀ ns : List Int, ns.length ≤ n → sp [] [.scr ns] fun _ d => d = .bl true) ∧
        ∀ base : Heap, K.In base → base.Ns mainGlobals mg → FnD l.prog w K mg base k fa fd [x] sp) :
    PySem.W.WalkO q loose XP YP l.row.toRowW d [] (fun f vs => PySem.call f vs) := by
  refine Att.attach_call hn hdf fun w s₀ s₁ mg mb fa o pm cd doc a vs ns G Y ho hd hcd hmg hobj hints hlen hg => ?_
  obtain ⟨K, fd, sp, KX, nl, ks, sy, hb, hsp, hF⟩ := F w mg fa _ Y G.T.g hmg
  exact law_g KX nl ks sy G.T.g G.T.b G.T.builtins G.T.nolimit hg hobj hints (Nat.le_trans hlen hn2) hr hF hb (hsp ns hlen)
end DL

set_option Elab.async false
set_option linter.all false
set_option maxRecDepth 100000
set_option maxHeartbeats 4000000
/-! CMa: what helps to run a body over trees; the site's functions. -/
namespace CM
open PySem DL

/-! ### lists of numbers -/
def intsOf : List D → Option (List Int)
  | [] => some []
  | .int i :: ds => (intsOf ds).map (i :: ·)
  | _ :: _ => none
theorem intsOf_map : ∀ ns : List Int, intsOf (ns.map D.int) = some ns
  | [] => rfl
  | n :: ns => by simp [intsOf, intsOf_map ns]
theorem intsOf_some : ∀ {ds : List D} {ns : List Int}, intsOf ds = some ns → ds = ns.map D.int
  | [], _, h => by simp [intsOf] at h; subst h; rfl
  | d :: ds, ns, h => by
    cases d <;> simp [intsOf] at h
    obtain ⟨ms, h1, rfl⟩ := h
    rw [intsOf_some h1]; rfl
theorem toPs_ints : ∀ ns : List Int, toPs (ns.map D.int) = some (ns.map PyData.int)
  | [] => by simp [toPs]
  | n :: ns => by simp [toPs, toP, toPs_ints ns]
theorem toPR_ints {r : R} (ns : List Int) : toPR r (.lst (ns.map D.int)) = some (.list (ns.map PyData.int)) := by simp [toPR, toP, toPs_ints]
theorem eqvAll_ints : ∀ a b : List Int, PyData.eqvAll (a.map PyData.int) (b.map PyData.int) = decide (a = b)
  | [], [] => by simp [PyData.eqvAll]
  | [], _ :: _ => by simp [PyData.eqvAll]
  | _ :: _, [] => by simp [PyData.eqvAll]
  | x :: a, y :: b => by
    simp only [List.map_cons, PyData.eqvAll, PyData.eqv, eqvAll_ints a b, List.cons.injEq]
    by_cases h : x = y <;> simp [h]
theorem canLay_ints : ∀ ns : List Int, PyData.canLayAll0 (ns.map PyData.int) = true
  | [] => by simp [PyData.canLayAll0]
  | n :: ns => by simp [PyData.canLayAll0, PyData.canLay0, canLay_ints ns]
theorem depth_ints : ∀ ns : List Int, PyData.depthAll (ns.map PyData.int) = 0
  | [] => by simp [PyData.depthAll]
  | n :: ns => by simp [PyData.depthAll, PyData.depth, depth_ints ns]
theorem shaped_ints (ns : List Int) : SeqAt.shaped (.list (ns.map PyData.int)) = true := by
  simp [SeqAt.shaped, PyData.canLay0, canLay_ints, PyData.depth, depth_ints]
theorem shaped_int (i : Int) : SeqAt.shaped (.int i) = true := by
  simp [SeqAt.shaped, PyData.canLay0, PyData.depth]
theorem oEq_ints {neg : Bool} {a b : List Int} {r : R} {Q : R → D → Prop} (q : Q r (.bl (if neg then !decide (a = b) else decide (a = b)))) : oEq neg (.lst (a.map .int)) (.lst (b.map .int)) r Q := by
  refine ⟨_, _, toPR_ints a, toPR_ints b, shaped_ints _, shaped_ints _, ?_⟩
  simp only [PyData.eqv, eqvAll_ints]
  exact q
theorem toPR_int {r : R} {i : Int} : toPR r (.int i) = some (.int i) := by simp [toPR, toP]
theorem toPR_bl {r : R} {i : Bool} : toPR r (.bl i) = some (.bool i) := by simp [toPR, toP]
theorem oEq_int {neg : Bool} {i j : Int} {r : R} {Q : R → D → Prop} (q : Q r (.bl (if neg then !decide (i = j) else decide (i = j)))) : oEq neg (.int i) (.int j) r Q := by
  refine ⟨_, _, toPR_int, toPR_int, shaped_int i, shaped_int j, ?_⟩
  have : PyData.eqv (.int i) (.int j) = decide (i = j) := by simp only [PyData.eqv]; by_cases h : i = j <;> simp [h]
  rw [this]; exact q
theorem oEq_iff {neg : Bool} {x y : D} {a b : PyData} {r : R} {Q : R → D → Prop} (hx : toPR r x = some a) (hy : toPR r y = some b) (sa : SeqAt.shaped a = true) (sb : SeqAt.shaped b = true) : oEq neg x y r Q = Q r (.bl (if neg then !PyData.eqv a b else PyData.eqv a b)) := by
  refine propext ⟨fun ⟨q, q', e1, e2, _, _, h⟩ => ?_, fun h => ⟨a, b, hx, hy, sa, sb, h⟩⟩
  rw [hx] at e1; rw [hy] at e2
  cases e1; cases e2
  exact h
theorem eqv_int {i j : Int} : PyData.eqv (.int i) (.int j) = decide (i = j) := by simp only [PyData.eqv]; by_cases h : i = j <;> simp [h]
theorem oEq_i {i j : Int} {r : R} {Q : R → D → Prop} : oEq false (.int i) (.int j) r Q = Q r (.bl (decide (i = j))) := by rw [oEq_iff toPR_int toPR_int (shaped_int i) (shaped_int j), eqv_int]; simp
theorem oNe_i {i j : Int} {r : R} {Q : R → D → Prop} : oEq true (.int i) (.int j) r Q = Q r (.bl (!decide (i = j))) := by rw [oEq_iff toPR_int toPR_int (shaped_int i) (shaped_int j), eqv_int]; simp
theorem shaped_bl (i : Bool) : SeqAt.shaped (.bool i) = true := by simp [SeqAt.shaped, PyData.canLay0, PyData.depth]
theorem shaped_str {i : Str} (h : PyData.strOk i = true) : SeqAt.shaped (.str i) = true := by simp [SeqAt.shaped, PyData.canLay0, PyData.depth, h]
theorem shaped_non : SeqAt.shaped .none = true := by simp [SeqAt.shaped, PyData.canLay0, PyData.depth]
theorem toPR_str {r : R} {i : Str} : toPR r (.str i) = some (.str i) := by simp [toPR, toP]
theorem eqv_str {i j : Str} : PyData.eqv (.str i) (.str j) = decide (i = j) := by simp only [PyData.eqv]; by_cases h : i = j <;> simp [h]
theorem oEq_s {i j : Str} {r : R} {Q : R → D → Prop} (hi : PyData.strOk i = true) (hj : PyData.strOk j = true) : oEq false (.str i) (.str j) r Q = Q r (.bl (decide (i = j))) := by rw [oEq_iff toPR_str toPR_str (shaped_str hi) (shaped_str hj), eqv_str]; simp
theorem oNe_s {i j : Str} {r : R} {Q : R → D → Prop} (hi : PyData.strOk i = true) (hj : PyData.strOk j = true) : oEq true (.str i) (.str j) r Q = Q r (.bl (!decide (i = j))) := by rw [oEq_iff toPR_str toPR_str (shaped_str hi) (shaped_str hj), eqv_str]; simp
theorem oEq_b {i j : Bool} {r : R} {Q : R → D → Prop} : oEq false (.bl i) (.bl j) r Q = Q r (.bl (i == j)) := by rw [oEq_iff toPR_bl toPR_bl (shaped_bl i) (shaped_bl j)]; simp [PyData.eqv]
theorem oNe_b {i j : Bool} {r : R} {Q : R → D → Prop} : oEq true (.bl i) (.bl j) r Q = Q r (.bl (!(i == j))) := by rw [oEq_iff toPR_bl toPR_bl (shaped_bl i) (shaped_bl j)]; simp [PyData.eqv]
theorem inD_ints (p : Int) : ∀ ns : List Int, inD (.int p) (ns.map D.int) = decide (p ∈ ns)
  | [] => by simp [inD, L2.inV]
  | n :: ns => by
    have h := inD_ints p ns
    simp only [inD, L2.inV, List.map_cons, List.any_cons] at h ⊢
    rw [h]
    simp only [toV, L2.eqV, List.mem_cons]
    by_cases e : n = p
    · subst e; simp
    · have e' : ¬ p = n := fun z => e z.symm
      simp [e, e']
theorem flat_ints : ∀ ns : List Int, (ns.map D.int).all flatD = true
  | [] => rfl
  | n :: ns => by simp [flatD, flat_ints ns]

/-! ### kinds of values -/
/-- the kind of a plain value -/
def ty0 : D → Option String
  | .non => some "NoneType"
  | .bl _ => some "bool"
  | .int _ => some "int"
  | .str _ => some "str"
  | .lst _ => some "list"
  | .tup _ => some "tuple"
  | .dct _ => some "dict"
  | _ => none
theorem tyn_of0 {r : R} {d : D} {n : String} (h : ty0 d = some n) : tyn r d = some n := by
  cases d <;> simp [ty0] at h <;> simp [tyn, h]
theorem ty0_ex {d : D} (h : (ty0 d).isSome = true) : ∃ n, ty0 d = some n := Option.isSome_iff_exists.mp h
theorem ty0_int {d : D} (h : ty0 d = some "int") : ∃ i, d = .int i := by
  cases d <;> simp [ty0] at h
  exact ⟨_, rfl⟩
theorem ty0_list {d : D} (h : ty0 d = some "list") : ∃ i, d = .lst i := by
  cases d <;> simp [ty0] at h
  exact ⟨_, rfl⟩
theorem mem_int : "int" ∈ tyns := by decide
theorem mem_bool : "bool" ∈ tyns := by decide
theorem mem_list : "list" ∈ tyns := by decide
theorem mem_tuple : "tuple" ∈ tyns := by decide
theorem mem_str : "str" ∈ tyns := by decide
theorem isB_self (n : String) : isB n n = true := by simp [isB]
theorem isB_list {n : String} (h : n ≠ "list") : isB n "list" = false := by simp [isB, h]
theorem isB_int {n : String} (h : n ≠ "int") (h2 : n ≠ "bool") : isB n "int" = false := by simp [isB, h, h2]
theorem isB_bool {n : String} (h : n ≠ "bool") : isB n "bool" = false := by simp [isB, h]

/-! ### what is read off, step by step -/
section
variable {r : R} {Q : R → D → Prop} {i j : Int} {x y : Str} {xs ys : List D} {s z p : Addr} {c c0 : Cl} {d : D} {mk : Bool} {n : String}
theorem mkD_f {ds : List D} {r : R} {Q : R → D → Prop} : mkD false ds r Q = Q r (.lst ds) := by simp [mkD]
theorem mkD_t {ds : List D} {r : R} {Q : R → D → Prop} : mkD true ds r Q = ∀ p, p ∉ adr r → Q ((p, .lst ds) :: r) (.ob p) := by simp [mkD]
theorem oSub_i : oSub (.int i) (.int j) r Q = Q r (.int (i - j)) := by simp [oSub, oI]
theorem oMod_i : oMod (.int i) (.int j) r Q = (0 < j ∧ Q r (.int (i % j))) := rfl
theorem oDiv_i : oDiv (.int i) (.int j) r Q = (L2.CDivW i j ∧ Q r (.int (i / j))) := rfl
theorem oPow_i : oPow (.int i) (.int j) r Q = (CPowW i j ∧ Q r (.int (i ^ j.toNat))) := rfl
theorem oAdd_i : oAdd mk (.int i) (.int j) r Q = Q r (.int (i + j)) := rfl
theorem oAdd_s : oAdd mk (.str x) (.str y) r Q = (x.length + y.length ≤ sizeLine ∧ Q r (.str (x ++ y))) := rfl
theorem oAdd_t : oAdd mk (.tup xs) (.tup ys) r Q = (xs.length + ys.length ≤ sizeLine ∧ Q r (.tup (xs ++ ys))) := rfl
theorem oAdd_l : oAdd mk (.lst xs) (.lst ys) r Q = (xs.length + ys.length ≤ sizeLine ∧ mkD mk (xs ++ ys) r Q) := by simp [oAdd, lstOf]
theorem oMul_i : oMul mk (.int i) (.int j) r Q = (IntMulOk i j ∧ Q r (.int (i * j))) := rfl
theorem oMul_l : oMul mk (.lst xs) (.int j) r Q = (-(2 ^ 63) ≤ j ∧ j < 2 ^ 63 ∧ xs.length * j.toNat ≤ sizeLine ∧ mkD mk (List.replicate j.toNat xs).flatten r Q) := by simp [oMul, lstOx, lstOf]
theorem oLt_i : oLt (.int i) (.int j) r Q = Q r (.bl (decide (i < j))) := by simp [oLt, oI]
theorem oLe_i : oLe (.int i) (.int j) r Q = Q r (.bl (decide (i ≤ j))) := by simp [oLe, oI]
theorem oGt_i : oGt (.int i) (.int j) r Q = Q r (.bl (decide (j < i))) := by simp [oGt, oI]
theorem oGe_i : oGe (.int i) (.int j) r Q = Q r (.bl (decide (j ≤ i))) := by simp [oGe, oI]
theorem oMax2_i : oMax2 [.int i, .int j] r Q = Q r (.int (if j > i then j else i)) := rfl
theorem oMin2_i : oMin2 [.int i, .int j] r Q = Q r (.int (if j < i then j else i)) := rfl
theorem oAbs_i : oAbs [.int i] r Q = Q r (.int (if i < 0 then -i else i)) := rfl
theorem oInt1_i : oInt1 [.int i] r Q = Q r (.int i) := rfl
theorem oInt1_b {b : Bool} : oInt1 [.bl b] r Q = Q r (.int (if b then 1 else 0)) := rfl
theorem oIsi_x : oIsi [d, .ty n] r Q = ∃ m, tyn r d = some m ∧ n ∈ tyns ∧ Q r (.bl (isB m n)) := rfl
theorem oIsN_d : oIsN false d .non r Q = Q r (.bl (isNon d)) := by simp [oIsN]
theorem oNotN_d : oIsN true d .non r Q = Q r (.bl (!isNon d)) := by simp [oIsN]
/-- a cell's list -/
def lsOf : Cl → Option (List D)
  | .lst xs => some xs
  | _ => none
theorem lsOf_l : lsOf (.lst xs) = some xs := rfl
theorem lstOf_ob : lstOf r (.ob s) = (r.lookup s).bind lsOf := by
  simp only [lstOf]
  cases r.lookup s with
  | none => rfl
  | some c => cases c <;> rfl
theorem seqOf_ob : seqOf r (.ob s) = (r.lookup s).bind lsOf := lstOf_ob
theorem lstOf_l : lstOf r (.lst xs) = some xs := rfl
theorem lstOf_s {ns : List Int} : lstOf r (.scr ns) = some (ns.map D.int) := rfl
theorem seqOf_l : seqOf r (.lst xs) = some xs := rfl
theorem seqOf_s {ns : List Int} : seqOf r (.scr ns) = some (ns.map D.int) := rfl
theorem seqOf_t : seqOf r (.tup xs) = some xs := rfl
theorem srcOf_l : srcOf r (.lst xs) = some ([], xs) := rfl
theorem srcOf_s {ns : List Int} : srcOf r (.scr ns) = some ([], ns.map D.int) := rfl
theorem srcOf_ob : srcOf r (.ob s) = ((r.lookup s).bind lsOf).map fun xs => ([(s, xs)], xs) := by
  simp only [srcOf]
  cases r.lookup s with
  | none => rfl
  | some c => cases c <;> rfl
theorem isL_ob : isL r (.ob s) = (((r.lookup s).bind lsOf).isSome = true) := by simp only [isL, lstOf_ob]
theorem isL_l : isL r (.lst xs) = True := by simp [isL, lstOf]
theorem lk_self : List.lookup s ((s, c) :: r) = some c := by simp
theorem lk_ne (h : s ≠ p) : List.lookup s ((p, c) :: r) = List.lookup s r := by rw [List.lookup_cons, beq_false_of_ne h]
theorem put_nil : put [] s c = [] := rfl
theorem put_self : put ((s, c0) :: r) s c = (s, c) :: put r s c := by simp [put]
theorem put_ne (h : p ≠ s) : put ((p, c0) :: r) s c = (p, c0) :: put r s c := by simp [put, h]
theorem del_nil : del [] s = [] := rfl
theorem del_self : del ((s, c0) :: r) s = del r s := by simp [del]
theorem del_ne (h : p ≠ s) : del ((p, c0) :: r) s = (p, c0) :: del r s := by simp [del, h]
theorem put_out (h : s ∉ adr r) : put r s c = r := by
  unfold put
  refine (List.map_congr_left fun q hq => ?_).trans (List.map_id r)
  rw [if_neg fun e => h (List.mem_map.mpr ⟨q, hq, e⟩)]; rfl
theorem del_out (h : s ∉ adr r) : del r s = r := List.filter_eq_self.mpr fun q hq => by
  simpa using fun e => h (List.mem_map.mpr ⟨q, hq, e⟩)
theorem oLen_l : oLen [.lst xs] r Q = Q r (.int xs.length) := by simp [oLen, seqOf, lstOf]
theorem oLen_t : oLen [.tup xs] r Q = Q r (.int xs.length) := by simp [oLen, seqOf]
theorem oLen_sc {ns : List Int} : oLen [.scr ns] r Q = Q r (.int ns.length) := by simp [oLen, seqOf, lstOf]
theorem oLen_s : oLen [.str x] r Q = (x.length ≤ sizeLine ∧ Q r (.int x.length)) := rfl
theorem oLen_ob : oLen [.ob s] r Q = ∃ xs, (r.lookup s).bind lsOf = some xs ∧ Q r (.int xs.length) := by simp only [oLen, seqOf_ob]
theorem oIx_l : oIx (.lst xs) (.int i) r Q = ∃ d, L2.atI xs i = some d ∧ Q r d := by simp [oIx, seqOf, lstOf]
theorem oIx_t : oIx (.tup xs) (.int i) r Q = ∃ d, L2.atI xs i = some d ∧ Q r d := by simp [oIx, seqOf]
theorem oIx_ob : oIx (.ob s) (.int i) r Q = ∃ xs d, (r.lookup s).bind lsOf = some xs ∧ L2.atI xs i = some d ∧ Q r d := by simp only [oIx, seqOf_ob]
theorem at_0 {a : D} {l : List D} : L2.atI (a :: l) 0 = some a := by
  unfold L2.atI L2.ixN
  rw [if_pos (by decide), if_pos (by rw [List.length_cons]; omega)]; rfl
theorem at_1 {a b : D} {l : List D} : L2.atI (a :: b :: l) 1 = some b := by
  unfold L2.atI L2.ixN
  rw [if_pos (by decide), if_pos (by rw [List.length_cons, List.length_cons]; omega)]; rfl
theorem at_2 {a b e : D} {l : List D} : L2.atI (a :: b :: e :: l) 2 = some e := by
  unfold L2.atI L2.ixN
  rw [if_pos (by decide), if_pos (by rw [List.length_cons, List.length_cons, List.length_cons]; omega)]; rfl
theorem ix_30 : L2.ixN 3 0 = some 0 := rfl
theorem ix_31 : L2.ixN 3 1 = some 1 := rfl
theorem ix_32 : L2.ixN 3 2 = some 2 := rfl
theorem oSl_l {lo hi : Option Int} : oSl mk (.lst xs) lo hi r Q = mkD mk (cutL xs lo hi) r Q := by simp [oSl, lstOf]
theorem oSl_ob {lo hi : Option Int} : oSl mk (.ob s) lo hi r Q = ∃ xs, (r.lookup s).bind lsOf = some xs ∧ mkD mk (cutL xs lo hi) r Q := by simp only [oSl, lstOf_ob]
theorem oAll_l {w : List Bool → Bool} : oAll w [.lst xs] r Q = ∃ bs : List Bool, xs = bs.map D.bl ∧ Q r (.bl (w bs)) := by simp [oAll, lstOf]
theorem mApp_ob : mApp (.ob z) [d] r Q = ∃ xs, r.lookup z = some (.lst xs) ∧ xs.length < sizeLine ∧ Q (put r z (.lst (xs ++ [d]))) .non := rfl
theorem mPop_ob : mPop (.ob z) [] r Q = ∃ xs y, r.lookup z = some (.lst xs) ∧ xs[xs.length - 1]? = some y ∧ Q (put r z (.lst xs.dropLast)) y := rfl
theorem mClear_ob : mClear (.ob z) [] r Q = ∃ xs, r.lookup z = some (.lst xs) ∧ Q (put r z (.lst [])) .non := rfl
end

/-! ### comprehensions and loops -/
theorem keptN (r : R) : Kept [] r := fun q h => nomatch h
theorem lc_idx {mk : Bool} {tgt : DG} {tst : DT} {elt : DE} {g0 : G} {Q : R → D → Prop} {r : R} {kp : List (Addr × List D)} {ds : List D} (out : Nat → List D) (hl : ds.length ≤ sizeLine) (hk : Kept kp r)
    (h : ∀ i d, ds[i]? = some d → ∀ (P : List D → Prop), P (out i) → tgt d r g0 fun r1 g1 => tst r1 g1 fun r2 b => if b = true then elt r2 g1 fun r3 y => ∃ r', Sub r' r3 ∧ r' = r ∧ P [y] else ∃ r', Sub r' r2 ∧ r' = r ∧ P [])
    (q : mkD mk ((List.range ds.length).flatMap out) r Q) : lcCore mk tgt tst elt g0 Q r kp ds := by
  refine ⟨hl, fun i r' ys => r' = r ∧ ys = (List.range i).flatMap out, ⟨r, .refl r, rfl, rfl⟩, ?_, ?_⟩
  · rintro i d r' ys hd ⟨rfl, rfl⟩
    refine ⟨hk, ?_⟩
    have e : (List.range (i + 1)).flatMap out = (List.range i).flatMap out ++ out i := by rw [List.range_succ, List.flatMap_append]; simp
    have := h i d hd (fun y => (List.range i).flatMap out ++ y = (List.range (i + 1)).flatMap out) e.symm
    simpa only [List.append_nil] using this
  · rintro r' ys ⟨rfl, rfl⟩
    exact ⟨hk, q⟩
/-- [f x for x in xs], the cells as they are -/
theorem lc_map {mk : Bool} {tgt : DG} {elt : DE} {g0 : G} {Q : R → D → Prop} {r : R} {kp : List (Addr × List D)} {ds : List D} (f : D → D) (hl : ds.length ≤ sizeLine) (hk : Kept kp r)
    (h : ∀ d ∈ ds, ∀ (P : D → Prop), P (f d) → tgt d r g0 fun r1 g1 => elt r1 g1 fun r3 y => ∃ r', Sub r' r3 ∧ r' = r ∧ P y)
    (q : mkD mk (ds.map f) r Q) : lcCore mk tgt dYes elt g0 Q r kp ds := by
  refine ⟨hl, fun i r' ys => r' = r ∧ ys = (ds.take i).map f, ⟨r, .refl r, rfl, rfl⟩, ?_, ?_⟩
  · rintro i d r' ys hd ⟨rfl, rfl⟩
    refine ⟨hk, ?_⟩
    have e : (ds.take (i + 1)).map f = (ds.take i).map f ++ [f d] := by rw [List.take_succ, hd]; simp
    have := h d (List.mem_of_getElem? hd) (fun y => (ds.take i).map f ++ [y] = (ds.take (i + 1)).map f) e.symm
    simpa only [dYes, if_true] using this
  · rintro r' ys ⟨rfl, rfl⟩
    rw [List.take_length]
    exact ⟨hk, q⟩
theorem lc_flt {mk : Bool} {tgt : DG} {tst : DT} {elt : DE} {g0 : G} {Q : R → D → Prop} {r : R} {kp : List (Addr × List D)} {ds : List D} (out : D → List D) (hl : ds.length ≤ sizeLine) (hk : Kept kp r)
    (h : ∀ d ∈ ds, ∀ (P : List D → Prop), P (out d) → tgt d r g0 fun r1 g1 => tst r1 g1 fun r2 b => if b = true then elt r2 g1 fun r3 y => ∃ r', Sub r' r3 ∧ r' = r ∧ P [y] else ∃ r', Sub r' r2 ∧ r' = r ∧ P [])
    (q : mkD mk (ds.flatMap out) r Q) : lcCore mk tgt tst elt g0 Q r kp ds := by
  refine ⟨hl, fun i r' ys => r' = r ∧ ys = (ds.take i).flatMap out, ⟨r, .refl r, rfl, rfl⟩, ?_, ?_⟩
  · rintro i d r' ys hd ⟨rfl, rfl⟩
    refine ⟨hk, ?_⟩
    have e : (ds.take (i + 1)).flatMap out = (ds.take i).flatMap out ++ out d := by rw [List.take_succ, hd]; simp
    have := h d (List.mem_of_getElem? hd) (fun y => (ds.take i).flatMap out ++ y = (ds.take (i + 1)).flatMap out) e.symm
    simpa only [List.append_nil] using this
  · rintro r' ys ⟨rfl, rfl⟩
    rw [List.take_length]
    exact ⟨hk, q⟩

/-! ### the site's functions: the check's answers -/
def isInt : D → Int → Int → Bool
  | .int i, l, m => decide (l ≤ i) && decide (i ≤ m)
  | _, _, _ => false
theorem isInt_ty {d : D} {l m : Int} {n : String} (h : ty0 d = some n) (hn : n ≠ "int") : isInt d l m = false := by
  cases d with
  | int i => simp [ty0] at h; exact absurd h.symm hn
  | _ => rfl
theorem ints_of_all {l m : Int} : ∀ {ds : List D}, (ds.all fun x => isInt x l m) = true → ∃ ns : List Int, ds = ns.map D.int ∧ ∀ x ∈ ns, l ≤ x ∧ x ≤ m
  | [], _ => ⟨[], rfl, fun _ h => nomatch h⟩
  | d :: ds, h => by
    rw [List.all_cons, Bool.and_eq_true] at h
    obtain ⟨ns, rfl, hn⟩ := ints_of_all h.2
    cases d with
    | int i =>
      have h1 := h.1
      simp only [isInt, Bool.and_eq_true, decide_eq_true_eq] at h1
      refine ⟨i :: ns, rfl, fun x hx => ?_⟩
      rcases List.mem_cons.mp hx with rfl | hx
      · exact h1
      · exact hn x hx
    | _ => exact absurd h.1 (by simp [isInt])
def rowOk (d : D) : Prop := (ty0 d).isSome = true ∧ ∀ xs, d = .lst xs → xs.length ≤ 4000 ∧ ∀ x ∈ xs, (ty0 x).isSome = true
def isRow : D → Int → Int → Bool
  | .lst xs, p, n => (xs.all fun x => isInt x 0 (n - 1)) && match intsOf xs with
    | some ns => decide (p ∉ ns) && decide (ns.Pairwise (· < ·))
    | none => false
  | _, _, _ => false
def siteOk (d : D) : Prop := (ty0 d).isSome = true ∧ ∀ xs, d = .lst xs → xs.length ≤ 4000 ∧ ∀ x ∈ xs, rowOk x
def isSite : D → Bool
  | .lst xs => decide (1 ≤ xs.length) && decide (xs.length ≤ 12) && (List.range xs.length).all fun i => isRow (xs.getD i .non) i xs.length
  | _ => false
abbrev sp_is_integer : DSp := fun r ds Q => ∃ d l m, ds = [d, .int l, .int m] ∧ (ty0 d).isSome = true ∧ Q r (.bl (isInt d l m))
abbrev sp_is_row : DSp := fun r ds Q => ∃ d p n, ds = [d, .int p, .int n] ∧ n ≤ 60 ∧ rowOk d ∧ Q r (.bl (isRow d p n))
abbrev sp_is_site : DSp := fun r ds Q => ∃ d, ds = [d] ∧ siteOk d ∧ Q r (.bl (isSite d))
abbrev sp_check_site : DSp := fun r ds Q => ∃ d, ds = [d] ∧ siteOk d ∧ isSite d = true ∧ Q r .non

/-! ### nets -/
def netD (net : List (List Int)) : D := .lst (net.map fun row => .lst (row.map .int))
structure NetOk (net : List (List Int)) : Prop where
  l1 : 1 ≤ net.length
  l2 : net.length ≤ 12
  up : ∀ (i : Nat) (row : List Int), net[i]? = some row → row.Pairwise (· < ·)
  rg : ∀ (i : Nat) (row : List Int), net[i]? = some row → ∀ x ∈ row, 0 ≤ x ∧ x < net.length
  no : ∀ (i : Nat) (row : List Int), net[i]? = some row → (i : Int) ∉ row
theorem row_few {n : Nat} : ∀ {row : List Int}, row.Pairwise (· < ·) → (∀ x ∈ row, 0 ≤ x ∧ x < (n : Int)) → row.length ≤ n := by
  intro row hp hr
  have h1 : (row.map Int.toNat).Nodup := by
    refine List.pairwise_map.mpr (hp.imp_of_mem ?_)
    intro a b ha hb hab
    have := hr a ha; have := hr b hb
    omega
  have h2 : ∀ x ∈ row.map Int.toNat, x ∈ List.range n := by
    intro x hx
    obtain ⟨y, hy, rfl⟩ := List.mem_map.mp hx
    have := hr y hy
    rw [List.mem_range]; omega
  have h3 := List.Nodup.length_le_of_subset h1 h2
  simpa using h3
theorem NetOk.few {net : List (List Int)} (h : NetOk net) {i : Nat} {row : List Int} (e : net[i]? = some row) : row.length ≤ 12 :=
  Nat.le_trans (row_few (h.up i row e) (h.rg i row e)) h.l2
theorem NetOk.mem {net : List (List Int)} (h : NetOk net) {row : List Int} (e : row ∈ net) : row.length ≤ 12 := by
  obtain ⟨i, hi⟩ := List.getElem?_of_mem e
  exact h.few hi
theorem rowOk_ints {row : List Int} (h : row.length ≤ 4000) : rowOk (.lst (row.map .int)) := ⟨rfl, fun xs e => by
  cases e
  exact ⟨by simpa using h, fun x hx => by obtain ⟨i, _, rfl⟩ := List.mem_map.mp hx; rfl⟩⟩
theorem isRow_ints {row : List Int} {p n : Int} (h1 : ∀ x ∈ row, 0 ≤ x ∧ x < n) (h2 : p ∉ row) (h3 : row.Pairwise (· < ·)) : isRow (.lst (row.map .int)) p n = true := by
  have e : ((row.map D.int).all fun x => isInt x 0 (n - 1)) = true := by
    rw [List.all_eq_true]
    intro x hx
    obtain ⟨i, hi, rfl⟩ := List.mem_map.mp hx
    have := h1 i hi
    simp [isInt]; omega
  simp [isRow, intsOf_map, h2, h3]
  intro x hx
  have := h1 x hx
  simp [isInt]; omega
theorem NetOk.site {net : List (List Int)} (h : NetOk net) : siteOk (netD net) ∧ isSite (netD net) = true := by
  refine ⟨⟨rfl, fun xs e => ?_⟩, ?_⟩
  · cases e
    refine ⟨by have := h.l2; simp; omega, fun x hx => ?_⟩
    obtain ⟨row, hr, rfl⟩ := List.mem_map.mp hx
    exact rowOk_ints (Nat.le_trans (h.mem hr) (by decide))
  · have e1 := h.l1
    have e2 := h.l2
    unfold netD isSite
    rw [Bool.and_eq_true, Bool.and_eq_true]
    refine ⟨⟨by simpa using e1, by simpa using e2⟩, List.all_eq_true.mpr fun i hi => ?_⟩
    rw [List.mem_range, List.length_map] at hi
    have hg : net[i]? = some net[i] := List.getElem?_eq_getElem hi
    have e3 : (net.map fun row => D.lst (row.map D.int)).getD i .non = .lst (net[i].map D.int) := by
      rw [List.getD_eq_getElem?_getD, List.getElem?_map, hg]; rfl
    rw [e3, List.length_map]
    exact isRow_ints (h.rg i _ hg) (h.no i _ hg) (h.up i _ hg)

/-! ### walks -/
def pairsOk (net : List (List Int)) (ns : List Int) : Bool := (ns.zip ns.tail).all fun p => decide (p.2 ∈ net.getD p.1.toNat [])
def linkedI (net : List (List Int)) (ns : List Int) : Bool := !ns.isEmpty && (ns.all fun x => decide (0 ≤ x) && decide (x < net.length)) && pairsOk net ns
def linkedB (net : List (List Int)) : D → Bool
  | .lst xs => match intsOf xs with
    | some ns => linkedI net ns
    | none => false
  | _ => false
def lenD : D → Nat
  | .lst xs => xs.length
  | _ => 0
def aloneB : D → Bool
  | .lst xs => match intsOf xs with
    | some ns => decide ns.Nodup
    | none => false
  | _ => false
def valOk (v : D) : Prop := (ty0 v).isSome = true ∧ ∀ xs, v = .lst xs → xs.length ≤ 4000 ∧ (∀ x ∈ xs, (ty0 x).isSome = true) ∧ ∃ q, toP v = some q ∧ SeqAt.shaped q = true
abbrev sp_is_linked_on : DSp := fun r ds Q => ∃ net v, ds = [netD net, v] ∧ NetOk net ∧ valOk v ∧ Q r (.bl (linkedB net v))
abbrev sp_is_walk_on : DSp := fun r ds Q => ∃ net v, ds = [netD net, v] ∧ NetOk net ∧ valOk v ∧ Q r (.bl (linkedB net v && decide (lenD v ≤ 61)))
abbrev sp_is_trail_on : DSp := fun r ds Q => ∃ net v, ds = [netD net, v] ∧ NetOk net ∧ valOk v ∧ Q r (.bl (linkedB net v && aloneB v))
abbrev sp_is_walk : DSp := sp_is_walk_on
abbrev sp_is_trail_of : DSp := sp_is_trail_on
abbrev sp_check_page : DSp := fun r ds Q => ∃ net p, ds = [netD net, .int p] ∧ NetOk net ∧ 0 ≤ p ∧ p < net.length ∧ Q r .non
/-- the pages that link to p -/
def intoI (net : List (List Int)) (p : Int) : List Int := (List.range net.length).flatMap fun i => if p ∈ net.getD i [] then [(i : Int)] else []
abbrev sp_links_into : DSp := fun r ds Q => ∃ net p, ds = [netD net, .int p] ∧ NetOk net ∧ 0 ≤ p ∧ p < net.length ∧ mkD true ((intoI net p).map .int) r Q
inductive Reach (net : List (List Int)) (p : Int) : Int → Prop
  | here : Reach net p p
  | step {a b : Int} : Reach net p a → 0 ≤ a → b ∈ net.getD a.toNat [] → Reach net p b
abbrev sp_reached_from : DSp := fun r ds Q => ∃ net p, ds = [netD net, .int p] ∧ NetOk net ∧ 0 ≤ p ∧ p < net.length ∧ ∀ xs : List Int, xs.Pairwise (· < ·) → (∀ x, x ∈ xs ↔ Reach net p x) → mkD true (xs.map .int) r Q
def revI (net : List (List Int)) : List (List Int) := (List.range net.length).map fun (p : Nat) => intoI net (p : Int)
abbrev sp_reversed_rows : DSp := fun r ds Q => ∃ net, ds = [netD net] ∧ NetOk net ∧ Q r (netD (revI net))
abbrev sp_is_two_way : DSp := fun r ds Q => ∃ net, ds = [netD net] ∧ NetOk net ∧ Q r (.bl (decide (revI net = net)))
/-! ### the law's source of draws -/
def SrcB (m : Int) (xs : List D) : Prop := ∃ x y z, xs = [.int x, .int y, .int z] ∧ 0 ≤ x ∧ 0 ≤ y ∧ y ≤ 10 ^ 40 ∧ 0 ≤ z ∧ z ≤ m
abbrev sp__law_source : DSp := fun r ds Q => ∃ c k, ds = [.int c, .int k] ∧ 0 ≤ k ∧ k ≤ 100 ∧ ∀ xs p, SrcB 0 xs → p ∉ adr r → Q ((p, .lst xs) :: r) (.ob p)
abbrev sp__law_draw : DSp := fun r ds Q => ∃ s xs m n, ds = [.ob s, .int n] ∧ r = [(s, .lst xs)] ∧ SrcB m xs ∧ m ≤ 10 ^ 12 ∧ 0 < n ∧ n ≤ 10 ^ 9 ∧ ∀ d ys, SrcB (m + 1) ys → 0 ≤ d → d < n → Q [(s, .lst ys)] (.int d)
abbrev sp__law_net : DSp := fun r ds Q => ∃ s xs m n, ds = [.ob s, .int n] ∧ r = [(s, .lst xs)] ∧ SrcB m xs ∧ m ≤ 10 ^ 11 ∧ 0 < n ∧ n ≤ 12 ∧ ∀ net ys, SrcB (m + 1000) ys → NetOk net → Q [(s, .lst ys)] (netD net)
end CM

set_option Elab.async false
set_option linter.all false
set_option maxRecDepth 100000
set_option maxHeartbeats 4000000
namespace CM
open PySem L2 DL
def N_is_integer : List Str := ["value", "least", "most"]
def b_is_integer : DS :=
  (sRet (dAnd (dCB oIsi (dCons (dVar 0) (dCons (dC (.ty "int")) dNil))) (dAnd (dNot (dCB oIsi (dCons (dVar 0) (dCons (dC (.ty "bool")) dNil)))) (dChain oLe oLe (dVar 1) (dVar 0) (dVar 2)))))
def N_is_row : List Str := ["value", "page", "many", "other"]
def b_is_row : DS :=
  (sSeq
  (sIf (dOrT (dNotT (dTst (dCB oIsi (dCons (dVar 0) (dCons (dC (.ty "list")) dNil))))) (dNotT (dTst (dCB (oAll fun bs => bs.all id) (dCons (dLc false (iL (dVar 0)) (tName 3) dYes (dCall sp_is_integer (dCons (dVar 3) (dCons (dC (.int 0)) (dCons (dOp oSub (dVar 2) (dC (.int 1))) dNil)))) [3]) dNil)))))
  (sRet (dC (.bl false)))
  sNext)
  (sRet (dAnd (dOp (oIn true) (dVar 1) (dVar 0)) (dOp (oEq false) (dVar 0) (dCB (oSortSet false) (dCons (dVar 0) dNil))))))
def N_is_site : List Str := ["value", "page", "row"]
def b_is_site : DS :=
  (sSeq
  (sIf (dOrT (dNotT (dTst (dCB oIsi (dCons (dVar 0) (dCons (dC (.ty "list")) dNil))))) (dNotT (dTst (dChain oLe oLe (dC (.int 1)) (dCB oLen (dCons (dVar 0) dNil)) (dC (.int 12))))))
  (sRet (dC (.bl false)))
  sNext)
  (sRet (dCB (oAll fun bs => bs.all id) (dCons (dLc false (iE (dCons (dVar 0) dNil)) (tTupG 2 (tConss (tName 1) (tConss (tName 2) tNils))) dYes (dCall sp_is_row (dCons (dVar 2) (dCons (dVar 1) (dCons (dCB oLen (dCons (dVar 0) dNil)) dNil)))) [1, 2]) dNil))))
def N_check_site : List Str := ["site"]
def b_check_site : DS :=
  (sIf (dNotT (dTst (dCall sp_is_site (dCons (dVar 0) dNil)))) sNever sNext)
def N_is_linked_on : List Str := ["site", "value", "page", "other"]
def b_is_linked_on : DS :=
  (sSeq
  (sIf (dOrT (dNotT (dTst (dCB oIsi (dCons (dVar 1) (dCons (dC (.ty "list")) dNil))))) (dTst (dOp (oEq false) (dVar 1) (dLst false dNil))))
  (sRet (dC (.bl false)))
  sNext)
  (sSeq
  (sIf (dNotT (dTst (dCB (oAll fun bs => bs.all id) (dCons (dLc false (iL (dVar 1)) (tName 2) dYes (dCall sp_is_integer (dCons (dVar 2) (dCons (dC (.int 0)) (dCons (dOp oSub (dCB oLen (dCons (dVar 0) dNil)) (dC (.int 1))) dNil)))) [2]) dNil))))
  (sRet (dC (.bl false)))
  sNext)
  (sRet (dCB (oAll fun bs => bs.all id) (dCons (dLc false (iZ (dCons (dVar 1) (dCons (dSl false (dVar 1) (dPart (dC (.int 1))) dNoPart) dNil))) (tTupG 2 (tConss (tName 2) (tConss (tName 3) tNils))) dYes (dOp (oIn false) (dVar 3) (dOp oIx (dVar 0) (dVar 2))) [2, 3]) dNil)))))
def N_is_walk_on : List Str := ["site", "value"]
def b_is_walk_on : DS :=
  (sRet (dAnd (dCall sp_is_linked_on (dCons (dVar 0) (dCons (dVar 1) dNil))) (dOp oLe (dCB oLen (dCons (dVar 1) dNil)) (dOp (oAdd false) (dC (.int 60)) (dC (.int 1))))))
def N_is_trail_on : List Str := ["site", "value"]
def b_is_trail_on : DS :=
  (sRet (dAnd (dCall sp_is_linked_on (dCons (dVar 0) (dCons (dVar 1) dNil))) (dOp (oEq false) (dCB oLenSet (dCons (dVar 1) dNil)) (dCB oLen (dCons (dVar 1) dNil)))))
def N_is_walk : List Str := ["site", "value"]
def b_is_walk : DS :=
  (sSeq
  (sDrop (dCall sp_check_site (dCons (dVar 0) dNil)))
  (sRet (dCall sp_is_walk_on (dCons (dVar 0) (dCons (dVar 1) dNil)))))
def N_is_trail_of : List Str := ["site", "value"]
def b_is_trail_of : DS :=
  (sSeq
  (sDrop (dCall sp_check_site (dCons (dVar 0) dNil)))
  (sRet (dCall sp_is_trail_on (dCons (dVar 0) (dCons (dVar 1) dNil)))))
def N__law_source : List Str := ["_law_cell", "_law_k"]
def b__law_source : DS :=
  (sRet (dLst true (dCons (dCB oMax2 (dCons (dC (.int 0)) (dCons (dOp oSub (dVar 0) (dOp oPow (dC (.int 10)) (dC (.int 18)))) dNil))) (dCons (dOp (oAdd false) (dOp (oMul false) (dOp oMod (dVar 0) (dOp (oAdd false) (dOp oPow (dC (.int 10)) (dC (.int 33))) (dC (.int 153)))) (dC (.int 103))) (dVar 1)) (dCons (dC (.int 0)) dNil)))))
def N__law_draw : List Str := ["_law_source_here", "_law_count", "_law_digit", "_law_mixed"]
def b__law_draw : DS :=
  (sSeq
  (sIf (dTst (dOp oGt (dOp oIx (dVar 0) (dC (.int 0))) (dC (.int 0))))
  (sSeq
  (sAsg (dOp oMod (dOp oIx (dVar 0) (dC (.int 0))) (dVar 1)) (tName 2))
  (sSeq
  (sAsg (dOp oDiv (dOp oIx (dVar 0) (dC (.int 0))) (dVar 1)) (tSub (dVar 0) (dC (.int 0))))
  (sRet (dVar 2))))
  sNext)
  (sSeq
  (sAsg (dOp (oAdd false) (dOp oIx (dVar 0) (dC (.int 2))) (dC (.int 1))) (tSub (dVar 0) (dC (.int 2))))
  (sSeq
  (sAsg (dOp oMod (dOp oPow (dOp (oAdd false) (dOp oIx (dVar 0) (dC (.int 1))) (dOp (oMul false) (dC (.int 970051)) (dOp oIx (dVar 0) (dC (.int 2))))) (dC (.int 3))) (dOp (oAdd false) (dOp oPow (dC (.int 10)) (dC (.int 39))) (dC (.int 3)))) (tName 3))
  (sSeq
  (sAsg (dOp oMod (dOp oPow (dOp (oAdd false) (dVar 3) (dOp (oMul false) (dC (.int 73)) (dOp oIx (dVar 0) (dC (.int 2))))) (dC (.int 3))) (dOp (oAdd false) (dOp oPow (dC (.int 10)) (dC (.int 36))) (dC (.int 67)))) (tName 3))
  (sRet (dOp oMod (dOp oDiv (dVar 3) (dC (.int 65629))) (dVar 1)))))))
def N__law_net : List Str := ["_law_source_here", "_law_most", "_law_many", "_law_style", "_law_found", "_law_spot", "_law_row", "_law_other", "_law_picks"]
def b__law_net : DS :=
  (sSeq
  (sAsg (dOp oIx (dLst false (dCons (dOp (oAdd false) (dC (.int 1)) (dCall sp__law_draw (dCons (dVar 0) (dCons (dVar 1) dNil)))) (dCons (dOp (oAdd false) (dC (.int 1)) (dCall sp__law_draw (dCons (dVar 0) (dCons (dCB oMin2 (dCons (dVar 1) (dCons (dC (.int 5)) dNil))) dNil)))) (dCons (dVar 1) dNil)))) (dCall sp__law_draw (dCons (dVar 0) (dCons (dC (.int 3)) dNil)))) (tName 2))
  (sSeq
  (sPar 3 4 (dCons (dCall sp__law_draw (dCons (dVar 0) (dCons (dC (.int 5)) dNil))) (dCons (dLst true dNil) dNil)))
  (sSeq
  (sFor (iR1 (dCons (dVar 2) dNil)) (tName 5)
  (sSeq
  (sAsg (dLst true dNil) (tName 6))
  (sSeq
  (sFor (iR1 (dCons (dVar 2) dNil)) (tName 7)
  (sSeq
  (sAsg (dLst true (dCons (dC (.int 1)) (dCons (dCB oInt1 (dCons (dOp (oEq false) (dVar 7) (dOp oMod (dOp (oAdd false) (dVar 5) (dC (.int 1))) (dVar 2))) dNil)) (dCons (dCB oInt1 (dCons (dOp (oEq false) (dCB oAbs (dCons (dOp oSub (dVar 5) (dVar 7)) dNil)) (dC (.int 1))) dNil)) (dCons (dCall sp__law_draw (dCons (dVar 0) (dCons (dC (.int 2)) dNil))) dNil))))) (tName 8))
  (sSeq
  (sDrop (dM isL mApp (dVar 8) (dCons (dCB oInt1 (dCons (dOp (oEq false) (dCall sp__law_draw (dCons (dVar 0) (dCons (dC (.int 4)) dNil))) (dC (.int 0))) dNil)) dNil)))
  (sIf (dAndT (dTst (dOp (oEq true) (dVar 7) (dVar 5))) (dTst (dOp (oEq false) (dOp oIx (dVar 8) (dVar 3)) (dC (.int 1)))))
  (sDrop (dM isL mApp (dVar 6) (dCons (dVar 7) dNil)))
  sNext))))
  (sDrop (dM isL mApp (dVar 4) (dCons (dCl (dVar 6)) dNil))))))
  (sRet (dCl (dVar 4))))))
end CM

set_option Elab.async false
set_option linter.all false
set_option maxRecDepth 100000
set_option maxHeartbeats 4000000
namespace CM
open PySem DL
theorem d_is_integer : Does b_is_integer N_is_integer sp_is_integer := by
  rintro r ds Q ⟨d, l, m, rfl, h, q⟩
  obtain ⟨n, hn0⟩ := ty0_ex h
  have hn := tyn_of0 (r := r) hn0
  have fin : ∀ b, isInt d l m = b → ∃ r'', Sub r'' r ∧ Q r'' (.bl b) := fun b hb => ⟨r, .refl r, hb ▸ q⟩
  simp only [sRet, sIf, sSeq, sAsg, sDrop, sNext, sNever, sCt, sPar, sFor, sWhile, dAnd, dOr, dNot, dCB, dCons, dNil, dVar, dC, dOp, dTst, dAndT, dOrT, dNotT, dIf, dLst, dTup, dCl, dLc, dYes, dSl, dNoPart, dPart, dRev, dNeg, dChain, dM, dCall, tName, tTupG, tConss, tNils, tSub, iL, iE, iZ, iR1, iR2, startG, wipeG, List.map_cons, List.map_nil, List.length_cons, List.length_nil, List.cons_append, List.nil_append, List.append_nil, List.getD_cons_zero, List.getD_cons_succ, List.set_cons_zero, List.set_cons_succ, List.replicate_succ, List.replicate_zero, Nat.reduceAdd, Nat.reduceSub, Nat.reduceLeDiff, Nat.zero_add, Nat.sub_zero, oB_bl, true_and, and_true, Bool.not_true, Bool.not_false, if_true, if_false, Bool.false_eq_true, reduceIte, mkD_f, oSub_i, oMod_i, oDiv_i, oPow_i, oAdd_i, oAdd_s, oAdd_t, oAdd_l, oMul_i, oMul_l, oLt_i, oLe_i, oGt_i, oGe_i, oMax2_i, oMin2_i, oAbs_i, oInt1_i, oInt1_b, oEq_i, oNe_i, oEq_b, oNe_b, oIsi_x, oIsN_d, oNotN_d, lsOf_l, lstOf_ob, seqOf_ob, lstOf_l, lstOf_s, seqOf_l, seqOf_s, seqOf_t, srcOf_l, srcOf_s, srcOf_ob, isL_ob, isL_l, lk_self, lk_ne, put_ne, del_ne, ne_eq, not_false_eq_true, put_nil, put_self, del_nil, del_self, oLen_l, oLen_t, oLen_sc, oLen_s, oLen_ob, oIx_l, oIx_t, oIx_ob, at_0, at_1, at_2, ix_30, ix_31, ix_32, oSl_l, oSl_ob, oAll_l, mApp_ob, mPop_ob, mClear_ob, Option.some.injEq, Cl.lst.injEq, Option.bind_some, Option.map_some, exists_eq_left', exists_eq_left, Option.isSome_some, exists_eq_right, and_assoc, exists_and_left, Prod.mk.injEq, oSort, oSortSet, oLenSet, b_is_integer, N_is_integer, hn, Option.some.injEq, exists_eq_left', mem_int, mem_bool]
  by_cases hi : n = "int"
  · subst hi
    obtain ⟨i, rfl⟩ := ty0_int hn0
    have e1 : isB "int" "int" = true := by decide
    have e2 : isB "int" "bool" = false := by decide
    simp only [sRet, sIf, sSeq, sAsg, sDrop, sNext, sNever, sCt, sPar, sFor, sWhile, dAnd, dOr, dNot, dCB, dCons, dNil, dVar, dC, dOp, dTst, dAndT, dOrT, dNotT, dIf, dLst, dTup, dCl, dLc, dYes, dSl, dNoPart, dPart, dRev, dNeg, dChain, dM, dCall, tName, tTupG, tConss, tNils, tSub, iL, iE, iZ, iR1, iR2, startG, wipeG, List.map_cons, List.map_nil, List.length_cons, List.length_nil, List.cons_append, List.nil_append, List.append_nil, List.getD_cons_zero, List.getD_cons_succ, List.set_cons_zero, List.set_cons_succ, List.replicate_succ, List.replicate_zero, Nat.reduceAdd, Nat.reduceSub, Nat.reduceLeDiff, Nat.zero_add, Nat.sub_zero, oB_bl, true_and, and_true, Bool.not_true, Bool.not_false, if_true, if_false, Bool.false_eq_true, reduceIte, mkD_f, oSub_i, oMod_i, oDiv_i, oPow_i, oAdd_i, oAdd_s, oAdd_t, oAdd_l, oMul_i, oMul_l, oLt_i, oLe_i, oGt_i, oGe_i, oMax2_i, oMin2_i, oAbs_i, oInt1_i, oInt1_b, oEq_i, oNe_i, oEq_b, oNe_b, oIsi_x, oIsN_d, oNotN_d, lsOf_l, lstOf_ob, seqOf_ob, lstOf_l, lstOf_s, seqOf_l, seqOf_s, seqOf_t, srcOf_l, srcOf_s, srcOf_ob, isL_ob, isL_l, lk_self, lk_ne, put_ne, del_ne, ne_eq, not_false_eq_true, put_nil, put_self, del_nil, del_self, oLen_l, oLen_t, oLen_sc, oLen_s, oLen_ob, oIx_l, oIx_t, oIx_ob, at_0, at_1, at_2, ix_30, ix_31, ix_32, oSl_l, oSl_ob, oAll_l, mApp_ob, mPop_ob, mClear_ob, Option.some.injEq, Cl.lst.injEq, Option.bind_some, Option.map_some, exists_eq_left', exists_eq_left, Option.isSome_some, exists_eq_right, and_assoc, exists_and_left, Prod.mk.injEq, oSort, oSortSet, oLenSet, e1, e2]
    by_cases hl : l ≤ i
    · simp only [hl, decide_true, if_true]
      exact fin _ (by simp [isInt, hl])
    · simp only [hl, decide_false, Bool.false_eq_true, if_false]
      exact fin _ (by simp [isInt, hl])
  · have hf := isInt_ty (l := l) (m := m) hn0 hi
    by_cases hb : n = "bool"
    · subst hb
      have e1 : isB "bool" "int" = true := by decide
      have e2 : isB "bool" "bool" = true := by decide
      simp only [sRet, sIf, sSeq, sAsg, sDrop, sNext, sNever, sCt, sPar, sFor, sWhile, dAnd, dOr, dNot, dCB, dCons, dNil, dVar, dC, dOp, dTst, dAndT, dOrT, dNotT, dIf, dLst, dTup, dCl, dLc, dYes, dSl, dNoPart, dPart, dRev, dNeg, dChain, dM, dCall, tName, tTupG, tConss, tNils, tSub, iL, iE, iZ, iR1, iR2, startG, wipeG, List.map_cons, List.map_nil, List.length_cons, List.length_nil, List.cons_append, List.nil_append, List.append_nil, List.getD_cons_zero, List.getD_cons_succ, List.set_cons_zero, List.set_cons_succ, List.replicate_succ, List.replicate_zero, Nat.reduceAdd, Nat.reduceSub, Nat.reduceLeDiff, Nat.zero_add, Nat.sub_zero, oB_bl, true_and, and_true, Bool.not_true, Bool.not_false, if_true, if_false, Bool.false_eq_true, reduceIte, mkD_f, oSub_i, oMod_i, oDiv_i, oPow_i, oAdd_i, oAdd_s, oAdd_t, oAdd_l, oMul_i, oMul_l, oLt_i, oLe_i, oGt_i, oGe_i, oMax2_i, oMin2_i, oAbs_i, oInt1_i, oInt1_b, oEq_i, oNe_i, oEq_b, oNe_b, oIsi_x, oIsN_d, oNotN_d, lsOf_l, lstOf_ob, seqOf_ob, lstOf_l, lstOf_s, seqOf_l, seqOf_s, seqOf_t, srcOf_l, srcOf_s, srcOf_ob, isL_ob, isL_l, lk_self, lk_ne, put_ne, del_ne, ne_eq, not_false_eq_true, put_nil, put_self, del_nil, del_self, oLen_l, oLen_t, oLen_sc, oLen_s, oLen_ob, oIx_l, oIx_t, oIx_ob, at_0, at_1, at_2, ix_30, ix_31, ix_32, oSl_l, oSl_ob, oAll_l, mApp_ob, mPop_ob, mClear_ob, Option.some.injEq, Cl.lst.injEq, Option.bind_some, Option.map_some, exists_eq_left', exists_eq_left, Option.isSome_some, exists_eq_right, and_assoc, exists_and_left, Prod.mk.injEq, oSort, oSortSet, oLenSet, e1, e2]
      exact fin _ hf
    · have e1 : isB n "int" = false := by simp [isB, hi, hb]
      simp only [sRet, sIf, sSeq, sAsg, sDrop, sNext, sNever, sCt, sPar, sFor, sWhile, dAnd, dOr, dNot, dCB, dCons, dNil, dVar, dC, dOp, dTst, dAndT, dOrT, dNotT, dIf, dLst, dTup, dCl, dLc, dYes, dSl, dNoPart, dPart, dRev, dNeg, dChain, dM, dCall, tName, tTupG, tConss, tNils, tSub, iL, iE, iZ, iR1, iR2, startG, wipeG, List.map_cons, List.map_nil, List.length_cons, List.length_nil, List.cons_append, List.nil_append, List.append_nil, List.getD_cons_zero, List.getD_cons_succ, List.set_cons_zero, List.set_cons_succ, List.replicate_succ, List.replicate_zero, Nat.reduceAdd, Nat.reduceSub, Nat.reduceLeDiff, Nat.zero_add, Nat.sub_zero, oB_bl, true_and, and_true, Bool.not_true, Bool.not_false, if_true, if_false, Bool.false_eq_true, reduceIte, mkD_f, oSub_i, oMod_i, oDiv_i, oPow_i, oAdd_i, oAdd_s, oAdd_t, oAdd_l, oMul_i, oMul_l, oLt_i, oLe_i, oGt_i, oGe_i, oMax2_i, oMin2_i, oAbs_i, oInt1_i, oInt1_b, oEq_i, oNe_i, oEq_b, oNe_b, oIsi_x, oIsN_d, oNotN_d, lsOf_l, lstOf_ob, seqOf_ob, lstOf_l, lstOf_s, seqOf_l, seqOf_s, seqOf_t, srcOf_l, srcOf_s, srcOf_ob, isL_ob, isL_l, lk_self, lk_ne, put_ne, del_ne, ne_eq, not_false_eq_true, put_nil, put_self, del_nil, del_self, oLen_l, oLen_t, oLen_sc, oLen_s, oLen_ob, oIx_l, oIx_t, oIx_ob, at_0, at_1, at_2, ix_30, ix_31, ix_32, oSl_l, oSl_ob, oAll_l, mApp_ob, mPop_ob, mClear_ob, Option.some.injEq, Cl.lst.injEq, Option.bind_some, Option.map_some, exists_eq_left', exists_eq_left, Option.isSome_some, exists_eq_right, and_assoc, exists_and_left, Prod.mk.injEq, oSort, oSortSet, oLenSet, e1]
      exact fin _ hf
theorem pw_uniq : ∀ {a b : List Int}, a.Pairwise (· < ·) → b.Pairwise (· < ·) → (∀ x, x ∈ a ↔ x ∈ b) → a = b
  | [], [], _, _, _ => rfl
  | [], y :: b, _, _, h => by have := (h y).mpr List.mem_cons_self; simp at this
  | x :: a, [], _, _, h => by have := (h x).mp List.mem_cons_self; simp at this
  | x :: a, y :: b, ha, hb, h => by
    obtain ⟨ha1, ha2⟩ := List.pairwise_cons.mp ha
    obtain ⟨hb1, hb2⟩ := List.pairwise_cons.mp hb
    have e : x = y := by
      rcases List.mem_cons.mp ((h x).mp List.mem_cons_self) with e | m
      · exact e
      · rcases List.mem_cons.mp ((h y).mpr List.mem_cons_self) with e | m2
        · exact e.symm
        · have := hb1 x m; have := ha1 y m2; omega
    subst e
    congr 1
    refine pw_uniq ha2 hb2 fun z => ⟨fun hz => ?_, fun hz => ?_⟩
    · rcases List.mem_cons.mp ((h z).mp (List.mem_cons_of_mem _ hz)) with rfl | m
      · have := ha1 z hz; omega
      · exact m
    · rcases List.mem_cons.mp ((h z).mpr (List.mem_cons_of_mem _ hz)) with rfl | m
      · have := hb1 z hz; omega
      · exact m
theorem few_range {ns ks : List Int} {l m : Int} (h : ∀ x ∈ ns, l ≤ x ∧ x ≤ m) (hk : ks.Nodup) (hm : ∀ k, k ∈ ks ↔ k ∈ ns) : (ks.length : Int) ≤ max (m - l + 1) 0 := by
  have h1 : (ks.map fun x => (x - l).toNat).Nodup := by
    refine List.pairwise_map.mpr (List.Pairwise.imp_of_mem ?_ hk)
    intro a b ha hb hab
    have := h a ((hm a).mp ha); have := h b ((hm b).mp hb)
    omega
  have h2 : ∀ x ∈ ks.map (fun x => (x - l).toNat), x ∈ List.range (m - l + 1).toNat := by
    intro x hx
    obtain ⟨y, hy, rfl⟩ := List.mem_map.mp hx
    have := h y ((hm y).mp hy)
    rw [List.mem_range]; omega
  have h3 := List.Nodup.length_le_of_subset h1 h2
  simp at h3
  omega
theorem d_is_row : Does b_is_row N_is_row sp_is_row := by
  rintro r ds Q ⟨d, p, n, rfl, hn60, ⟨ht, hx⟩, q⟩
  obtain ⟨t, ht0⟩ := ty0_ex ht
  have htr := tyn_of0 (r := r) ht0
  have fin : ∀ b, isRow d p n = b → ∃ r'', Sub r'' r ∧ Q r'' (.bl b) := fun b hb => ⟨r, .refl r, hb ▸ q⟩
  simp only [sRet, sIf, sSeq, sAsg, sDrop, sNext, sNever, sCt, sPar, sFor, sWhile, dAnd, dOr, dNot, dCB, dCons, dNil, dVar, dC, dOp, dTst, dAndT, dOrT, dNotT, dIf, dLst, dTup, dCl, dLc, dYes, dSl, dNoPart, dPart, dRev, dNeg, dChain, dM, dCall, tName, tTupG, tConss, tNils, tSub, iL, iE, iZ, iR1, iR2, startG, wipeG, List.map_cons, List.map_nil, List.length_cons, List.length_nil, List.cons_append, List.nil_append, List.append_nil, List.getD_cons_zero, List.getD_cons_succ, List.set_cons_zero, List.set_cons_succ, List.replicate_succ, List.replicate_zero, Nat.reduceAdd, Nat.reduceSub, Nat.reduceLeDiff, Nat.zero_add, Nat.sub_zero, oB_bl, true_and, and_true, Bool.not_true, Bool.not_false, if_true, if_false, Bool.false_eq_true, reduceIte, mkD_f, oSub_i, oMod_i, oDiv_i, oPow_i, oAdd_i, oAdd_s, oAdd_t, oAdd_l, oMul_i, oMul_l, oLt_i, oLe_i, oGt_i, oGe_i, oMax2_i, oMin2_i, oAbs_i, oInt1_i, oInt1_b, oEq_i, oNe_i, oEq_b, oNe_b, oIsi_x, oIsN_d, oNotN_d, lsOf_l, lstOf_ob, seqOf_ob, lstOf_l, lstOf_s, seqOf_l, seqOf_s, seqOf_t, srcOf_l, srcOf_s, srcOf_ob, isL_ob, isL_l, lk_self, lk_ne, put_ne, del_ne, ne_eq, not_false_eq_true, put_nil, put_self, del_nil, del_self, oLen_l, oLen_t, oLen_sc, oLen_s, oLen_ob, oIx_l, oIx_t, oIx_ob, at_0, at_1, at_2, ix_30, ix_31, ix_32, oSl_l, oSl_ob, oAll_l, mApp_ob, mPop_ob, mClear_ob, Option.some.injEq, Cl.lst.injEq, Option.bind_some, Option.map_some, exists_eq_left', exists_eq_left, Option.isSome_some, exists_eq_right, and_assoc, exists_and_left, Prod.mk.injEq, oSort, oSortSet, oLenSet, b_is_row, N_is_row, htr, Option.some.injEq, exists_eq_left', mem_list]
  by_cases hl : t = "list"
  · subst hl
    obtain ⟨xs, rfl⟩ := ty0_list ht0
    obtain ⟨hlen, hty⟩ := hx xs rfl
    simp only [sRet, sIf, sSeq, sAsg, sDrop, sNext, sNever, sCt, sPar, sFor, sWhile, dAnd, dOr, dNot, dCB, dCons, dNil, dVar, dC, dOp, dTst, dAndT, dOrT, dNotT, dIf, dLst, dTup, dCl, dLc, dYes, dSl, dNoPart, dPart, dRev, dNeg, dChain, dM, dCall, tName, tTupG, tConss, tNils, tSub, iL, iE, iZ, iR1, iR2, startG, wipeG, List.map_cons, List.map_nil, List.length_cons, List.length_nil, List.cons_append, List.nil_append, List.append_nil, List.getD_cons_zero, List.getD_cons_succ, List.set_cons_zero, List.set_cons_succ, List.replicate_succ, List.replicate_zero, Nat.reduceAdd, Nat.reduceSub, Nat.reduceLeDiff, Nat.zero_add, Nat.sub_zero, oB_bl, true_and, and_true, Bool.not_true, Bool.not_false, if_true, if_false, Bool.false_eq_true, reduceIte, mkD_f, oSub_i, oMod_i, oDiv_i, oPow_i, oAdd_i, oAdd_s, oAdd_t, oAdd_l, oMul_i, oMul_l, oLt_i, oLe_i, oGt_i, oGe_i, oMax2_i, oMin2_i, oAbs_i, oInt1_i, oInt1_b, oEq_i, oNe_i, oEq_b, oNe_b, oIsi_x, oIsN_d, oNotN_d, lsOf_l, lstOf_ob, seqOf_ob, lstOf_l, lstOf_s, seqOf_l, seqOf_s, seqOf_t, srcOf_l, srcOf_s, srcOf_ob, isL_ob, isL_l, lk_self, lk_ne, put_ne, del_ne, ne_eq, not_false_eq_true, put_nil, put_self, del_nil, del_self, oLen_l, oLen_t, oLen_sc, oLen_s, oLen_ob, oIx_l, oIx_t, oIx_ob, at_0, at_1, at_2, ix_30, ix_31, ix_32, oSl_l, oSl_ob, oAll_l, mApp_ob, mPop_ob, mClear_ob, Option.some.injEq, Cl.lst.injEq, Option.bind_some, Option.map_some, exists_eq_left', exists_eq_left, Option.isSome_some, exists_eq_right, and_assoc, exists_and_left, Prod.mk.injEq, oSort, oSortSet, oLenSet, isB_self]
    refine lc_map (fun x => .bl (isInt x 0 (n - 1))) (Nat.le_trans hlen (by decide)) (keptN _) (fun d hd P hP => ?_) ?_
    · simp only [sRet, sIf, sSeq, sAsg, sDrop, sNext, sNever, sCt, sPar, sFor, sWhile, dAnd, dOr, dNot, dCB, dCons, dNil, dVar, dC, dOp, dTst, dAndT, dOrT, dNotT, dIf, dLst, dTup, dCl, dLc, dYes, dSl, dNoPart, dPart, dRev, dNeg, dChain, dM, dCall, tName, tTupG, tConss, tNils, tSub, iL, iE, iZ, iR1, iR2, startG, wipeG, List.map_cons, List.map_nil, List.length_cons, List.length_nil, List.cons_append, List.nil_append, List.append_nil, List.getD_cons_zero, List.getD_cons_succ, List.set_cons_zero, List.set_cons_succ, List.replicate_succ, List.replicate_zero, Nat.reduceAdd, Nat.reduceSub, Nat.reduceLeDiff, Nat.zero_add, Nat.sub_zero, oB_bl, true_and, and_true, Bool.not_true, Bool.not_false, if_true, if_false, Bool.false_eq_true, reduceIte, mkD_f, oSub_i, oMod_i, oDiv_i, oPow_i, oAdd_i, oAdd_s, oAdd_t, oAdd_l, oMul_i, oMul_l, oLt_i, oLe_i, oGt_i, oGe_i, oMax2_i, oMin2_i, oAbs_i, oInt1_i, oInt1_b, oEq_i, oNe_i, oEq_b, oNe_b, oIsi_x, oIsN_d, oNotN_d, lsOf_l, lstOf_ob, seqOf_ob, lstOf_l, lstOf_s, seqOf_l, seqOf_s, seqOf_t, srcOf_l, srcOf_s, srcOf_ob, isL_ob, isL_l, lk_self, lk_ne, put_ne, del_ne, ne_eq, not_false_eq_true, put_nil, put_self, del_nil, del_self, oLen_l, oLen_t, oLen_sc, oLen_s, oLen_ob, oIx_l, oIx_t, oIx_ob, at_0, at_1, at_2, ix_30, ix_31, ix_32, oSl_l, oSl_ob, oAll_l, mApp_ob, mPop_ob, mClear_ob, Option.some.injEq, Cl.lst.injEq, Option.bind_some, Option.map_some, exists_eq_left', exists_eq_left, Option.isSome_some, exists_eq_right, and_assoc, exists_and_left, Prod.mk.injEq, oSort, oSortSet, oLenSet]
      exact ⟨[], r, .refl _, d, _, _, rfl, hty d hd, r, .refl r, rfl, hP⟩
    · simp only [sRet, sIf, sSeq, sAsg, sDrop, sNext, sNever, sCt, sPar, sFor, sWhile, dAnd, dOr, dNot, dCB, dCons, dNil, dVar, dC, dOp, dTst, dAndT, dOrT, dNotT, dIf, dLst, dTup, dCl, dLc, dYes, dSl, dNoPart, dPart, dRev, dNeg, dChain, dM, dCall, tName, tTupG, tConss, tNils, tSub, iL, iE, iZ, iR1, iR2, startG, wipeG, List.map_cons, List.map_nil, List.length_cons, List.length_nil, List.cons_append, List.nil_append, List.append_nil, List.getD_cons_zero, List.getD_cons_succ, List.set_cons_zero, List.set_cons_succ, List.replicate_succ, List.replicate_zero, Nat.reduceAdd, Nat.reduceSub, Nat.reduceLeDiff, Nat.zero_add, Nat.sub_zero, oB_bl, true_and, and_true, Bool.not_true, Bool.not_false, if_true, if_false, Bool.false_eq_true, reduceIte, mkD_f, oSub_i, oMod_i, oDiv_i, oPow_i, oAdd_i, oAdd_s, oAdd_t, oAdd_l, oMul_i, oMul_l, oLt_i, oLe_i, oGt_i, oGe_i, oMax2_i, oMin2_i, oAbs_i, oInt1_i, oInt1_b, oEq_i, oNe_i, oEq_b, oNe_b, oIsi_x, oIsN_d, oNotN_d, lsOf_l, lstOf_ob, seqOf_ob, lstOf_l, lstOf_s, seqOf_l, seqOf_s, seqOf_t, srcOf_l, srcOf_s, srcOf_ob, isL_ob, isL_l, lk_self, lk_ne, put_ne, del_ne, ne_eq, not_false_eq_true, put_nil, put_self, del_nil, del_self, oLen_l, oLen_t, oLen_sc, oLen_s, oLen_ob, oIx_l, oIx_t, oIx_ob, at_0, at_1, at_2, ix_30, ix_31, ix_32, oSl_l, oSl_ob, oAll_l, mApp_ob, mPop_ob, mClear_ob, Option.some.injEq, Cl.lst.injEq, Option.bind_some, Option.map_some, exists_eq_left', exists_eq_left, Option.isSome_some, exists_eq_right, and_assoc, exists_and_left, Prod.mk.injEq, oSort, oSortSet, oLenSet]
      refine ⟨xs.map fun x => isInt x 0 (n - 1), by simp [Function.comp_def], ?_⟩
      have e : (xs.map fun x => isInt x 0 (n - 1)).all id = xs.all fun x => isInt x 0 (n - 1) := by simp [List.all_map, Function.comp_def]
      rw [e]
      by_cases ha : (xs.all fun x => isInt x 0 (n - 1)) = true
      · obtain ⟨ns, rfl, hr⟩ := ints_of_all ha
        simp only [sRet, sIf, sSeq, sAsg, sDrop, sNext, sNever, sCt, sPar, sFor, sWhile, dAnd, dOr, dNot, dCB, dCons, dNil, dVar, dC, dOp, dTst, dAndT, dOrT, dNotT, dIf, dLst, dTup, dCl, dLc, dYes, dSl, dNoPart, dPart, dRev, dNeg, dChain, dM, dCall, tName, tTupG, tConss, tNils, tSub, iL, iE, iZ, iR1, iR2, startG, wipeG, List.map_cons, List.map_nil, List.length_cons, List.length_nil, List.cons_append, List.nil_append, List.append_nil, List.getD_cons_zero, List.getD_cons_succ, List.set_cons_zero, List.set_cons_succ, List.replicate_succ, List.replicate_zero, Nat.reduceAdd, Nat.reduceSub, Nat.reduceLeDiff, Nat.zero_add, Nat.sub_zero, oB_bl, true_and, and_true, Bool.not_true, Bool.not_false, if_true, if_false, Bool.false_eq_true, reduceIte, mkD_f, oSub_i, oMod_i, oDiv_i, oPow_i, oAdd_i, oAdd_s, oAdd_t, oAdd_l, oMul_i, oMul_l, oLt_i, oLe_i, oGt_i, oGe_i, oMax2_i, oMin2_i, oAbs_i, oInt1_i, oInt1_b, oEq_i, oNe_i, oEq_b, oNe_b, oIsi_x, oIsN_d, oNotN_d, lsOf_l, lstOf_ob, seqOf_ob, lstOf_l, lstOf_s, seqOf_l, seqOf_s, seqOf_t, srcOf_l, srcOf_s, srcOf_ob, isL_ob, isL_l, lk_self, lk_ne, put_ne, del_ne, ne_eq, not_false_eq_true, put_nil, put_self, del_nil, del_self, oLen_l, oLen_t, oLen_sc, oLen_s, oLen_ob, oIx_l, oIx_t, oIx_ob, at_0, at_1, at_2, ix_30, ix_31, ix_32, oSl_l, oSl_ob, oAll_l, mApp_ob, mPop_ob, mClear_ob, Option.some.injEq, Cl.lst.injEq, Option.bind_some, Option.map_some, exists_eq_left', exists_eq_left, Option.isSome_some, exists_eq_right, and_assoc, exists_and_left, Prod.mk.injEq, oSort, oSortSet, oLenSet, ha]
        refine ⟨_, rfl, rfl, flat_ints ns, ?_⟩
        rw [inD_ints]
        by_cases hp : p ∈ ns
        · simp only [sRet, sIf, sSeq, sAsg, sDrop, sNext, sNever, sCt, sPar, sFor, sWhile, dAnd, dOr, dNot, dCB, dCons, dNil, dVar, dC, dOp, dTst, dAndT, dOrT, dNotT, dIf, dLst, dTup, dCl, dLc, dYes, dSl, dNoPart, dPart, dRev, dNeg, dChain, dM, dCall, tName, tTupG, tConss, tNils, tSub, iL, iE, iZ, iR1, iR2, startG, wipeG, List.map_cons, List.map_nil, List.length_cons, List.length_nil, List.cons_append, List.nil_append, List.append_nil, List.getD_cons_zero, List.getD_cons_succ, List.set_cons_zero, List.set_cons_succ, List.replicate_succ, List.replicate_zero, Nat.reduceAdd, Nat.reduceSub, Nat.reduceLeDiff, Nat.zero_add, Nat.sub_zero, oB_bl, true_and, and_true, Bool.not_true, Bool.not_false, if_true, if_false, Bool.false_eq_true, reduceIte, mkD_f, oSub_i, oMod_i, oDiv_i, oPow_i, oAdd_i, oAdd_s, oAdd_t, oAdd_l, oMul_i, oMul_l, oLt_i, oLe_i, oGt_i, oGe_i, oMax2_i, oMin2_i, oAbs_i, oInt1_i, oInt1_b, oEq_i, oNe_i, oEq_b, oNe_b, oIsi_x, oIsN_d, oNotN_d, lsOf_l, lstOf_ob, seqOf_ob, lstOf_l, lstOf_s, seqOf_l, seqOf_s, seqOf_t, srcOf_l, srcOf_s, srcOf_ob, isL_ob, isL_l, lk_self, lk_ne, put_ne, del_ne, ne_eq, not_false_eq_true, put_nil, put_self, del_nil, del_self, oLen_l, oLen_t, oLen_sc, oLen_s, oLen_ob, oIx_l, oIx_t, oIx_ob, at_0, at_1, at_2, ix_30, ix_31, ix_32, oSl_l, oSl_ob, oAll_l, mApp_ob, mPop_ob, mClear_ob, Option.some.injEq, Cl.lst.injEq, Option.bind_some, Option.map_some, exists_eq_left', exists_eq_left, Option.isSome_some, exists_eq_right, and_assoc, exists_and_left, Prod.mk.injEq, oSort, oSortSet, oLenSet, hp, decide_true]
          exact fin _ (by simp [isRow, intsOf_map, hp])
        · simp only [sRet, sIf, sSeq, sAsg, sDrop, sNext, sNever, sCt, sPar, sFor, sWhile, dAnd, dOr, dNot, dCB, dCons, dNil, dVar, dC, dOp, dTst, dAndT, dOrT, dNotT, dIf, dLst, dTup, dCl, dLc, dYes, dSl, dNoPart, dPart, dRev, dNeg, dChain, dM, dCall, tName, tTupG, tConss, tNils, tSub, iL, iE, iZ, iR1, iR2, startG, wipeG, List.map_cons, List.map_nil, List.length_cons, List.length_nil, List.cons_append, List.nil_append, List.append_nil, List.getD_cons_zero, List.getD_cons_succ, List.set_cons_zero, List.set_cons_succ, List.replicate_succ, List.replicate_zero, Nat.reduceAdd, Nat.reduceSub, Nat.reduceLeDiff, Nat.zero_add, Nat.sub_zero, oB_bl, true_and, and_true, Bool.not_true, Bool.not_false, if_true, if_false, Bool.false_eq_true, reduceIte, mkD_f, oSub_i, oMod_i, oDiv_i, oPow_i, oAdd_i, oAdd_s, oAdd_t, oAdd_l, oMul_i, oMul_l, oLt_i, oLe_i, oGt_i, oGe_i, oMax2_i, oMin2_i, oAbs_i, oInt1_i, oInt1_b, oEq_i, oNe_i, oEq_b, oNe_b, oIsi_x, oIsN_d, oNotN_d, lsOf_l, lstOf_ob, seqOf_ob, lstOf_l, lstOf_s, seqOf_l, seqOf_s, seqOf_t, srcOf_l, srcOf_s, srcOf_ob, isL_ob, isL_l, lk_self, lk_ne, put_ne, del_ne, ne_eq, not_false_eq_true, put_nil, put_self, del_nil, del_self, oLen_l, oLen_t, oLen_sc, oLen_s, oLen_ob, oIx_l, oIx_t, oIx_ob, at_0, at_1, at_2, ix_30, ix_31, ix_32, oSl_l, oSl_ob, oAll_l, mApp_ob, mPop_ob, mClear_ob, Option.some.injEq, Cl.lst.injEq, Option.bind_some, Option.map_some, exists_eq_left', exists_eq_left, Option.isSome_some, exists_eq_right, and_assoc, exists_and_left, Prod.mk.injEq, oSort, oSortSet, oLenSet, hp, decide_false]
          refine ⟨ns, rfl, by simpa using hlen, fun ks hk hm => ?_, fun ns' h1 h2 => ?_⟩
          · have := few_range hr hk hm
            omega
          · refine oEq_ints (fin _ ?_)
            simp only [Bool.false_eq_true, if_false]
            have hpw : decide (ns = ns') = decide (ns.Pairwise (· < ·)) := by
              refine decide_eq_decide.mpr ⟨fun e => e ▸ h1, fun h => pw_uniq h h1 fun x => (h2 x).symm⟩
            rw [hpw]
            simp only [isRow, intsOf_map, ha, hp, Bool.true_and, not_false_eq_true, decide_true]
      · simp only [sRet, sIf, sSeq, sAsg, sDrop, sNext, sNever, sCt, sPar, sFor, sWhile, dAnd, dOr, dNot, dCB, dCons, dNil, dVar, dC, dOp, dTst, dAndT, dOrT, dNotT, dIf, dLst, dTup, dCl, dLc, dYes, dSl, dNoPart, dPart, dRev, dNeg, dChain, dM, dCall, tName, tTupG, tConss, tNils, tSub, iL, iE, iZ, iR1, iR2, startG, wipeG, List.map_cons, List.map_nil, List.length_cons, List.length_nil, List.cons_append, List.nil_append, List.append_nil, List.getD_cons_zero, List.getD_cons_succ, List.set_cons_zero, List.set_cons_succ, List.replicate_succ, List.replicate_zero, Nat.reduceAdd, Nat.reduceSub, Nat.reduceLeDiff, Nat.zero_add, Nat.sub_zero, oB_bl, true_and, and_true, Bool.not_true, Bool.not_false, if_true, if_false, Bool.false_eq_true, reduceIte, mkD_f, oSub_i, oMod_i, oDiv_i, oPow_i, oAdd_i, oAdd_s, oAdd_t, oAdd_l, oMul_i, oMul_l, oLt_i, oLe_i, oGt_i, oGe_i, oMax2_i, oMin2_i, oAbs_i, oInt1_i, oInt1_b, oEq_i, oNe_i, oEq_b, oNe_b, oIsi_x, oIsN_d, oNotN_d, lsOf_l, lstOf_ob, seqOf_ob, lstOf_l, lstOf_s, seqOf_l, seqOf_s, seqOf_t, srcOf_l, srcOf_s, srcOf_ob, isL_ob, isL_l, lk_self, lk_ne, put_ne, del_ne, ne_eq, not_false_eq_true, put_nil, put_self, del_nil, del_self, oLen_l, oLen_t, oLen_sc, oLen_s, oLen_ob, oIx_l, oIx_t, oIx_ob, at_0, at_1, at_2, ix_30, ix_31, ix_32, oSl_l, oSl_ob, oAll_l, mApp_ob, mPop_ob, mClear_ob, Option.some.injEq, Cl.lst.injEq, Option.bind_some, Option.map_some, exists_eq_left', exists_eq_left, Option.isSome_some, exists_eq_right, and_assoc, exists_and_left, Prod.mk.injEq, oSort, oSortSet, oLenSet, ha]
        exact fin _ (by simp [isRow, ha])
  · have hf : isRow d p n = false := by cases d <;> first | rfl | (simp [ty0] at ht0; exact absurd ht0.symm hl)
    simp only [sRet, sIf, sSeq, sAsg, sDrop, sNext, sNever, sCt, sPar, sFor, sWhile, dAnd, dOr, dNot, dCB, dCons, dNil, dVar, dC, dOp, dTst, dAndT, dOrT, dNotT, dIf, dLst, dTup, dCl, dLc, dYes, dSl, dNoPart, dPart, dRev, dNeg, dChain, dM, dCall, tName, tTupG, tConss, tNils, tSub, iL, iE, iZ, iR1, iR2, startG, wipeG, List.map_cons, List.map_nil, List.length_cons, List.length_nil, List.cons_append, List.nil_append, List.append_nil, List.getD_cons_zero, List.getD_cons_succ, List.set_cons_zero, List.set_cons_succ, List.replicate_succ, List.replicate_zero, Nat.reduceAdd, Nat.reduceSub, Nat.reduceLeDiff, Nat.zero_add, Nat.sub_zero, oB_bl, true_and, and_true, Bool.not_true, Bool.not_false, if_true, if_false, Bool.false_eq_true, reduceIte, mkD_f, oSub_i, oMod_i, oDiv_i, oPow_i, oAdd_i, oAdd_s, oAdd_t, oAdd_l, oMul_i, oMul_l, oLt_i, oLe_i, oGt_i, oGe_i, oMax2_i, oMin2_i, oAbs_i, oInt1_i, oInt1_b, oEq_i, oNe_i, oEq_b, oNe_b, oIsi_x, oIsN_d, oNotN_d, lsOf_l, lstOf_ob, seqOf_ob, lstOf_l, lstOf_s, seqOf_l, seqOf_s, seqOf_t, srcOf_l, srcOf_s, srcOf_ob, isL_ob, isL_l, lk_self, lk_ne, put_ne, del_ne, ne_eq, not_false_eq_true, put_nil, put_self, del_nil, del_self, oLen_l, oLen_t, oLen_sc, oLen_s, oLen_ob, oIx_l, oIx_t, oIx_ob, at_0, at_1, at_2, ix_30, ix_31, ix_32, oSl_l, oSl_ob, oAll_l, mApp_ob, mPop_ob, mClear_ob, Option.some.injEq, Cl.lst.injEq, Option.bind_some, Option.map_some, exists_eq_left', exists_eq_left, Option.isSome_some, exists_eq_right, and_assoc, exists_and_left, Prod.mk.injEq, oSort, oSortSet, oLenSet, isB_list hl]
    exact fin _ hf
end CM

set_option Elab.async false
set_option linter.all false
set_option maxRecDepth 100000
set_option maxHeartbeats 4000000
namespace CM
open PySem DL
theorem enumD_at {ds : List D} {i : Nat} {x : D} (h : (enumD 0 ds)[i]? = some x) : ∃ d, ds[i]? = some d ∧ x = .tup [.int (i : Int), d] := by
  rw [enumD_get] at h
  cases e : ds[i]? with
  | none => rw [e] at h; cases h
  | some d =>
    rw [e] at h
    refine ⟨d, rfl, ?_⟩
    simp at h
    rw [← h]
theorem d_is_site : Does b_is_site N_is_site sp_is_site := by
  rintro r ds Q ⟨d, rfl, ⟨ht, hx⟩, q⟩
  obtain ⟨t, ht0⟩ := ty0_ex ht
  have htr := tyn_of0 (r := r) ht0
  have fin : ∀ b, isSite d = b → ∃ r'', Sub r'' r ∧ Q r'' (.bl b) := fun b hb => ⟨r, .refl r, hb ▸ q⟩
  simp only [sRet, sIf, sSeq, sAsg, sDrop, sNext, sNever, sCt, sPar, sFor, sWhile, dAnd, dOr, dNot, dCB, dCons, dNil, dVar, dC, dOp, dTst, dAndT, dOrT, dNotT, dIf, dLst, dTup, dCl, dLc, dYes, dSl, dNoPart, dPart, dRev, dNeg, dChain, dM, dCall, tName, tTupG, tConss, tNils, tSub, iL, iE, iZ, iR1, iR2, startG, wipeG, List.map_cons, List.map_nil, List.length_cons, List.length_nil, List.cons_append, List.nil_append, List.append_nil, List.getD_cons_zero, List.getD_cons_succ, List.set_cons_zero, List.set_cons_succ, List.replicate_succ, List.replicate_zero, Nat.reduceAdd, Nat.reduceSub, Nat.reduceLeDiff, Nat.zero_add, Nat.sub_zero, oB_bl, true_and, and_true, Bool.not_true, Bool.not_false, if_true, if_false, Bool.false_eq_true, reduceIte, mkD_f, oSub_i, oMod_i, oDiv_i, oPow_i, oAdd_i, oAdd_s, oAdd_t, oAdd_l, oMul_i, oMul_l, oLt_i, oLe_i, oGt_i, oGe_i, oMax2_i, oMin2_i, oAbs_i, oInt1_i, oInt1_b, oEq_i, oNe_i, oEq_b, oNe_b, oIsi_x, oIsN_d, oNotN_d, lsOf_l, lstOf_ob, seqOf_ob, lstOf_l, lstOf_s, seqOf_l, seqOf_s, seqOf_t, srcOf_l, srcOf_s, srcOf_ob, isL_ob, isL_l, lk_self, lk_ne, put_ne, del_ne, ne_eq, not_false_eq_true, put_nil, put_self, del_nil, del_self, oLen_l, oLen_t, oLen_sc, oLen_s, oLen_ob, oIx_l, oIx_t, oIx_ob, at_0, at_1, at_2, ix_30, ix_31, ix_32, oSl_l, oSl_ob, oAll_l, mApp_ob, mPop_ob, mClear_ob, Option.some.injEq, Cl.lst.injEq, Option.bind_some, Option.map_some, exists_eq_left', exists_eq_left, Option.isSome_some, exists_eq_right, and_assoc, exists_and_left, Prod.mk.injEq, oSort, oSortSet, oLenSet, b_is_site, N_is_site, htr, Option.some.injEq, exists_eq_left', mem_list]
  by_cases hl : t = "list"
  · subst hl
    obtain ⟨xs, rfl⟩ := ty0_list ht0
    obtain ⟨hlen, hty⟩ := hx xs rfl
    simp only [sRet, sIf, sSeq, sAsg, sDrop, sNext, sNever, sCt, sPar, sFor, sWhile, dAnd, dOr, dNot, dCB, dCons, dNil, dVar, dC, dOp, dTst, dAndT, dOrT, dNotT, dIf, dLst, dTup, dCl, dLc, dYes, dSl, dNoPart, dPart, dRev, dNeg, dChain, dM, dCall, tName, tTupG, tConss, tNils, tSub, iL, iE, iZ, iR1, iR2, startG, wipeG, List.map_cons, List.map_nil, List.length_cons, List.length_nil, List.cons_append, List.nil_append, List.append_nil, List.getD_cons_zero, List.getD_cons_succ, List.set_cons_zero, List.set_cons_succ, List.replicate_succ, List.replicate_zero, Nat.reduceAdd, Nat.reduceSub, Nat.reduceLeDiff, Nat.zero_add, Nat.sub_zero, oB_bl, true_and, and_true, Bool.not_true, Bool.not_false, if_true, if_false, Bool.false_eq_true, reduceIte, mkD_f, oSub_i, oMod_i, oDiv_i, oPow_i, oAdd_i, oAdd_s, oAdd_t, oAdd_l, oMul_i, oMul_l, oLt_i, oLe_i, oGt_i, oGe_i, oMax2_i, oMin2_i, oAbs_i, oInt1_i, oInt1_b, oEq_i, oNe_i, oEq_b, oNe_b, oIsi_x, oIsN_d, oNotN_d, lsOf_l, lstOf_ob, seqOf_ob, lstOf_l, lstOf_s, seqOf_l, seqOf_s, seqOf_t, srcOf_l, srcOf_s, srcOf_ob, isL_ob, isL_l, lk_self, lk_ne, put_ne, del_ne, ne_eq, not_false_eq_true, put_nil, put_self, del_nil, del_self, oLen_l, oLen_t, oLen_sc, oLen_s, oLen_ob, oIx_l, oIx_t, oIx_ob, at_0, at_1, at_2, ix_30, ix_31, ix_32, oSl_l, oSl_ob, oAll_l, mApp_ob, mPop_ob, mClear_ob, Option.some.injEq, Cl.lst.injEq, Option.bind_some, Option.map_some, exists_eq_left', exists_eq_left, Option.isSome_some, exists_eq_right, and_assoc, exists_and_left, Prod.mk.injEq, oSort, oSortSet, oLenSet, isB_self]
    by_cases h1 : (1 : Int) ≤ xs.length
    · simp only [sRet, sIf, sSeq, sAsg, sDrop, sNext, sNever, sCt, sPar, sFor, sWhile, dAnd, dOr, dNot, dCB, dCons, dNil, dVar, dC, dOp, dTst, dAndT, dOrT, dNotT, dIf, dLst, dTup, dCl, dLc, dYes, dSl, dNoPart, dPart, dRev, dNeg, dChain, dM, dCall, tName, tTupG, tConss, tNils, tSub, iL, iE, iZ, iR1, iR2, startG, wipeG, List.map_cons, List.map_nil, List.length_cons, List.length_nil, List.cons_append, List.nil_append, List.append_nil, List.getD_cons_zero, List.getD_cons_succ, List.set_cons_zero, List.set_cons_succ, List.replicate_succ, List.replicate_zero, Nat.reduceAdd, Nat.reduceSub, Nat.reduceLeDiff, Nat.zero_add, Nat.sub_zero, oB_bl, true_and, and_true, Bool.not_true, Bool.not_false, if_true, if_false, Bool.false_eq_true, reduceIte, mkD_f, oSub_i, oMod_i, oDiv_i, oPow_i, oAdd_i, oAdd_s, oAdd_t, oAdd_l, oMul_i, oMul_l, oLt_i, oLe_i, oGt_i, oGe_i, oMax2_i, oMin2_i, oAbs_i, oInt1_i, oInt1_b, oEq_i, oNe_i, oEq_b, oNe_b, oIsi_x, oIsN_d, oNotN_d, lsOf_l, lstOf_ob, seqOf_ob, lstOf_l, lstOf_s, seqOf_l, seqOf_s, seqOf_t, srcOf_l, srcOf_s, srcOf_ob, isL_ob, isL_l, lk_self, lk_ne, put_ne, del_ne, ne_eq, not_false_eq_true, put_nil, put_self, del_nil, del_self, oLen_l, oLen_t, oLen_sc, oLen_s, oLen_ob, oIx_l, oIx_t, oIx_ob, at_0, at_1, at_2, ix_30, ix_31, ix_32, oSl_l, oSl_ob, oAll_l, mApp_ob, mPop_ob, mClear_ob, Option.some.injEq, Cl.lst.injEq, Option.bind_some, Option.map_some, exists_eq_left', exists_eq_left, Option.isSome_some, exists_eq_right, and_assoc, exists_and_left, Prod.mk.injEq, oSort, oSortSet, oLenSet, h1, decide_true]
      by_cases h2 : (xs.length : Int) ≤ 12
      · simp only [sRet, sIf, sSeq, sAsg, sDrop, sNext, sNever, sCt, sPar, sFor, sWhile, dAnd, dOr, dNot, dCB, dCons, dNil, dVar, dC, dOp, dTst, dAndT, dOrT, dNotT, dIf, dLst, dTup, dCl, dLc, dYes, dSl, dNoPart, dPart, dRev, dNeg, dChain, dM, dCall, tName, tTupG, tConss, tNils, tSub, iL, iE, iZ, iR1, iR2, startG, wipeG, List.map_cons, List.map_nil, List.length_cons, List.length_nil, List.cons_append, List.nil_append, List.append_nil, List.getD_cons_zero, List.getD_cons_succ, List.set_cons_zero, List.set_cons_succ, List.replicate_succ, List.replicate_zero, Nat.reduceAdd, Nat.reduceSub, Nat.reduceLeDiff, Nat.zero_add, Nat.sub_zero, oB_bl, true_and, and_true, Bool.not_true, Bool.not_false, if_true, if_false, Bool.false_eq_true, reduceIte, mkD_f, oSub_i, oMod_i, oDiv_i, oPow_i, oAdd_i, oAdd_s, oAdd_t, oAdd_l, oMul_i, oMul_l, oLt_i, oLe_i, oGt_i, oGe_i, oMax2_i, oMin2_i, oAbs_i, oInt1_i, oInt1_b, oEq_i, oNe_i, oEq_b, oNe_b, oIsi_x, oIsN_d, oNotN_d, lsOf_l, lstOf_ob, seqOf_ob, lstOf_l, lstOf_s, seqOf_l, seqOf_s, seqOf_t, srcOf_l, srcOf_s, srcOf_ob, isL_ob, isL_l, lk_self, lk_ne, put_ne, del_ne, ne_eq, not_false_eq_true, put_nil, put_self, del_nil, del_self, oLen_l, oLen_t, oLen_sc, oLen_s, oLen_ob, oIx_l, oIx_t, oIx_ob, at_0, at_1, at_2, ix_30, ix_31, ix_32, oSl_l, oSl_ob, oAll_l, mApp_ob, mPop_ob, mClear_ob, Option.some.injEq, Cl.lst.injEq, Option.bind_some, Option.map_some, exists_eq_left', exists_eq_left, Option.isSome_some, exists_eq_right, and_assoc, exists_and_left, Prod.mk.injEq, oSort, oSortSet, oLenSet, h2, decide_true]
        refine lc_idx (fun i => [.bl (isRow (xs.getD i .non) i xs.length)]) (by rw [enumD_length]; exact Nat.le_trans hlen (by decide)) (keptN _) (fun i x hi P hP => ?_) ?_
        · obtain ⟨d, hd, rfl⟩ := enumD_at hi
          have hg : xs.getD i .non = d := by rw [List.getD_eq_getElem?_getD, hd]; rfl
          rw [hg] at hP
          simp only [sRet, sIf, sSeq, sAsg, sDrop, sNext, sNever, sCt, sPar, sFor, sWhile, dAnd, dOr, dNot, dCB, dCons, dNil, dVar, dC, dOp, dTst, dAndT, dOrT, dNotT, dIf, dLst, dTup, dCl, dLc, dYes, dSl, dNoPart, dPart, dRev, dNeg, dChain, dM, dCall, tName, tTupG, tConss, tNils, tSub, iL, iE, iZ, iR1, iR2, startG, wipeG, List.map_cons, List.map_nil, List.length_cons, List.length_nil, List.cons_append, List.nil_append, List.append_nil, List.getD_cons_zero, List.getD_cons_succ, List.set_cons_zero, List.set_cons_succ, List.replicate_succ, List.replicate_zero, Nat.reduceAdd, Nat.reduceSub, Nat.reduceLeDiff, Nat.zero_add, Nat.sub_zero, oB_bl, true_and, and_true, Bool.not_true, Bool.not_false, if_true, if_false, Bool.false_eq_true, reduceIte, mkD_f, oSub_i, oMod_i, oDiv_i, oPow_i, oAdd_i, oAdd_s, oAdd_t, oAdd_l, oMul_i, oMul_l, oLt_i, oLe_i, oGt_i, oGe_i, oMax2_i, oMin2_i, oAbs_i, oInt1_i, oInt1_b, oEq_i, oNe_i, oEq_b, oNe_b, oIsi_x, oIsN_d, oNotN_d, lsOf_l, lstOf_ob, seqOf_ob, lstOf_l, lstOf_s, seqOf_l, seqOf_s, seqOf_t, srcOf_l, srcOf_s, srcOf_ob, isL_ob, isL_l, lk_self, lk_ne, put_ne, del_ne, ne_eq, not_false_eq_true, put_nil, put_self, del_nil, del_self, oLen_l, oLen_t, oLen_sc, oLen_s, oLen_ob, oIx_l, oIx_t, oIx_ob, at_0, at_1, at_2, ix_30, ix_31, ix_32, oSl_l, oSl_ob, oAll_l, mApp_ob, mPop_ob, mClear_ob, Option.some.injEq, Cl.lst.injEq, Option.bind_some, Option.map_some, exists_eq_left', exists_eq_left, Option.isSome_some, exists_eq_right, and_assoc, exists_and_left, Prod.mk.injEq, oSort, oSortSet, oLenSet]
          exact ⟨[], r, .refl _, d, _, _, rfl, by omega, hty d (List.mem_of_getElem? hd), r, .refl r, rfl, hP⟩
        · simp only [sRet, sIf, sSeq, sAsg, sDrop, sNext, sNever, sCt, sPar, sFor, sWhile, dAnd, dOr, dNot, dCB, dCons, dNil, dVar, dC, dOp, dTst, dAndT, dOrT, dNotT, dIf, dLst, dTup, dCl, dLc, dYes, dSl, dNoPart, dPart, dRev, dNeg, dChain, dM, dCall, tName, tTupG, tConss, tNils, tSub, iL, iE, iZ, iR1, iR2, startG, wipeG, List.map_cons, List.map_nil, List.length_cons, List.length_nil, List.cons_append, List.nil_append, List.append_nil, List.getD_cons_zero, List.getD_cons_succ, List.set_cons_zero, List.set_cons_succ, List.replicate_succ, List.replicate_zero, Nat.reduceAdd, Nat.reduceSub, Nat.reduceLeDiff, Nat.zero_add, Nat.sub_zero, oB_bl, true_and, and_true, Bool.not_true, Bool.not_false, if_true, if_false, Bool.false_eq_true, reduceIte, mkD_f, oSub_i, oMod_i, oDiv_i, oPow_i, oAdd_i, oAdd_s, oAdd_t, oAdd_l, oMul_i, oMul_l, oLt_i, oLe_i, oGt_i, oGe_i, oMax2_i, oMin2_i, oAbs_i, oInt1_i, oInt1_b, oEq_i, oNe_i, oEq_b, oNe_b, oIsi_x, oIsN_d, oNotN_d, lsOf_l, lstOf_ob, seqOf_ob, lstOf_l, lstOf_s, seqOf_l, seqOf_s, seqOf_t, srcOf_l, srcOf_s, srcOf_ob, isL_ob, isL_l, lk_self, lk_ne, put_ne, del_ne, ne_eq, not_false_eq_true, put_nil, put_self, del_nil, del_self, oLen_l, oLen_t, oLen_sc, oLen_s, oLen_ob, oIx_l, oIx_t, oIx_ob, at_0, at_1, at_2, ix_30, ix_31, ix_32, oSl_l, oSl_ob, oAll_l, mApp_ob, mPop_ob, mClear_ob, Option.some.injEq, Cl.lst.injEq, Option.bind_some, Option.map_some, exists_eq_left', exists_eq_left, Option.isSome_some, exists_eq_right, and_assoc, exists_and_left, Prod.mk.injEq, oSort, oSortSet, oLenSet]
          have e0 : ∀ (f : Nat → Bool) (l : List Nat), (l.flatMap fun i => [D.bl (f i)]) = (l.map f).map D.bl := fun f l => by
            induction l with
            | nil => rfl
            | cons a l ih => simp [List.flatMap_cons, ih]
          refine ⟨(List.range xs.length).map fun i => isRow (xs.getD i .non) i xs.length, by simp only [enumD_length, e0], ?_⟩
          refine fin _ ?_
          have a1 : 1 ≤ xs.length := by omega
          have a2 : xs.length ≤ 12 := by omega
          simp only [isSite, a1, a2, decide_true, Bool.true_and, List.all_map, Function.comp_def, id]
      · simp only [sRet, sIf, sSeq, sAsg, sDrop, sNext, sNever, sCt, sPar, sFor, sWhile, dAnd, dOr, dNot, dCB, dCons, dNil, dVar, dC, dOp, dTst, dAndT, dOrT, dNotT, dIf, dLst, dTup, dCl, dLc, dYes, dSl, dNoPart, dPart, dRev, dNeg, dChain, dM, dCall, tName, tTupG, tConss, tNils, tSub, iL, iE, iZ, iR1, iR2, startG, wipeG, List.map_cons, List.map_nil, List.length_cons, List.length_nil, List.cons_append, List.nil_append, List.append_nil, List.getD_cons_zero, List.getD_cons_succ, List.set_cons_zero, List.set_cons_succ, List.replicate_succ, List.replicate_zero, Nat.reduceAdd, Nat.reduceSub, Nat.reduceLeDiff, Nat.zero_add, Nat.sub_zero, oB_bl, true_and, and_true, Bool.not_true, Bool.not_false, if_true, if_false, Bool.false_eq_true, reduceIte, mkD_f, oSub_i, oMod_i, oDiv_i, oPow_i, oAdd_i, oAdd_s, oAdd_t, oAdd_l, oMul_i, oMul_l, oLt_i, oLe_i, oGt_i, oGe_i, oMax2_i, oMin2_i, oAbs_i, oInt1_i, oInt1_b, oEq_i, oNe_i, oEq_b, oNe_b, oIsi_x, oIsN_d, oNotN_d, lsOf_l, lstOf_ob, seqOf_ob, lstOf_l, lstOf_s, seqOf_l, seqOf_s, seqOf_t, srcOf_l, srcOf_s, srcOf_ob, isL_ob, isL_l, lk_self, lk_ne, put_ne, del_ne, ne_eq, not_false_eq_true, put_nil, put_self, del_nil, del_self, oLen_l, oLen_t, oLen_sc, oLen_s, oLen_ob, oIx_l, oIx_t, oIx_ob, at_0, at_1, at_2, ix_30, ix_31, ix_32, oSl_l, oSl_ob, oAll_l, mApp_ob, mPop_ob, mClear_ob, Option.some.injEq, Cl.lst.injEq, Option.bind_some, Option.map_some, exists_eq_left', exists_eq_left, Option.isSome_some, exists_eq_right, and_assoc, exists_and_left, Prod.mk.injEq, oSort, oSortSet, oLenSet, h2, decide_false]
        have a2 : ¬ xs.length ≤ 12 := by omega
        exact fin _ (by simp [isSite, a2])
    · simp only [sRet, sIf, sSeq, sAsg, sDrop, sNext, sNever, sCt, sPar, sFor, sWhile, dAnd, dOr, dNot, dCB, dCons, dNil, dVar, dC, dOp, dTst, dAndT, dOrT, dNotT, dIf, dLst, dTup, dCl, dLc, dYes, dSl, dNoPart, dPart, dRev, dNeg, dChain, dM, dCall, tName, tTupG, tConss, tNils, tSub, iL, iE, iZ, iR1, iR2, startG, wipeG, List.map_cons, List.map_nil, List.length_cons, List.length_nil, List.cons_append, List.nil_append, List.append_nil, List.getD_cons_zero, List.getD_cons_succ, List.set_cons_zero, List.set_cons_succ, List.replicate_succ, List.replicate_zero, Nat.reduceAdd, Nat.reduceSub, Nat.reduceLeDiff, Nat.zero_add, Nat.sub_zero, oB_bl, true_and, and_true, Bool.not_true, Bool.not_false, if_true, if_false, Bool.false_eq_true, reduceIte, mkD_f, oSub_i, oMod_i, oDiv_i, oPow_i, oAdd_i, oAdd_s, oAdd_t, oAdd_l, oMul_i, oMul_l, oLt_i, oLe_i, oGt_i, oGe_i, oMax2_i, oMin2_i, oAbs_i, oInt1_i, oInt1_b, oEq_i, oNe_i, oEq_b, oNe_b, oIsi_x, oIsN_d, oNotN_d, lsOf_l, lstOf_ob, seqOf_ob, lstOf_l, lstOf_s, seqOf_l, seqOf_s, seqOf_t, srcOf_l, srcOf_s, srcOf_ob, isL_ob, isL_l, lk_self, lk_ne, put_ne, del_ne, ne_eq, not_false_eq_true, put_nil, put_self, del_nil, del_self, oLen_l, oLen_t, oLen_sc, oLen_s, oLen_ob, oIx_l, oIx_t, oIx_ob, at_0, at_1, at_2, ix_30, ix_31, ix_32, oSl_l, oSl_ob, oAll_l, mApp_ob, mPop_ob, mClear_ob, Option.some.injEq, Cl.lst.injEq, Option.bind_some, Option.map_some, exists_eq_left', exists_eq_left, Option.isSome_some, exists_eq_right, and_assoc, exists_and_left, Prod.mk.injEq, oSort, oSortSet, oLenSet, h1, decide_false]
      have a1 : ¬ 1 ≤ xs.length := by omega
      exact fin _ (by simp [isSite, a1])
  · have hf : isSite d = false := by cases d <;> first | rfl | (simp [ty0] at ht0; exact absurd ht0.symm hl)
    simp only [sRet, sIf, sSeq, sAsg, sDrop, sNext, sNever, sCt, sPar, sFor, sWhile, dAnd, dOr, dNot, dCB, dCons, dNil, dVar, dC, dOp, dTst, dAndT, dOrT, dNotT, dIf, dLst, dTup, dCl, dLc, dYes, dSl, dNoPart, dPart, dRev, dNeg, dChain, dM, dCall, tName, tTupG, tConss, tNils, tSub, iL, iE, iZ, iR1, iR2, startG, wipeG, List.map_cons, List.map_nil, List.length_cons, List.length_nil, List.cons_append, List.nil_append, List.append_nil, List.getD_cons_zero, List.getD_cons_succ, List.set_cons_zero, List.set_cons_succ, List.replicate_succ, List.replicate_zero, Nat.reduceAdd, Nat.reduceSub, Nat.reduceLeDiff, Nat.zero_add, Nat.sub_zero, oB_bl, true_and, and_true, Bool.not_true, Bool.not_false, if_true, if_false, Bool.false_eq_true, reduceIte, mkD_f, oSub_i, oMod_i, oDiv_i, oPow_i, oAdd_i, oAdd_s, oAdd_t, oAdd_l, oMul_i, oMul_l, oLt_i, oLe_i, oGt_i, oGe_i, oMax2_i, oMin2_i, oAbs_i, oInt1_i, oInt1_b, oEq_i, oNe_i, oEq_b, oNe_b, oIsi_x, oIsN_d, oNotN_d, lsOf_l, lstOf_ob, seqOf_ob, lstOf_l, lstOf_s, seqOf_l, seqOf_s, seqOf_t, srcOf_l, srcOf_s, srcOf_ob, isL_ob, isL_l, lk_self, lk_ne, put_ne, del_ne, ne_eq, not_false_eq_true, put_nil, put_self, del_nil, del_self, oLen_l, oLen_t, oLen_sc, oLen_s, oLen_ob, oIx_l, oIx_t, oIx_ob, at_0, at_1, at_2, ix_30, ix_31, ix_32, oSl_l, oSl_ob, oAll_l, mApp_ob, mPop_ob, mClear_ob, Option.some.injEq, Cl.lst.injEq, Option.bind_some, Option.map_some, exists_eq_left', exists_eq_left, Option.isSome_some, exists_eq_right, and_assoc, exists_and_left, Prod.mk.injEq, oSort, oSortSet, oLenSet, isB_list hl]
    exact fin _ hf
theorem d_check_site : Does b_check_site N_check_site sp_check_site := by
  rintro r ds Q ⟨d, rfl, h, hs, q⟩
  simp only [sRet, sIf, sSeq, sAsg, sDrop, sNext, sNever, sCt, sPar, sFor, sWhile, dAnd, dOr, dNot, dCB, dCons, dNil, dVar, dC, dOp, dTst, dAndT, dOrT, dNotT, dIf, dLst, dTup, dCl, dLc, dYes, dSl, dNoPart, dPart, dRev, dNeg, dChain, dM, dCall, tName, tTupG, tConss, tNils, tSub, iL, iE, iZ, iR1, iR2, startG, wipeG, List.map_cons, List.map_nil, List.length_cons, List.length_nil, List.cons_append, List.nil_append, List.append_nil, List.getD_cons_zero, List.getD_cons_succ, List.set_cons_zero, List.set_cons_succ, List.replicate_succ, List.replicate_zero, Nat.reduceAdd, Nat.reduceSub, Nat.reduceLeDiff, Nat.zero_add, Nat.sub_zero, oB_bl, true_and, and_true, Bool.not_true, Bool.not_false, if_true, if_false, Bool.false_eq_true, reduceIte, mkD_f, oSub_i, oMod_i, oDiv_i, oPow_i, oAdd_i, oAdd_s, oAdd_t, oAdd_l, oMul_i, oMul_l, oLt_i, oLe_i, oGt_i, oGe_i, oMax2_i, oMin2_i, oAbs_i, oInt1_i, oInt1_b, oEq_i, oNe_i, oEq_b, oNe_b, oIsi_x, oIsN_d, oNotN_d, lsOf_l, lstOf_ob, seqOf_ob, lstOf_l, lstOf_s, seqOf_l, seqOf_s, seqOf_t, srcOf_l, srcOf_s, srcOf_ob, isL_ob, isL_l, lk_self, lk_ne, put_ne, del_ne, ne_eq, not_false_eq_true, put_nil, put_self, del_nil, del_self, oLen_l, oLen_t, oLen_sc, oLen_s, oLen_ob, oIx_l, oIx_t, oIx_ob, at_0, at_1, at_2, ix_30, ix_31, ix_32, oSl_l, oSl_ob, oAll_l, mApp_ob, mPop_ob, mClear_ob, Option.some.injEq, Cl.lst.injEq, Option.bind_some, Option.map_some, exists_eq_left', exists_eq_left, Option.isSome_some, exists_eq_right, and_assoc, exists_and_left, Prod.mk.injEq, oSort, oSortSet, oLenSet, b_check_site, N_check_site]
  refine ⟨[], r, .refl _, d, rfl, h, ?_⟩
  rw [hs]
  simp only [sRet, sIf, sSeq, sAsg, sDrop, sNext, sNever, sCt, sPar, sFor, sWhile, dAnd, dOr, dNot, dCB, dCons, dNil, dVar, dC, dOp, dTst, dAndT, dOrT, dNotT, dIf, dLst, dTup, dCl, dLc, dYes, dSl, dNoPart, dPart, dRev, dNeg, dChain, dM, dCall, tName, tTupG, tConss, tNils, tSub, iL, iE, iZ, iR1, iR2, startG, wipeG, List.map_cons, List.map_nil, List.length_cons, List.length_nil, List.cons_append, List.nil_append, List.append_nil, List.getD_cons_zero, List.getD_cons_succ, List.set_cons_zero, List.set_cons_succ, List.replicate_succ, List.replicate_zero, Nat.reduceAdd, Nat.reduceSub, Nat.reduceLeDiff, Nat.zero_add, Nat.sub_zero, oB_bl, true_and, and_true, Bool.not_true, Bool.not_false, if_true, if_false, Bool.false_eq_true, reduceIte, mkD_f, oSub_i, oMod_i, oDiv_i, oPow_i, oAdd_i, oAdd_s, oAdd_t, oAdd_l, oMul_i, oMul_l, oLt_i, oLe_i, oGt_i, oGe_i, oMax2_i, oMin2_i, oAbs_i, oInt1_i, oInt1_b, oEq_i, oNe_i, oEq_b, oNe_b, oIsi_x, oIsN_d, oNotN_d, lsOf_l, lstOf_ob, seqOf_ob, lstOf_l, lstOf_s, seqOf_l, seqOf_s, seqOf_t, srcOf_l, srcOf_s, srcOf_ob, isL_ob, isL_l, lk_self, lk_ne, put_ne, del_ne, ne_eq, not_false_eq_true, put_nil, put_self, del_nil, del_self, oLen_l, oLen_t, oLen_sc, oLen_s, oLen_ob, oIx_l, oIx_t, oIx_ob, at_0, at_1, at_2, ix_30, ix_31, ix_32, oSl_l, oSl_ob, oAll_l, mApp_ob, mPop_ob, mClear_ob, Option.some.injEq, Cl.lst.injEq, Option.bind_some, Option.map_some, exists_eq_left', exists_eq_left, Option.isSome_some, exists_eq_right, and_assoc, exists_and_left, Prod.mk.injEq, oSort, oSortSet, oLenSet]
  exact ⟨r, .refl r, q⟩

/-! ### walks -/
theorem netD_get {net : List (List Int)} {i : Nat} {row : List Int} (h : net[i]? = some row) : (net.map fun row => D.lst (row.map .int))[i]? = some (.lst (row.map .int)) := by rw [List.getElem?_map, h]; rfl
theorem ixN_ok {n : Nat} {i : Int} (h : 0 ≤ i) (h2 : i < n) : L2.ixN n i = some i.toNat := by
  unfold L2.ixN
  rw [if_pos h, if_pos h2]
theorem atI_ok {α : Type} {xs : List α} {i : Int} {x : α} (h : 0 ≤ i) (e : xs[i.toNat]? = some x) : L2.atI xs i = some x := by
  have hl : i.toNat < xs.length := by
    by_cases z : i.toNat < xs.length
    · exact z
    · rw [List.getElem?_eq_none (by omega)] at e; cases e
  unfold L2.atI
  rw [ixN_ok h (by omega)]
  exact e
theorem toPs_len : ∀ {ds : List D} {qs : List PyData}, toPs ds = some qs → qs.length = ds.length
  | [], _, h => by simp [toPs] at h; subst h; rfl
  | d :: ds, qs, h => by
    unfold toPs at h
    cases e1 : toP d with
    | none => rw [e1] at h; cases h
    | some q =>
      cases e2 : toPs ds with
      | none => rw [e1, e2] at h; cases h
      | some qs' =>
        rw [e1, e2] at h
        cases h
        simp [toPs_len e2]
theorem eqv_nil : ∀ qs : List PyData, PyData.eqvAll qs [] = decide (qs.length = 0)
  | [] => by simp [PyData.eqvAll]
  | _ :: _ => by simp [PyData.eqvAll]
theorem shaped_nil : SeqAt.shaped (.list []) = true := shaped_ints []
/-- xs == [] -/
theorem oEq_nil {neg : Bool} {xs : List D} {r : R} {Q : R → D → Prop} (h : ∃ q, toP (.lst xs) = some q ∧ SeqAt.shaped q = true) (q : Q r (.bl (if neg then !decide (xs = []) else decide (xs = [])))) : oEq neg (.lst xs) (.lst []) r Q := by
  obtain ⟨p, hp, hs⟩ := h
  have hp' := hp
  simp only [toP, Option.map_eq_some_iff] at hp
  obtain ⟨qs, e1, rfl⟩ := hp
  refine ⟨_, .list [], hp', by simp [toPR, toP, toPs], hs, shaped_nil, ?_⟩
  have : PyData.eqv (.list qs) (.list []) = decide (xs = []) := by
    simp only [PyData.eqv, eqv_nil, toPs_len e1]
    cases xs <;> simp
  rw [this]
  exact q
theorem shapedP_ints (ns : List Int) : ∃ q, toP (.lst (ns.map D.int)) = some q ∧ SeqAt.shaped q = true := ⟨_, by simp [toP, toPs_ints], shaped_ints ns⟩
theorem cutL_from {α : Type} (xs : List α) {i : Int} (h : 0 ≤ i) : cutL xs (some i) none = xs.drop i.toNat := by
  unfold cutL
  rw [HT.sIx_none]
  show ((xs.drop (if i < 0 then (i + (xs.length : Int)).toNat else min i.toNat xs.length)).take (xs.length - (if i < 0 then (i + (xs.length : Int)).toNat else min i.toNat xs.length))) = _
  rw [if_neg (by omega)]
  by_cases e : i.toNat ≤ xs.length
  · rw [Nat.min_eq_left e, List.take_of_length_le (by simp)]
  · rw [Nat.min_eq_right (by omega), List.drop_eq_nil_of_le (by omega), List.drop_eq_nil_of_le (by omega)]; simp
theorem cutL_to {α : Type} (xs : List α) {i : Int} (h : 0 ≤ i) : cutL xs none (some i) = xs.take i.toNat := by
  unfold cutL
  rw [HT.sIx_none]
  show ((xs.drop 0).take ((if i < 0 then (i + (xs.length : Int)).toNat else min i.toNat xs.length) - 0)) = _
  rw [if_neg (by omega), List.drop_zero, Nat.sub_zero]
  by_cases e : i.toNat ≤ xs.length
  · rw [Nat.min_eq_left e]
  · rw [Nat.min_eq_right (by omega), List.take_of_length_le (Nat.le_refl _), List.take_of_length_le (by omega)]
theorem zipD_ints : ∀ a b : List Int, zipD (a.map D.int) (b.map D.int) = (a.zip b).map fun p => .tup [.int p.1, .int p.2]
  | [], _ => by simp [zipD]
  | _ :: _, [] => by simp [zipD]
  | x :: a, y :: b => by simp [zipD, zipD_ints a b]
def linkF (net : List (List Int)) : D → D
  | .tup [.int a, .int b] => .bl (decide (b ∈ net.getD a.toNat []))
  | _ => .non
theorem d_is_linked_on : Does b_is_linked_on N_is_linked_on sp_is_linked_on := by
  rintro r ds Q ⟨net, v, rfl, hn, ⟨ht, hx⟩, q⟩
  obtain ⟨t, ht0⟩ := ty0_ex ht
  have htr := tyn_of0 (r := r) ht0
  have fin : ∀ b, linkedB net v = b → ∃ r'', Sub r'' r ∧ Q r'' (.bl b) := fun b hb => ⟨r, .refl r, hb ▸ q⟩
  simp only [sRet, sIf, sSeq, sAsg, sDrop, sNext, sNever, sCt, sPar, sFor, sWhile, dAnd, dOr, dNot, dCB, dCons, dNil, dVar, dC, dOp, dTst, dAndT, dOrT, dNotT, dIf, dLst, dTup, dCl, dLc, dYes, dSl, dNoPart, dPart, dRev, dNeg, dChain, dM, dCall, tName, tTupG, tConss, tNils, tSub, iL, iE, iZ, iR1, iR2, startG, wipeG, List.map_cons, List.map_nil, List.length_cons, List.length_nil, List.cons_append, List.nil_append, List.append_nil, List.getD_cons_zero, List.getD_cons_succ, List.set_cons_zero, List.set_cons_succ, List.replicate_succ, List.replicate_zero, Nat.reduceAdd, Nat.reduceSub, Nat.reduceLeDiff, Nat.zero_add, Nat.sub_zero, oB_bl, true_and, and_true, Bool.not_true, Bool.not_false, if_true, if_false, Bool.false_eq_true, reduceIte, mkD_f, oSub_i, oMod_i, oDiv_i, oPow_i, oAdd_i, oAdd_s, oAdd_t, oAdd_l, oMul_i, oMul_l, oLt_i, oLe_i, oGt_i, oGe_i, oMax2_i, oMin2_i, oAbs_i, oInt1_i, oInt1_b, oEq_i, oNe_i, oEq_b, oNe_b, oIsi_x, oIsN_d, oNotN_d, lsOf_l, lstOf_ob, seqOf_ob, lstOf_l, lstOf_s, seqOf_l, seqOf_s, seqOf_t, srcOf_l, srcOf_s, srcOf_ob, isL_ob, isL_l, lk_self, lk_ne, put_ne, del_ne, ne_eq, not_false_eq_true, put_nil, put_self, del_nil, del_self, oLen_l, oLen_t, oLen_sc, oLen_s, oLen_ob, oIx_l, oIx_t, oIx_ob, at_0, at_1, at_2, ix_30, ix_31, ix_32, oSl_l, oSl_ob, oAll_l, mApp_ob, mPop_ob, mClear_ob, Option.some.injEq, Cl.lst.injEq, Option.bind_some, Option.map_some, exists_eq_left', exists_eq_left, Option.isSome_some, exists_eq_right, and_assoc, exists_and_left, Prod.mk.injEq, oSort, oSortSet, oLenSet, b_is_linked_on, N_is_linked_on, htr, Option.some.injEq, exists_eq_left', mem_list, netD]
  by_cases hl : t = "list"
  · subst hl
    obtain ⟨xs, rfl⟩ := ty0_list ht0
    obtain ⟨hlen, hty, hq⟩ := hx xs rfl
    simp only [sRet, sIf, sSeq, sAsg, sDrop, sNext, sNever, sCt, sPar, sFor, sWhile, dAnd, dOr, dNot, dCB, dCons, dNil, dVar, dC, dOp, dTst, dAndT, dOrT, dNotT, dIf, dLst, dTup, dCl, dLc, dYes, dSl, dNoPart, dPart, dRev, dNeg, dChain, dM, dCall, tName, tTupG, tConss, tNils, tSub, iL, iE, iZ, iR1, iR2, startG, wipeG, List.map_cons, List.map_nil, List.length_cons, List.length_nil, List.cons_append, List.nil_append, List.append_nil, List.getD_cons_zero, List.getD_cons_succ, List.set_cons_zero, List.set_cons_succ, List.replicate_succ, List.replicate_zero, Nat.reduceAdd, Nat.reduceSub, Nat.reduceLeDiff, Nat.zero_add, Nat.sub_zero, oB_bl, true_and, and_true, Bool.not_true, Bool.not_false, if_true, if_false, Bool.false_eq_true, reduceIte, mkD_f, oSub_i, oMod_i, oDiv_i, oPow_i, oAdd_i, oAdd_s, oAdd_t, oAdd_l, oMul_i, oMul_l, oLt_i, oLe_i, oGt_i, oGe_i, oMax2_i, oMin2_i, oAbs_i, oInt1_i, oInt1_b, oEq_i, oNe_i, oEq_b, oNe_b, oIsi_x, oIsN_d, oNotN_d, lsOf_l, lstOf_ob, seqOf_ob, lstOf_l, lstOf_s, seqOf_l, seqOf_s, seqOf_t, srcOf_l, srcOf_s, srcOf_ob, isL_ob, isL_l, lk_self, lk_ne, put_ne, del_ne, ne_eq, not_false_eq_true, put_nil, put_self, del_nil, del_self, oLen_l, oLen_t, oLen_sc, oLen_s, oLen_ob, oIx_l, oIx_t, oIx_ob, at_0, at_1, at_2, ix_30, ix_31, ix_32, oSl_l, oSl_ob, oAll_l, mApp_ob, mPop_ob, mClear_ob, Option.some.injEq, Cl.lst.injEq, Option.bind_some, Option.map_some, exists_eq_left', exists_eq_left, Option.isSome_some, exists_eq_right, and_assoc, exists_and_left, Prod.mk.injEq, oSort, oSortSet, oLenSet, isB_self]
    refine ⟨by decide, oEq_nil hq ?_⟩
    by_cases he : xs = []
    · subst he
      simp only [sRet, sIf, sSeq, sAsg, sDrop, sNext, sNever, sCt, sPar, sFor, sWhile, dAnd, dOr, dNot, dCB, dCons, dNil, dVar, dC, dOp, dTst, dAndT, dOrT, dNotT, dIf, dLst, dTup, dCl, dLc, dYes, dSl, dNoPart, dPart, dRev, dNeg, dChain, dM, dCall, tName, tTupG, tConss, tNils, tSub, iL, iE, iZ, iR1, iR2, startG, wipeG, List.map_cons, List.map_nil, List.length_cons, List.length_nil, List.cons_append, List.nil_append, List.append_nil, List.getD_cons_zero, List.getD_cons_succ, List.set_cons_zero, List.set_cons_succ, List.replicate_succ, List.replicate_zero, Nat.reduceAdd, Nat.reduceSub, Nat.reduceLeDiff, Nat.zero_add, Nat.sub_zero, oB_bl, true_and, and_true, Bool.not_true, Bool.not_false, if_true, if_false, Bool.false_eq_true, reduceIte, mkD_f, oSub_i, oMod_i, oDiv_i, oPow_i, oAdd_i, oAdd_s, oAdd_t, oAdd_l, oMul_i, oMul_l, oLt_i, oLe_i, oGt_i, oGe_i, oMax2_i, oMin2_i, oAbs_i, oInt1_i, oInt1_b, oEq_i, oNe_i, oEq_b, oNe_b, oIsi_x, oIsN_d, oNotN_d, lsOf_l, lstOf_ob, seqOf_ob, lstOf_l, lstOf_s, seqOf_l, seqOf_s, seqOf_t, srcOf_l, srcOf_s, srcOf_ob, isL_ob, isL_l, lk_self, lk_ne, put_ne, del_ne, ne_eq, not_false_eq_true, put_nil, put_self, del_nil, del_self, oLen_l, oLen_t, oLen_sc, oLen_s, oLen_ob, oIx_l, oIx_t, oIx_ob, at_0, at_1, at_2, ix_30, ix_31, ix_32, oSl_l, oSl_ob, oAll_l, mApp_ob, mPop_ob, mClear_ob, Option.some.injEq, Cl.lst.injEq, Option.bind_some, Option.map_some, exists_eq_left', exists_eq_left, Option.isSome_some, exists_eq_right, and_assoc, exists_and_left, Prod.mk.injEq, oSort, oSortSet, oLenSet, decide_true]
      exact fin _ rfl
    · simp only [sRet, sIf, sSeq, sAsg, sDrop, sNext, sNever, sCt, sPar, sFor, sWhile, dAnd, dOr, dNot, dCB, dCons, dNil, dVar, dC, dOp, dTst, dAndT, dOrT, dNotT, dIf, dLst, dTup, dCl, dLc, dYes, dSl, dNoPart, dPart, dRev, dNeg, dChain, dM, dCall, tName, tTupG, tConss, tNils, tSub, iL, iE, iZ, iR1, iR2, startG, wipeG, List.map_cons, List.map_nil, List.length_cons, List.length_nil, List.cons_append, List.nil_append, List.append_nil, List.getD_cons_zero, List.getD_cons_succ, List.set_cons_zero, List.set_cons_succ, List.replicate_succ, List.replicate_zero, Nat.reduceAdd, Nat.reduceSub, Nat.reduceLeDiff, Nat.zero_add, Nat.sub_zero, oB_bl, true_and, and_true, Bool.not_true, Bool.not_false, if_true, if_false, Bool.false_eq_true, reduceIte, mkD_f, oSub_i, oMod_i, oDiv_i, oPow_i, oAdd_i, oAdd_s, oAdd_t, oAdd_l, oMul_i, oMul_l, oLt_i, oLe_i, oGt_i, oGe_i, oMax2_i, oMin2_i, oAbs_i, oInt1_i, oInt1_b, oEq_i, oNe_i, oEq_b, oNe_b, oIsi_x, oIsN_d, oNotN_d, lsOf_l, lstOf_ob, seqOf_ob, lstOf_l, lstOf_s, seqOf_l, seqOf_s, seqOf_t, srcOf_l, srcOf_s, srcOf_ob, isL_ob, isL_l, lk_self, lk_ne, put_ne, del_ne, ne_eq, not_false_eq_true, put_nil, put_self, del_nil, del_self, oLen_l, oLen_t, oLen_sc, oLen_s, oLen_ob, oIx_l, oIx_t, oIx_ob, at_0, at_1, at_2, ix_30, ix_31, ix_32, oSl_l, oSl_ob, oAll_l, mApp_ob, mPop_ob, mClear_ob, Option.some.injEq, Cl.lst.injEq, Option.bind_some, Option.map_some, exists_eq_left', exists_eq_left, Option.isSome_some, exists_eq_right, and_assoc, exists_and_left, Prod.mk.injEq, oSort, oSortSet, oLenSet, he, decide_false]
      refine lc_map (fun x => .bl (isInt x 0 (net.length - 1))) (Nat.le_trans hlen (by decide)) (keptN _) (fun d hd P hP => ?_) ?_
      · simp only [sRet, sIf, sSeq, sAsg, sDrop, sNext, sNever, sCt, sPar, sFor, sWhile, dAnd, dOr, dNot, dCB, dCons, dNil, dVar, dC, dOp, dTst, dAndT, dOrT, dNotT, dIf, dLst, dTup, dCl, dLc, dYes, dSl, dNoPart, dPart, dRev, dNeg, dChain, dM, dCall, tName, tTupG, tConss, tNils, tSub, iL, iE, iZ, iR1, iR2, startG, wipeG, List.map_cons, List.map_nil, List.length_cons, List.length_nil, List.cons_append, List.nil_append, List.append_nil, List.getD_cons_zero, List.getD_cons_succ, List.set_cons_zero, List.set_cons_succ, List.replicate_succ, List.replicate_zero, Nat.reduceAdd, Nat.reduceSub, Nat.reduceLeDiff, Nat.zero_add, Nat.sub_zero, oB_bl, true_and, and_true, Bool.not_true, Bool.not_false, if_true, if_false, Bool.false_eq_true, reduceIte, mkD_f, oSub_i, oMod_i, oDiv_i, oPow_i, oAdd_i, oAdd_s, oAdd_t, oAdd_l, oMul_i, oMul_l, oLt_i, oLe_i, oGt_i, oGe_i, oMax2_i, oMin2_i, oAbs_i, oInt1_i, oInt1_b, oEq_i, oNe_i, oEq_b, oNe_b, oIsi_x, oIsN_d, oNotN_d, lsOf_l, lstOf_ob, seqOf_ob, lstOf_l, lstOf_s, seqOf_l, seqOf_s, seqOf_t, srcOf_l, srcOf_s, srcOf_ob, isL_ob, isL_l, lk_self, lk_ne, put_ne, del_ne, ne_eq, not_false_eq_true, put_nil, put_self, del_nil, del_self, oLen_l, oLen_t, oLen_sc, oLen_s, oLen_ob, oIx_l, oIx_t, oIx_ob, at_0, at_1, at_2, ix_30, ix_31, ix_32, oSl_l, oSl_ob, oAll_l, mApp_ob, mPop_ob, mClear_ob, Option.some.injEq, Cl.lst.injEq, Option.bind_some, Option.map_some, exists_eq_left', exists_eq_left, Option.isSome_some, exists_eq_right, and_assoc, exists_and_left, Prod.mk.injEq, oSort, oSortSet, oLenSet]
        rw [List.length_map]
        exact ⟨[], r, .refl _, d, _, _, rfl, hty d hd, r, .refl r, rfl, hP⟩
      · simp only [sRet, sIf, sSeq, sAsg, sDrop, sNext, sNever, sCt, sPar, sFor, sWhile, dAnd, dOr, dNot, dCB, dCons, dNil, dVar, dC, dOp, dTst, dAndT, dOrT, dNotT, dIf, dLst, dTup, dCl, dLc, dYes, dSl, dNoPart, dPart, dRev, dNeg, dChain, dM, dCall, tName, tTupG, tConss, tNils, tSub, iL, iE, iZ, iR1, iR2, startG, wipeG, List.map_cons, List.map_nil, List.length_cons, List.length_nil, List.cons_append, List.nil_append, List.append_nil, List.getD_cons_zero, List.getD_cons_succ, List.set_cons_zero, List.set_cons_succ, List.replicate_succ, List.replicate_zero, Nat.reduceAdd, Nat.reduceSub, Nat.reduceLeDiff, Nat.zero_add, Nat.sub_zero, oB_bl, true_and, and_true, Bool.not_true, Bool.not_false, if_true, if_false, Bool.false_eq_true, reduceIte, mkD_f, oSub_i, oMod_i, oDiv_i, oPow_i, oAdd_i, oAdd_s, oAdd_t, oAdd_l, oMul_i, oMul_l, oLt_i, oLe_i, oGt_i, oGe_i, oMax2_i, oMin2_i, oAbs_i, oInt1_i, oInt1_b, oEq_i, oNe_i, oEq_b, oNe_b, oIsi_x, oIsN_d, oNotN_d, lsOf_l, lstOf_ob, seqOf_ob, lstOf_l, lstOf_s, seqOf_l, seqOf_s, seqOf_t, srcOf_l, srcOf_s, srcOf_ob, isL_ob, isL_l, lk_self, lk_ne, put_ne, del_ne, ne_eq, not_false_eq_true, put_nil, put_self, del_nil, del_self, oLen_l, oLen_t, oLen_sc, oLen_s, oLen_ob, oIx_l, oIx_t, oIx_ob, at_0, at_1, at_2, ix_30, ix_31, ix_32, oSl_l, oSl_ob, oAll_l, mApp_ob, mPop_ob, mClear_ob, Option.some.injEq, Cl.lst.injEq, Option.bind_some, Option.map_some, exists_eq_left', exists_eq_left, Option.isSome_some, exists_eq_right, and_assoc, exists_and_left, Prod.mk.injEq, oSort, oSortSet, oLenSet]
        refine ⟨xs.map fun x => isInt x 0 (net.length - 1), by simp [Function.comp_def], ?_⟩
        have e : (xs.map fun x => isInt x 0 (net.length - 1)).all id = xs.all fun x => isInt x 0 (net.length - 1) := by simp [List.all_map, Function.comp_def]
        rw [e]
        by_cases ha : (xs.all fun x => isInt x 0 (net.length - 1)) = true
        · obtain ⟨ns, rfl, hr⟩ := ints_of_all ha
          simp only [sRet, sIf, sSeq, sAsg, sDrop, sNext, sNever, sCt, sPar, sFor, sWhile, dAnd, dOr, dNot, dCB, dCons, dNil, dVar, dC, dOp, dTst, dAndT, dOrT, dNotT, dIf, dLst, dTup, dCl, dLc, dYes, dSl, dNoPart, dPart, dRev, dNeg, dChain, dM, dCall, tName, tTupG, tConss, tNils, tSub, iL, iE, iZ, iR1, iR2, startG, wipeG, List.map_cons, List.map_nil, List.length_cons, List.length_nil, List.cons_append, List.nil_append, List.append_nil, List.getD_cons_zero, List.getD_cons_succ, List.set_cons_zero, List.set_cons_succ, List.replicate_succ, List.replicate_zero, Nat.reduceAdd, Nat.reduceSub, Nat.reduceLeDiff, Nat.zero_add, Nat.sub_zero, oB_bl, true_and, and_true, Bool.not_true, Bool.not_false, if_true, if_false, Bool.false_eq_true, reduceIte, mkD_f, oSub_i, oMod_i, oDiv_i, oPow_i, oAdd_i, oAdd_s, oAdd_t, oAdd_l, oMul_i, oMul_l, oLt_i, oLe_i, oGt_i, oGe_i, oMax2_i, oMin2_i, oAbs_i, oInt1_i, oInt1_b, oEq_i, oNe_i, oEq_b, oNe_b, oIsi_x, oIsN_d, oNotN_d, lsOf_l, lstOf_ob, seqOf_ob, lstOf_l, lstOf_s, seqOf_l, seqOf_s, seqOf_t, srcOf_l, srcOf_s, srcOf_ob, isL_ob, isL_l, lk_self, lk_ne, put_ne, del_ne, ne_eq, not_false_eq_true, put_nil, put_self, del_nil, del_self, oLen_l, oLen_t, oLen_sc, oLen_s, oLen_ob, oIx_l, oIx_t, oIx_ob, at_0, at_1, at_2, ix_30, ix_31, ix_32, oSl_l, oSl_ob, oAll_l, mApp_ob, mPop_ob, mClear_ob, Option.some.injEq, Cl.lst.injEq, Option.bind_some, Option.map_some, exists_eq_left', exists_eq_left, Option.isSome_some, exists_eq_right, and_assoc, exists_and_left, Prod.mk.injEq, oSort, oSortSet, oLenSet, ha, oSl]
          rw [cutL_from _ (by decide)]
          rw [show List.drop (Int.toNat 1) (ns.map D.int) = (ns.drop 1).map D.int by simp]
          refine lc_map (linkF net) ?_ (keptN _) ?_ ?_
          · rw [zipD_length, List.length_map]
            have : ns.length ≤ 4000 := by simpa using hlen
            have : (4000 : Nat) ≤ sizeLine := by decide
            omega
          · intro d hd P hP
            rw [zipD_ints] at hd
            obtain ⟨⟨a, b⟩, hab, rfl⟩ := List.mem_map.mp hd
            obtain ⟨ha1, ha2⟩ := hr a (List.of_mem_zip hab).1
            have hi : a.toNat < net.length := by omega
            have hg : net[a.toNat]? = some net[a.toNat] := List.getElem?_eq_getElem hi
            simp only [sRet, sIf, sSeq, sAsg, sDrop, sNext, sNever, sCt, sPar, sFor, sWhile, dAnd, dOr, dNot, dCB, dCons, dNil, dVar, dC, dOp, dTst, dAndT, dOrT, dNotT, dIf, dLst, dTup, dCl, dLc, dYes, dSl, dNoPart, dPart, dRev, dNeg, dChain, dM, dCall, tName, tTupG, tConss, tNils, tSub, iL, iE, iZ, iR1, iR2, startG, wipeG, List.map_cons, List.map_nil, List.length_cons, List.length_nil, List.cons_append, List.nil_append, List.append_nil, List.getD_cons_zero, List.getD_cons_succ, List.set_cons_zero, List.set_cons_succ, List.replicate_succ, List.replicate_zero, Nat.reduceAdd, Nat.reduceSub, Nat.reduceLeDiff, Nat.zero_add, Nat.sub_zero, oB_bl, true_and, and_true, Bool.not_true, Bool.not_false, if_true, if_false, Bool.false_eq_true, reduceIte, mkD_f, oSub_i, oMod_i, oDiv_i, oPow_i, oAdd_i, oAdd_s, oAdd_t, oAdd_l, oMul_i, oMul_l, oLt_i, oLe_i, oGt_i, oGe_i, oMax2_i, oMin2_i, oAbs_i, oInt1_i, oInt1_b, oEq_i, oNe_i, oEq_b, oNe_b, oIsi_x, oIsN_d, oNotN_d, lsOf_l, lstOf_ob, seqOf_ob, lstOf_l, lstOf_s, seqOf_l, seqOf_s, seqOf_t, srcOf_l, srcOf_s, srcOf_ob, isL_ob, isL_l, lk_self, lk_ne, put_ne, del_ne, ne_eq, not_false_eq_true, put_nil, put_self, del_nil, del_self, oLen_l, oLen_t, oLen_sc, oLen_s, oLen_ob, oIx_l, oIx_t, oIx_ob, at_0, at_1, at_2, ix_30, ix_31, ix_32, oSl_l, oSl_ob, oAll_l, mApp_ob, mPop_ob, mClear_ob, Option.some.injEq, Cl.lst.injEq, Option.bind_some, Option.map_some, exists_eq_left', exists_eq_left, Option.isSome_some, exists_eq_right, and_assoc, exists_and_left, Prod.mk.injEq, oSort, oSortSet, oLenSet]
            refine ⟨_, atI_ok ha1 (netD_get hg), ?_⟩
            refine ⟨_, rfl, rfl, flat_ints _, ?_⟩
            rw [inD_ints]
            have e2 : net.getD a.toNat [] = net[a.toNat] := by rw [List.getD_eq_getElem?_getD, hg]; rfl
            simp only [linkF, e2] at hP
            exact ⟨r, .refl r, rfl, hP⟩
          · simp only [sRet, sIf, sSeq, sAsg, sDrop, sNext, sNever, sCt, sPar, sFor, sWhile, dAnd, dOr, dNot, dCB, dCons, dNil, dVar, dC, dOp, dTst, dAndT, dOrT, dNotT, dIf, dLst, dTup, dCl, dLc, dYes, dSl, dNoPart, dPart, dRev, dNeg, dChain, dM, dCall, tName, tTupG, tConss, tNils, tSub, iL, iE, iZ, iR1, iR2, startG, wipeG, List.map_cons, List.map_nil, List.length_cons, List.length_nil, List.cons_append, List.nil_append, List.append_nil, List.getD_cons_zero, List.getD_cons_succ, List.set_cons_zero, List.set_cons_succ, List.replicate_succ, List.replicate_zero, Nat.reduceAdd, Nat.reduceSub, Nat.reduceLeDiff, Nat.zero_add, Nat.sub_zero, oB_bl, true_and, and_true, Bool.not_true, Bool.not_false, if_true, if_false, Bool.false_eq_true, reduceIte, mkD_f, oSub_i, oMod_i, oDiv_i, oPow_i, oAdd_i, oAdd_s, oAdd_t, oAdd_l, oMul_i, oMul_l, oLt_i, oLe_i, oGt_i, oGe_i, oMax2_i, oMin2_i, oAbs_i, oInt1_i, oInt1_b, oEq_i, oNe_i, oEq_b, oNe_b, oIsi_x, oIsN_d, oNotN_d, lsOf_l, lstOf_ob, seqOf_ob, lstOf_l, lstOf_s, seqOf_l, seqOf_s, seqOf_t, srcOf_l, srcOf_s, srcOf_ob, isL_ob, isL_l, lk_self, lk_ne, put_ne, del_ne, ne_eq, not_false_eq_true, put_nil, put_self, del_nil, del_self, oLen_l, oLen_t, oLen_sc, oLen_s, oLen_ob, oIx_l, oIx_t, oIx_ob, at_0, at_1, at_2, ix_30, ix_31, ix_32, oSl_l, oSl_ob, oAll_l, mApp_ob, mPop_ob, mClear_ob, Option.some.injEq, Cl.lst.injEq, Option.bind_some, Option.map_some, exists_eq_left', exists_eq_left, Option.isSome_some, exists_eq_right, and_assoc, exists_and_left, Prod.mk.injEq, oSort, oSortSet, oLenSet]
            rw [zipD_ints]
            refine ⟨(ns.zip (ns.drop 1)).map fun p => decide (p.2 ∈ net.getD p.1.toNat []), by simp [linkF, Function.comp_def], fin _ ?_⟩
            have e3 : (ns.all fun x => decide (0 ≤ x) && decide (x < net.length)) = true := by
              rw [List.all_eq_true]
              intro x hx
              have := hr x hx
              simp; omega
            have e4 : ns.isEmpty = false := by cases ns <;> first | rfl | exact absurd rfl he
            simp only [linkedB, intsOf_map, linkedI, e3, e4, pairsOk, List.all_map, Function.comp_def, id, List.drop_one, Bool.not_false, Bool.true_and]
        · simp only [sRet, sIf, sSeq, sAsg, sDrop, sNext, sNever, sCt, sPar, sFor, sWhile, dAnd, dOr, dNot, dCB, dCons, dNil, dVar, dC, dOp, dTst, dAndT, dOrT, dNotT, dIf, dLst, dTup, dCl, dLc, dYes, dSl, dNoPart, dPart, dRev, dNeg, dChain, dM, dCall, tName, tTupG, tConss, tNils, tSub, iL, iE, iZ, iR1, iR2, startG, wipeG, List.map_cons, List.map_nil, List.length_cons, List.length_nil, List.cons_append, List.nil_append, List.append_nil, List.getD_cons_zero, List.getD_cons_succ, List.set_cons_zero, List.set_cons_succ, List.replicate_succ, List.replicate_zero, Nat.reduceAdd, Nat.reduceSub, Nat.reduceLeDiff, Nat.zero_add, Nat.sub_zero, oB_bl, true_and, and_true, Bool.not_true, Bool.not_false, if_true, if_false, Bool.false_eq_true, reduceIte, mkD_f, oSub_i, oMod_i, oDiv_i, oPow_i, oAdd_i, oAdd_s, oAdd_t, oAdd_l, oMul_i, oMul_l, oLt_i, oLe_i, oGt_i, oGe_i, oMax2_i, oMin2_i, oAbs_i, oInt1_i, oInt1_b, oEq_i, oNe_i, oEq_b, oNe_b, oIsi_x, oIsN_d, oNotN_d, lsOf_l, lstOf_ob, seqOf_ob, lstOf_l, lstOf_s, seqOf_l, seqOf_s, seqOf_t, srcOf_l, srcOf_s, srcOf_ob, isL_ob, isL_l, lk_self, lk_ne, put_ne, del_ne, ne_eq, not_false_eq_true, put_nil, put_self, del_nil, del_self, oLen_l, oLen_t, oLen_sc, oLen_s, oLen_ob, oIx_l, oIx_t, oIx_ob, at_0, at_1, at_2, ix_30, ix_31, ix_32, oSl_l, oSl_ob, oAll_l, mApp_ob, mPop_ob, mClear_ob, Option.some.injEq, Cl.lst.injEq, Option.bind_some, Option.map_some, exists_eq_left', exists_eq_left, Option.isSome_some, exists_eq_right, and_assoc, exists_and_left, Prod.mk.injEq, oSort, oSortSet, oLenSet, ha]
          refine fin _ ?_
          simp only [linkedB]
          cases e5 : intsOf xs with
          | none => rfl
          | some ns =>
            have := intsOf_some e5
            subst this
            have e6 : (ns.all fun x => decide (0 ≤ x) && decide (x < net.length)) = false := by
              refine Bool.eq_false_iff.mpr fun h => ha ?_
              rw [List.all_eq_true] at h ⊢
              intro x hx
              obtain ⟨i, hi, rfl⟩ := List.mem_map.mp hx
              have := h i hi
              simp [isInt] at this ⊢; omega
            simp [linkedI, e6]
  · have hf : linkedB net v = false := by cases v <;> first | rfl | (simp [ty0] at ht0; exact absurd ht0.symm hl)
    simp only [sRet, sIf, sSeq, sAsg, sDrop, sNext, sNever, sCt, sPar, sFor, sWhile, dAnd, dOr, dNot, dCB, dCons, dNil, dVar, dC, dOp, dTst, dAndT, dOrT, dNotT, dIf, dLst, dTup, dCl, dLc, dYes, dSl, dNoPart, dPart, dRev, dNeg, dChain, dM, dCall, tName, tTupG, tConss, tNils, tSub, iL, iE, iZ, iR1, iR2, startG, wipeG, List.map_cons, List.map_nil, List.length_cons, List.length_nil, List.cons_append, List.nil_append, List.append_nil, List.getD_cons_zero, List.getD_cons_succ, List.set_cons_zero, List.set_cons_succ, List.replicate_succ, List.replicate_zero, Nat.reduceAdd, Nat.reduceSub, Nat.reduceLeDiff, Nat.zero_add, Nat.sub_zero, oB_bl, true_and, and_true, Bool.not_true, Bool.not_false, if_true, if_false, Bool.false_eq_true, reduceIte, mkD_f, oSub_i, oMod_i, oDiv_i, oPow_i, oAdd_i, oAdd_s, oAdd_t, oAdd_l, oMul_i, oMul_l, oLt_i, oLe_i, oGt_i, oGe_i, oMax2_i, oMin2_i, oAbs_i, oInt1_i, oInt1_b, oEq_i, oNe_i, oEq_b, oNe_b, oIsi_x, oIsN_d, oNotN_d, lsOf_l, lstOf_ob, seqOf_ob, lstOf_l, lstOf_s, seqOf_l, seqOf_s, seqOf_t, srcOf_l, srcOf_s, srcOf_ob, isL_ob, isL_l, lk_self, lk_ne, put_ne, del_ne, ne_eq, not_false_eq_true, put_nil, put_self, del_nil, del_self, oLen_l, oLen_t, oLen_sc, oLen_s, oLen_ob, oIx_l, oIx_t, oIx_ob, at_0, at_1, at_2, ix_30, ix_31, ix_32, oSl_l, oSl_ob, oAll_l, mApp_ob, mPop_ob, mClear_ob, Option.some.injEq, Cl.lst.injEq, Option.bind_some, Option.map_some, exists_eq_left', exists_eq_left, Option.isSome_some, exists_eq_right, and_assoc, exists_and_left, Prod.mk.injEq, oSort, oSortSet, oLenSet, isB_list hl]
    exact fin _ hf
end CM

set_option Elab.async false
set_option linter.all false
set_option maxRecDepth 100000
set_option maxHeartbeats 4000000
namespace CM
open PySem DL
theorem linkedB_list {net : List (List Int)} {v : D} (h : linkedB net v = true) : ∃ ns : List Int, v = .lst (ns.map .int) ∧ linkedI net ns = true := by
  cases v with
  | lst xs =>
    simp only [linkedB] at h
    cases e : intsOf xs with
    | none => rw [e] at h; cases h
    | some ns =>
      rw [e] at h
      exact ⟨ns, by rw [intsOf_some e], h⟩
  | _ => simp [linkedB] at h
theorem d_is_walk_on : Does b_is_walk_on N_is_walk_on sp_is_walk_on := by
  rintro r ds Q ⟨net, v, rfl, hn, hv, q⟩
  simp only [sRet, sIf, sSeq, sAsg, sDrop, sNext, sNever, sCt, sPar, sFor, sWhile, dAnd, dOr, dNot, dCB, dCons, dNil, dVar, dC, dOp, dTst, dAndT, dOrT, dNotT, dIf, dLst, dTup, dCl, dLc, dYes, dSl, dNoPart, dPart, dRev, dNeg, dChain, dM, dCall, tName, tTupG, tConss, tNils, tSub, iL, iE, iZ, iR1, iR2, startG, wipeG, List.map_cons, List.map_nil, List.length_cons, List.length_nil, List.cons_append, List.nil_append, List.append_nil, List.getD_cons_zero, List.getD_cons_succ, List.set_cons_zero, List.set_cons_succ, List.replicate_succ, List.replicate_zero, Nat.reduceAdd, Nat.reduceSub, Nat.reduceLeDiff, Nat.zero_add, Nat.sub_zero, oB_bl, true_and, and_true, Bool.not_true, Bool.not_false, if_true, if_false, Bool.false_eq_true, reduceIte, mkD_f, oSub_i, oMod_i, oDiv_i, oPow_i, oAdd_i, oAdd_s, oAdd_t, oAdd_l, oMul_i, oMul_l, oLt_i, oLe_i, oGt_i, oGe_i, oMax2_i, oMin2_i, oAbs_i, oInt1_i, oInt1_b, oEq_i, oNe_i, oEq_b, oNe_b, oIsi_x, oIsN_d, oNotN_d, lsOf_l, lstOf_ob, seqOf_ob, lstOf_l, lstOf_s, seqOf_l, seqOf_s, seqOf_t, srcOf_l, srcOf_s, srcOf_ob, isL_ob, isL_l, lk_self, lk_ne, put_ne, del_ne, ne_eq, not_false_eq_true, put_nil, put_self, del_nil, del_self, oLen_l, oLen_t, oLen_sc, oLen_s, oLen_ob, oIx_l, oIx_t, oIx_ob, at_0, at_1, at_2, ix_30, ix_31, ix_32, oSl_l, oSl_ob, oAll_l, mApp_ob, mPop_ob, mClear_ob, Option.some.injEq, Cl.lst.injEq, Option.bind_some, Option.map_some, exists_eq_left', exists_eq_left, Option.isSome_some, exists_eq_right, and_assoc, exists_and_left, Prod.mk.injEq, oSort, oSortSet, oLenSet, b_is_walk_on, N_is_walk_on]
  refine ⟨[], r, .refl _, net, v, rfl, hn, hv, ?_⟩
  cases hb : linkedB net v with
  | false =>
    simp only [sRet, sIf, sSeq, sAsg, sDrop, sNext, sNever, sCt, sPar, sFor, sWhile, dAnd, dOr, dNot, dCB, dCons, dNil, dVar, dC, dOp, dTst, dAndT, dOrT, dNotT, dIf, dLst, dTup, dCl, dLc, dYes, dSl, dNoPart, dPart, dRev, dNeg, dChain, dM, dCall, tName, tTupG, tConss, tNils, tSub, iL, iE, iZ, iR1, iR2, startG, wipeG, List.map_cons, List.map_nil, List.length_cons, List.length_nil, List.cons_append, List.nil_append, List.append_nil, List.getD_cons_zero, List.getD_cons_succ, List.set_cons_zero, List.set_cons_succ, List.replicate_succ, List.replicate_zero, Nat.reduceAdd, Nat.reduceSub, Nat.reduceLeDiff, Nat.zero_add, Nat.sub_zero, oB_bl, true_and, and_true, Bool.not_true, Bool.not_false, if_true, if_false, Bool.false_eq_true, reduceIte, mkD_f, oSub_i, oMod_i, oDiv_i, oPow_i, oAdd_i, oAdd_s, oAdd_t, oAdd_l, oMul_i, oMul_l, oLt_i, oLe_i, oGt_i, oGe_i, oMax2_i, oMin2_i, oAbs_i, oInt1_i, oInt1_b, oEq_i, oNe_i, oEq_b, oNe_b, oIsi_x, oIsN_d, oNotN_d, lsOf_l, lstOf_ob, seqOf_ob, lstOf_l, lstOf_s, seqOf_l, seqOf_s, seqOf_t, srcOf_l, srcOf_s, srcOf_ob, isL_ob, isL_l, lk_self, lk_ne, put_ne, del_ne, ne_eq, not_false_eq_true, put_nil, put_self, del_nil, del_self, oLen_l, oLen_t, oLen_sc, oLen_s, oLen_ob, oIx_l, oIx_t, oIx_ob, at_0, at_1, at_2, ix_30, ix_31, ix_32, oSl_l, oSl_ob, oAll_l, mApp_ob, mPop_ob, mClear_ob, Option.some.injEq, Cl.lst.injEq, Option.bind_some, Option.map_some, exists_eq_left', exists_eq_left, Option.isSome_some, exists_eq_right, and_assoc, exists_and_left, Prod.mk.injEq, oSort, oSortSet, oLenSet]
    rw [hb] at q
    exact ⟨r, .refl r, q⟩
  | true =>
    obtain ⟨ns, rfl, h⟩ := linkedB_list hb
    simp only [sRet, sIf, sSeq, sAsg, sDrop, sNext, sNever, sCt, sPar, sFor, sWhile, dAnd, dOr, dNot, dCB, dCons, dNil, dVar, dC, dOp, dTst, dAndT, dOrT, dNotT, dIf, dLst, dTup, dCl, dLc, dYes, dSl, dNoPart, dPart, dRev, dNeg, dChain, dM, dCall, tName, tTupG, tConss, tNils, tSub, iL, iE, iZ, iR1, iR2, startG, wipeG, List.map_cons, List.map_nil, List.length_cons, List.length_nil, List.cons_append, List.nil_append, List.append_nil, List.getD_cons_zero, List.getD_cons_succ, List.set_cons_zero, List.set_cons_succ, List.replicate_succ, List.replicate_zero, Nat.reduceAdd, Nat.reduceSub, Nat.reduceLeDiff, Nat.zero_add, Nat.sub_zero, oB_bl, true_and, and_true, Bool.not_true, Bool.not_false, if_true, if_false, Bool.false_eq_true, reduceIte, mkD_f, oSub_i, oMod_i, oDiv_i, oPow_i, oAdd_i, oAdd_s, oAdd_t, oAdd_l, oMul_i, oMul_l, oLt_i, oLe_i, oGt_i, oGe_i, oMax2_i, oMin2_i, oAbs_i, oInt1_i, oInt1_b, oEq_i, oNe_i, oEq_b, oNe_b, oIsi_x, oIsN_d, oNotN_d, lsOf_l, lstOf_ob, seqOf_ob, lstOf_l, lstOf_s, seqOf_l, seqOf_s, seqOf_t, srcOf_l, srcOf_s, srcOf_ob, isL_ob, isL_l, lk_self, lk_ne, put_ne, del_ne, ne_eq, not_false_eq_true, put_nil, put_self, del_nil, del_self, oLen_l, oLen_t, oLen_sc, oLen_s, oLen_ob, oIx_l, oIx_t, oIx_ob, at_0, at_1, at_2, ix_30, ix_31, ix_32, oSl_l, oSl_ob, oAll_l, mApp_ob, mPop_ob, mClear_ob, Option.some.injEq, Cl.lst.injEq, Option.bind_some, Option.map_some, exists_eq_left', exists_eq_left, Option.isSome_some, exists_eq_right, and_assoc, exists_and_left, Prod.mk.injEq, oSort, oSortSet, oLenSet]
    refine ⟨r, .refl r, ?_⟩
    rw [hb] at q
    simp only [lenD, Bool.true_and, List.length_map] at q ⊢
    have e : decide ((ns.length : Int) ≤ 60 + 1) = decide (ns.length ≤ 61) := by
      refine decide_eq_decide.mpr ?_
      omega
    rw [e]
    exact q
theorem short_of_dup : ∀ {b : List Int}, ¬ b.Nodup → ∃ b' : List Int, b'.length < b.length ∧ ∀ x ∈ b, x ∈ b'
  | [], h => absurd List.nodup_nil h
  | x :: t, h => by
    by_cases m : x ∈ t
    · refine ⟨t, by simp, fun y hy => ?_⟩
      rcases List.mem_cons.mp hy with rfl | hy
      · exact m
      · exact hy
    · have ht : ¬ t.Nodup := fun ht => h (List.nodup_cons.mpr ⟨m, ht⟩)
      obtain ⟨b', h1, h2⟩ := short_of_dup ht
      refine ⟨x :: b', by simpa using h1, fun y hy => ?_⟩
      rcases List.mem_cons.mp hy with rfl | hy
      · exact List.mem_cons_self
      · exact List.mem_cons_of_mem _ (h2 y hy)
theorem nodup_len {a b : List Int} (ha : a.Nodup) (h : ∀ k, k ∈ a ↔ k ∈ b) : decide (a.length = b.length) = decide b.Nodup := by
  refine decide_eq_decide.mpr ⟨fun e => ?_, fun hb => ?_⟩
  · by_cases hb : b.Nodup
    · exact hb
    · obtain ⟨b', h1, h2⟩ := short_of_dup hb
      have := List.Nodup.length_le_of_subset ha fun x hx => h2 x ((h x).mp hx)
      omega
  · have h1 := List.Nodup.length_le_of_subset ha fun x hx => (h x).mp hx
    have h2 := List.Nodup.length_le_of_subset hb fun x hx => (h x).mpr hx
    omega
theorem d_is_trail_on : Does b_is_trail_on N_is_trail_on sp_is_trail_on := by
  rintro r ds Q ⟨net, v, rfl, hn, hv, q⟩
  simp only [sRet, sIf, sSeq, sAsg, sDrop, sNext, sNever, sCt, sPar, sFor, sWhile, dAnd, dOr, dNot, dCB, dCons, dNil, dVar, dC, dOp, dTst, dAndT, dOrT, dNotT, dIf, dLst, dTup, dCl, dLc, dYes, dSl, dNoPart, dPart, dRev, dNeg, dChain, dM, dCall, tName, tTupG, tConss, tNils, tSub, iL, iE, iZ, iR1, iR2, startG, wipeG, List.map_cons, List.map_nil, List.length_cons, List.length_nil, List.cons_append, List.nil_append, List.append_nil, List.getD_cons_zero, List.getD_cons_succ, List.set_cons_zero, List.set_cons_succ, List.replicate_succ, List.replicate_zero, Nat.reduceAdd, Nat.reduceSub, Nat.reduceLeDiff, Nat.zero_add, Nat.sub_zero, oB_bl, true_and, and_true, Bool.not_true, Bool.not_false, if_true, if_false, Bool.false_eq_true, reduceIte, mkD_f, oSub_i, oMod_i, oDiv_i, oPow_i, oAdd_i, oAdd_s, oAdd_t, oAdd_l, oMul_i, oMul_l, oLt_i, oLe_i, oGt_i, oGe_i, oMax2_i, oMin2_i, oAbs_i, oInt1_i, oInt1_b, oEq_i, oNe_i, oEq_b, oNe_b, oIsi_x, oIsN_d, oNotN_d, lsOf_l, lstOf_ob, seqOf_ob, lstOf_l, lstOf_s, seqOf_l, seqOf_s, seqOf_t, srcOf_l, srcOf_s, srcOf_ob, isL_ob, isL_l, lk_self, lk_ne, put_ne, del_ne, ne_eq, not_false_eq_true, put_nil, put_self, del_nil, del_self, oLen_l, oLen_t, oLen_sc, oLen_s, oLen_ob, oIx_l, oIx_t, oIx_ob, at_0, at_1, at_2, ix_30, ix_31, ix_32, oSl_l, oSl_ob, oAll_l, mApp_ob, mPop_ob, mClear_ob, Option.some.injEq, Cl.lst.injEq, Option.bind_some, Option.map_some, exists_eq_left', exists_eq_left, Option.isSome_some, exists_eq_right, and_assoc, exists_and_left, Prod.mk.injEq, oSort, oSortSet, oLenSet, b_is_trail_on, N_is_trail_on]
  refine ⟨[], r, .refl _, net, v, rfl, hn, hv, ?_⟩
  cases hb : linkedB net v with
  | false =>
    simp only [sRet, sIf, sSeq, sAsg, sDrop, sNext, sNever, sCt, sPar, sFor, sWhile, dAnd, dOr, dNot, dCB, dCons, dNil, dVar, dC, dOp, dTst, dAndT, dOrT, dNotT, dIf, dLst, dTup, dCl, dLc, dYes, dSl, dNoPart, dPart, dRev, dNeg, dChain, dM, dCall, tName, tTupG, tConss, tNils, tSub, iL, iE, iZ, iR1, iR2, startG, wipeG, List.map_cons, List.map_nil, List.length_cons, List.length_nil, List.cons_append, List.nil_append, List.append_nil, List.getD_cons_zero, List.getD_cons_succ, List.set_cons_zero, List.set_cons_succ, List.replicate_succ, List.replicate_zero, Nat.reduceAdd, Nat.reduceSub, Nat.reduceLeDiff, Nat.zero_add, Nat.sub_zero, oB_bl, true_and, and_true, Bool.not_true, Bool.not_false, if_true, if_false, Bool.false_eq_true, reduceIte, mkD_f, oSub_i, oMod_i, oDiv_i, oPow_i, oAdd_i, oAdd_s, oAdd_t, oAdd_l, oMul_i, oMul_l, oLt_i, oLe_i, oGt_i, oGe_i, oMax2_i, oMin2_i, oAbs_i, oInt1_i, oInt1_b, oEq_i, oNe_i, oEq_b, oNe_b, oIsi_x, oIsN_d, oNotN_d, lsOf_l, lstOf_ob, seqOf_ob, lstOf_l, lstOf_s, seqOf_l, seqOf_s, seqOf_t, srcOf_l, srcOf_s, srcOf_ob, isL_ob, isL_l, lk_self, lk_ne, put_ne, del_ne, ne_eq, not_false_eq_true, put_nil, put_self, del_nil, del_self, oLen_l, oLen_t, oLen_sc, oLen_s, oLen_ob, oIx_l, oIx_t, oIx_ob, at_0, at_1, at_2, ix_30, ix_31, ix_32, oSl_l, oSl_ob, oAll_l, mApp_ob, mPop_ob, mClear_ob, Option.some.injEq, Cl.lst.injEq, Option.bind_some, Option.map_some, exists_eq_left', exists_eq_left, Option.isSome_some, exists_eq_right, and_assoc, exists_and_left, Prod.mk.injEq, oSort, oSortSet, oLenSet]
    rw [hb] at q
    exact ⟨r, .refl r, q⟩
  | true =>
    obtain ⟨ns, rfl, h⟩ := linkedB_list hb
    obtain ⟨_, hv2⟩ := hv
    obtain ⟨hlen, _⟩ := hv2 _ rfl
    simp only [sRet, sIf, sSeq, sAsg, sDrop, sNext, sNever, sCt, sPar, sFor, sWhile, dAnd, dOr, dNot, dCB, dCons, dNil, dVar, dC, dOp, dTst, dAndT, dOrT, dNotT, dIf, dLst, dTup, dCl, dLc, dYes, dSl, dNoPart, dPart, dRev, dNeg, dChain, dM, dCall, tName, tTupG, tConss, tNils, tSub, iL, iE, iZ, iR1, iR2, startG, wipeG, List.map_cons, List.map_nil, List.length_cons, List.length_nil, List.cons_append, List.nil_append, List.append_nil, List.getD_cons_zero, List.getD_cons_succ, List.set_cons_zero, List.set_cons_succ, List.replicate_succ, List.replicate_zero, Nat.reduceAdd, Nat.reduceSub, Nat.reduceLeDiff, Nat.zero_add, Nat.sub_zero, oB_bl, true_and, and_true, Bool.not_true, Bool.not_false, if_true, if_false, Bool.false_eq_true, reduceIte, mkD_f, oSub_i, oMod_i, oDiv_i, oPow_i, oAdd_i, oAdd_s, oAdd_t, oAdd_l, oMul_i, oMul_l, oLt_i, oLe_i, oGt_i, oGe_i, oMax2_i, oMin2_i, oAbs_i, oInt1_i, oInt1_b, oEq_i, oNe_i, oEq_b, oNe_b, oIsi_x, oIsN_d, oNotN_d, lsOf_l, lstOf_ob, seqOf_ob, lstOf_l, lstOf_s, seqOf_l, seqOf_s, seqOf_t, srcOf_l, srcOf_s, srcOf_ob, isL_ob, isL_l, lk_self, lk_ne, put_ne, del_ne, ne_eq, not_false_eq_true, put_nil, put_self, del_nil, del_self, oLen_l, oLen_t, oLen_sc, oLen_s, oLen_ob, oIx_l, oIx_t, oIx_ob, at_0, at_1, at_2, ix_30, ix_31, ix_32, oSl_l, oSl_ob, oAll_l, mApp_ob, mPop_ob, mClear_ob, Option.some.injEq, Cl.lst.injEq, Option.bind_some, Option.map_some, exists_eq_left', exists_eq_left, Option.isSome_some, exists_eq_right, and_assoc, exists_and_left, Prod.mk.injEq, oSort, oSortSet, oLenSet]
    refine ⟨ns, rfl, by simpa using hlen, fun ks hk hm => ?_⟩
    rw [hb] at q
    simp only [aloneB, intsOf_map, Bool.true_and, List.length_map] at q ⊢
    have e : decide ((ks.length : Int) = ns.length) = decide ns.Nodup := by
      rw [← nodup_len hk hm]
      refine decide_eq_decide.mpr ?_
      omega
    simp only [e]
    exact ⟨r, .refl r, q⟩
theorem d_is_walk : Does b_is_walk N_is_walk sp_is_walk := by
  rintro r ds Q ⟨net, v, rfl, hn, hv, q⟩
  simp only [sRet, sIf, sSeq, sAsg, sDrop, sNext, sNever, sCt, sPar, sFor, sWhile, dAnd, dOr, dNot, dCB, dCons, dNil, dVar, dC, dOp, dTst, dAndT, dOrT, dNotT, dIf, dLst, dTup, dCl, dLc, dYes, dSl, dNoPart, dPart, dRev, dNeg, dChain, dM, dCall, tName, tTupG, tConss, tNils, tSub, iL, iE, iZ, iR1, iR2, startG, wipeG, List.map_cons, List.map_nil, List.length_cons, List.length_nil, List.cons_append, List.nil_append, List.append_nil, List.getD_cons_zero, List.getD_cons_succ, List.set_cons_zero, List.set_cons_succ, List.replicate_succ, List.replicate_zero, Nat.reduceAdd, Nat.reduceSub, Nat.reduceLeDiff, Nat.zero_add, Nat.sub_zero, oB_bl, true_and, and_true, Bool.not_true, Bool.not_false, if_true, if_false, Bool.false_eq_true, reduceIte, mkD_f, oSub_i, oMod_i, oDiv_i, oPow_i, oAdd_i, oAdd_s, oAdd_t, oAdd_l, oMul_i, oMul_l, oLt_i, oLe_i, oGt_i, oGe_i, oMax2_i, oMin2_i, oAbs_i, oInt1_i, oInt1_b, oEq_i, oNe_i, oEq_b, oNe_b, oIsi_x, oIsN_d, oNotN_d, lsOf_l, lstOf_ob, seqOf_ob, lstOf_l, lstOf_s, seqOf_l, seqOf_s, seqOf_t, srcOf_l, srcOf_s, srcOf_ob, isL_ob, isL_l, lk_self, lk_ne, put_ne, del_ne, ne_eq, not_false_eq_true, put_nil, put_self, del_nil, del_self, oLen_l, oLen_t, oLen_sc, oLen_s, oLen_ob, oIx_l, oIx_t, oIx_ob, at_0, at_1, at_2, ix_30, ix_31, ix_32, oSl_l, oSl_ob, oAll_l, mApp_ob, mPop_ob, mClear_ob, Option.some.injEq, Cl.lst.injEq, Option.bind_some, Option.map_some, exists_eq_left', exists_eq_left, Option.isSome_some, exists_eq_right, and_assoc, exists_and_left, Prod.mk.injEq, oSort, oSortSet, oLenSet, b_is_walk, N_is_walk]
  exact ⟨[], r, .refl _, netD net, rfl, hn.site.1, hn.site.2, [], r, .refl _, net, v, rfl, hn, hv, r, .refl r, q⟩
theorem d_is_trail_of : Does b_is_trail_of N_is_trail_of sp_is_trail_of := by
  rintro r ds Q ⟨net, v, rfl, hn, hv, q⟩
  simp only [sRet, sIf, sSeq, sAsg, sDrop, sNext, sNever, sCt, sPar, sFor, sWhile, dAnd, dOr, dNot, dCB, dCons, dNil, dVar, dC, dOp, dTst, dAndT, dOrT, dNotT, dIf, dLst, dTup, dCl, dLc, dYes, dSl, dNoPart, dPart, dRev, dNeg, dChain, dM, dCall, tName, tTupG, tConss, tNils, tSub, iL, iE, iZ, iR1, iR2, startG, wipeG, List.map_cons, List.map_nil, List.length_cons, List.length_nil, List.cons_append, List.nil_append, List.append_nil, List.getD_cons_zero, List.getD_cons_succ, List.set_cons_zero, List.set_cons_succ, List.replicate_succ, List.replicate_zero, Nat.reduceAdd, Nat.reduceSub, Nat.reduceLeDiff, Nat.zero_add, Nat.sub_zero, oB_bl, true_and, and_true, Bool.not_true, Bool.not_false, if_true, if_false, Bool.false_eq_true, reduceIte, mkD_f, oSub_i, oMod_i, oDiv_i, oPow_i, oAdd_i, oAdd_s, oAdd_t, oAdd_l, oMul_i, oMul_l, oLt_i, oLe_i, oGt_i, oGe_i, oMax2_i, oMin2_i, oAbs_i, oInt1_i, oInt1_b, oEq_i, oNe_i, oEq_b, oNe_b, oIsi_x, oIsN_d, oNotN_d, lsOf_l, lstOf_ob, seqOf_ob, lstOf_l, lstOf_s, seqOf_l, seqOf_s, seqOf_t, srcOf_l, srcOf_s, srcOf_ob, isL_ob, isL_l, lk_self, lk_ne, put_ne, del_ne, ne_eq, not_false_eq_true, put_nil, put_self, del_nil, del_self, oLen_l, oLen_t, oLen_sc, oLen_s, oLen_ob, oIx_l, oIx_t, oIx_ob, at_0, at_1, at_2, ix_30, ix_31, ix_32, oSl_l, oSl_ob, oAll_l, mApp_ob, mPop_ob, mClear_ob, Option.some.injEq, Cl.lst.injEq, Option.bind_some, Option.map_some, exists_eq_left', exists_eq_left, Option.isSome_some, exists_eq_right, and_assoc, exists_and_left, Prod.mk.injEq, oSort, oSortSet, oLenSet, b_is_trail_of, N_is_trail_of]
  exact ⟨[], r, .refl _, netD net, rfl, hn.site.1, hn.site.2, [], r, .refl _, net, v, rfl, hn, hv, r, .refl r, q⟩

/-! ### draws -/
theorem bits_lt {i : Int} {k : Nat} (h0 : 0 ≤ i) (h : i < 2 ^ k) : Builtin.Int.intBits i ≤ k := by
  unfold Builtin.Int.intBits
  split
  · exact Nat.zero_le _
  · rename_i hz
    have hi : i.natAbs ≠ 0 := by
      intro e
      have : i = 0 := by omega
      subst this
      simp at hz
    have h2 : i.natAbs < 2 ^ k := by
      have e : ((2 ^ k : Nat) : Int) = (2 : Int) ^ k := by push_cast; rfl
      omega
    have := (Nat.log2_lt hi).mpr h2
    omega
theorem powOk {i : Int} (h0 : 0 ≤ i) (h : i < 2 ^ 1000) : CPowW i 3 := by
  refine ⟨by decide, ?_⟩
  have := bits_lt h0 h
  omega
theorem powOk10 (n : Nat) (h : n ≤ 100) : CPowW 10 n := by
  refine ⟨by omega, ?_⟩
  have : Builtin.Int.intBits 10 = 4 := by decide
  rw [this]
  omega
theorem mulOk {i j : Int} (h : Builtin.Int.intBits i ≤ 4000) (h2 : Builtin.Int.intBits j ≤ 4000) : IntMulOk i j := by
  unfold IntMulOk
  have e : Builtin.Int.intTooBig ((Builtin.Int.intBits i : Int) + (Builtin.Int.intBits j : Int)) = false := by
    unfold Builtin.Int.intTooBig
    have : (8000 : Int) ≤ bitsLine := by decide
    simp; omega
  rw [e]; simp
theorem divOk {i n : Int} (h : 0 < n) (h2 : n ≤ 10 ^ 9) : L2.CDivW i n := by
  refine ⟨h, ?_⟩
  have : n.natAbs < 2 ^ 8999 := by
    have : n.natAbs < 2 ^ 31 := by omega
    exact Nat.lt_of_lt_of_le this (Nat.pow_le_pow_right (by decide) (by decide))
  have := (Nat.log2_lt (by omega)).mpr this
  omega
theorem d__law_source : Does b__law_source N__law_source sp__law_source := by
  rintro r ds Q ⟨c, k, rfl, hk, hk2, q⟩
  simp only [sRet, sIf, sSeq, sAsg, sDrop, sNext, sNever, sCt, sPar, sFor, sWhile, dAnd, dOr, dNot, dCB, dCons, dNil, dVar, dC, dOp, dTst, dAndT, dOrT, dNotT, dIf, dLst, dTup, dCl, dLc, dYes, dSl, dNoPart, dPart, dRev, dNeg, dChain, dM, dCall, tName, tTupG, tConss, tNils, tSub, iL, iE, iZ, iR1, iR2, startG, wipeG, List.map_cons, List.map_nil, List.length_cons, List.length_nil, List.cons_append, List.nil_append, List.append_nil, List.getD_cons_zero, List.getD_cons_succ, List.set_cons_zero, List.set_cons_succ, List.replicate_succ, List.replicate_zero, Nat.reduceAdd, Nat.reduceSub, Nat.reduceLeDiff, Nat.zero_add, Nat.sub_zero, oB_bl, true_and, and_true, Bool.not_true, Bool.not_false, if_true, if_false, Bool.false_eq_true, reduceIte, mkD_f, oSub_i, oMod_i, oDiv_i, oPow_i, oAdd_i, oAdd_s, oAdd_t, oAdd_l, oMul_i, oMul_l, oLt_i, oLe_i, oGt_i, oGe_i, oMax2_i, oMin2_i, oAbs_i, oInt1_i, oInt1_b, oEq_i, oNe_i, oEq_b, oNe_b, oIsi_x, oIsN_d, oNotN_d, lsOf_l, lstOf_ob, seqOf_ob, lstOf_l, lstOf_s, seqOf_l, seqOf_s, seqOf_t, srcOf_l, srcOf_s, srcOf_ob, isL_ob, isL_l, lk_self, lk_ne, put_ne, del_ne, ne_eq, not_false_eq_true, put_nil, put_self, del_nil, del_self, oLen_l, oLen_t, oLen_sc, oLen_s, oLen_ob, oIx_l, oIx_t, oIx_ob, at_0, at_1, at_2, ix_30, ix_31, ix_32, oSl_l, oSl_ob, oAll_l, mApp_ob, mPop_ob, mClear_ob, Option.some.injEq, Cl.lst.injEq, Option.bind_some, Option.map_some, exists_eq_left', exists_eq_left, Option.isSome_some, exists_eq_right, and_assoc, exists_and_left, Prod.mk.injEq, oSort, oSortSet, oLenSet, b__law_source, N__law_source, mkD_t]
  have e33 : (10 : Int) ^ Int.toNat 33 + 153 = 1000000000000000000000000000000153 := by decide
  rw [e33]
  have h1 := Int.emod_nonneg c (show (1000000000000000000000000000000153 : Int) ≠ 0 by decide)
  have h2 := Int.emod_lt_of_pos c (show (0 : Int) < 1000000000000000000000000000000153 by decide)
  refine ⟨powOk10 18 (by decide), powOk10 33 (by decide), by decide, mulOk ?_ (by decide), by decide, fun p hp => ⟨_, .refl _, q _ p ⟨_, _, _, rfl, ?_, by omega, by omega, by omega, by omega⟩ hp⟩⟩
  · exact Nat.le_trans (bits_lt (k := 200) h1 (by omega)) (by decide)
  · split <;> omega
theorem d__law_draw : Does b__law_draw N__law_draw sp__law_draw := by
  rintro r ds Q ⟨s, xs, m, n, rfl, rfl, ⟨x, y, z, rfl, hx, hy, hy2, hz, hzm⟩, hm, hn, hn2, q⟩
  simp only [sRet, sIf, sSeq, sAsg, sDrop, sNext, sNever, sCt, sPar, sFor, sWhile, dAnd, dOr, dNot, dCB, dCons, dNil, dVar, dC, dOp, dTst, dAndT, dOrT, dNotT, dIf, dLst, dTup, dCl, dLc, dYes, dSl, dNoPart, dPart, dRev, dNeg, dChain, dM, dCall, tName, tTupG, tConss, tNils, tSub, iL, iE, iZ, iR1, iR2, startG, wipeG, List.map_cons, List.map_nil, List.length_cons, List.length_nil, List.cons_append, List.nil_append, List.append_nil, List.getD_cons_zero, List.getD_cons_succ, List.set_cons_zero, List.set_cons_succ, List.replicate_succ, List.replicate_zero, Nat.reduceAdd, Nat.reduceSub, Nat.reduceLeDiff, Nat.zero_add, Nat.sub_zero, oB_bl, true_and, and_true, Bool.not_true, Bool.not_false, if_true, if_false, Bool.false_eq_true, reduceIte, mkD_f, oSub_i, oMod_i, oDiv_i, oPow_i, oAdd_i, oAdd_s, oAdd_t, oAdd_l, oMul_i, oMul_l, oLt_i, oLe_i, oGt_i, oGe_i, oMax2_i, oMin2_i, oAbs_i, oInt1_i, oInt1_b, oEq_i, oNe_i, oEq_b, oNe_b, oIsi_x, oIsN_d, oNotN_d, lsOf_l, lstOf_ob, seqOf_ob, lstOf_l, lstOf_s, seqOf_l, seqOf_s, seqOf_t, srcOf_l, srcOf_s, srcOf_ob, isL_ob, isL_l, lk_self, lk_ne, put_ne, del_ne, ne_eq, not_false_eq_true, put_nil, put_self, del_nil, del_self, oLen_l, oLen_t, oLen_sc, oLen_s, oLen_ob, oIx_l, oIx_t, oIx_ob, at_0, at_1, at_2, ix_30, ix_31, ix_32, oSl_l, oSl_ob, oAll_l, mApp_ob, mPop_ob, mClear_ob, Option.some.injEq, Cl.lst.injEq, Option.bind_some, Option.map_some, exists_eq_left', exists_eq_left, Option.isSome_some, exists_eq_right, and_assoc, exists_and_left, Prod.mk.injEq, oSort, oSortSet, oLenSet, b__law_draw, N__law_draw]
  by_cases h0 : 0 < x
  · simp only [sRet, sIf, sSeq, sAsg, sDrop, sNext, sNever, sCt, sPar, sFor, sWhile, dAnd, dOr, dNot, dCB, dCons, dNil, dVar, dC, dOp, dTst, dAndT, dOrT, dNotT, dIf, dLst, dTup, dCl, dLc, dYes, dSl, dNoPart, dPart, dRev, dNeg, dChain, dM, dCall, tName, tTupG, tConss, tNils, tSub, iL, iE, iZ, iR1, iR2, startG, wipeG, List.map_cons, List.map_nil, List.length_cons, List.length_nil, List.cons_append, List.nil_append, List.append_nil, List.getD_cons_zero, List.getD_cons_succ, List.set_cons_zero, List.set_cons_succ, List.replicate_succ, List.replicate_zero, Nat.reduceAdd, Nat.reduceSub, Nat.reduceLeDiff, Nat.zero_add, Nat.sub_zero, oB_bl, true_and, and_true, Bool.not_true, Bool.not_false, if_true, if_false, Bool.false_eq_true, reduceIte, mkD_f, oSub_i, oMod_i, oDiv_i, oPow_i, oAdd_i, oAdd_s, oAdd_t, oAdd_l, oMul_i, oMul_l, oLt_i, oLe_i, oGt_i, oGe_i, oMax2_i, oMin2_i, oAbs_i, oInt1_i, oInt1_b, oEq_i, oNe_i, oEq_b, oNe_b, oIsi_x, oIsN_d, oNotN_d, lsOf_l, lstOf_ob, seqOf_ob, lstOf_l, lstOf_s, seqOf_l, seqOf_s, seqOf_t, srcOf_l, srcOf_s, srcOf_ob, isL_ob, isL_l, lk_self, lk_ne, put_ne, del_ne, ne_eq, not_false_eq_true, put_nil, put_self, del_nil, del_self, oLen_l, oLen_t, oLen_sc, oLen_s, oLen_ob, oIx_l, oIx_t, oIx_ob, at_0, at_1, at_2, ix_30, ix_31, ix_32, oSl_l, oSl_ob, oAll_l, mApp_ob, mPop_ob, mClear_ob, Option.some.injEq, Cl.lst.injEq, Option.bind_some, Option.map_some, exists_eq_left', exists_eq_left, Option.isSome_some, exists_eq_right, and_assoc, exists_and_left, Prod.mk.injEq, oSort, oSortSet, oLenSet, h0, decide_true]
    exact ⟨hn, divOk hn (by omega), _, .refl _, q _ _ ⟨_, _, _, rfl, Int.ediv_nonneg hx (by omega), hy, hy2, hz, by omega⟩ (Int.emod_nonneg _ (by omega)) (Int.emod_lt_of_pos _ hn)⟩
  · simp only [sRet, sIf, sSeq, sAsg, sDrop, sNext, sNever, sCt, sPar, sFor, sWhile, dAnd, dOr, dNot, dCB, dCons, dNil, dVar, dC, dOp, dTst, dAndT, dOrT, dNotT, dIf, dLst, dTup, dCl, dLc, dYes, dSl, dNoPart, dPart, dRev, dNeg, dChain, dM, dCall, tName, tTupG, tConss, tNils, tSub, iL, iE, iZ, iR1, iR2, startG, wipeG, List.map_cons, List.map_nil, List.length_cons, List.length_nil, List.cons_append, List.nil_append, List.append_nil, List.getD_cons_zero, List.getD_cons_succ, List.set_cons_zero, List.set_cons_succ, List.replicate_succ, List.replicate_zero, Nat.reduceAdd, Nat.reduceSub, Nat.reduceLeDiff, Nat.zero_add, Nat.sub_zero, oB_bl, true_and, and_true, Bool.not_true, Bool.not_false, if_true, if_false, Bool.false_eq_true, reduceIte, mkD_f, oSub_i, oMod_i, oDiv_i, oPow_i, oAdd_i, oAdd_s, oAdd_t, oAdd_l, oMul_i, oMul_l, oLt_i, oLe_i, oGt_i, oGe_i, oMax2_i, oMin2_i, oAbs_i, oInt1_i, oInt1_b, oEq_i, oNe_i, oEq_b, oNe_b, oIsi_x, oIsN_d, oNotN_d, lsOf_l, lstOf_ob, seqOf_ob, lstOf_l, lstOf_s, seqOf_l, seqOf_s, seqOf_t, srcOf_l, srcOf_s, srcOf_ob, isL_ob, isL_l, lk_self, lk_ne, put_ne, del_ne, ne_eq, not_false_eq_true, put_nil, put_self, del_nil, del_self, oLen_l, oLen_t, oLen_sc, oLen_s, oLen_ob, oIx_l, oIx_t, oIx_ob, at_0, at_1, at_2, ix_30, ix_31, ix_32, oSl_l, oSl_ob, oAll_l, mApp_ob, mPop_ob, mClear_ob, Option.some.injEq, Cl.lst.injEq, Option.bind_some, Option.map_some, exists_eq_left', exists_eq_left, Option.isSome_some, exists_eq_right, and_assoc, exists_and_left, Prod.mk.injEq, oSort, oSortSet, oLenSet, h0, decide_false]
    have e39 : (10 : Int) ^ Int.toNat 39 + 3 = 1000000000000000000000000000000000000003 := by decide
    have e36 : (10 : Int) ^ Int.toNat 36 + 67 = 1000000000000000000000000000000000067 := by decide
    rw [e39, e36]
    have b1 := Int.emod_nonneg ((y + 970051 * (z + 1)) ^ Int.toNat 3) (show (1000000000000000000000000000000000000003 : Int) ≠ 0 by decide)
    have b2 := Int.emod_lt_of_pos ((y + 970051 * (z + 1)) ^ Int.toNat 3) (show (0 : Int) < 1000000000000000000000000000000000000003 by decide)
    generalize (y + 970051 * (z + 1)) ^ Int.toNat 3 % 1000000000000000000000000000000000000003 = u at b1 b2 ⊢
    refine ⟨IntMulOk.of_left (by decide), powOk (by omega) (by omega), powOk10 39 (by decide), by decide, IntMulOk.of_left (by decide), powOk (by omega) (by omega), powOk10 36 (by decide), by decide, ⟨by decide, by decide⟩, hn, _, .refl _, q _ _ ⟨_, _, _, rfl, hx, hy, hy2, by omega, by omega⟩ (Int.emod_nonneg _ (by omega)) (Int.emod_lt_of_pos _ hn)⟩
end CM

set_option Elab.async false
set_option linter.all false
set_option maxRecDepth 100000
set_option maxHeartbeats 4000000
namespace CM
open PySem DL
theorem rangeD_at {lo : Int} {n i : Nat} {d : D} (h : (rangeD lo n)[i]? = some d) : i < n ∧ d = .int (lo + i) := by
  have hl : i < n := by
    by_cases z : i < n
    · exact z
    · rw [List.getElem?_eq_none (by rw [rangeD_length]; omega)] at h; cases h
  rw [rangeD_get lo n i hl] at h
  exact ⟨hl, by cases h; rfl⟩
theorem p2 {a b : Addr × Cl} : List.Perm [a, b] ([b] ++ [a]) := List.Perm.swap _ _ _
theorem p3 {a b c : Addr × Cl} : List.Perm [a, b, c] ([c] ++ [a, b]) := List.perm_middle (l₁ := [a, b]) (l₂ := [])
theorem p3b {a b c : Addr × Cl} : List.Perm [a, b, c] ([b] ++ [a, c]) := List.perm_middle (l₁ := [a]) (l₂ := [c])
theorem p4b {a b c d : Addr × Cl} : List.Perm [a, b, c, d] ([b] ++ [a, c, d]) := List.perm_middle (l₁ := [a]) (l₂ := [c, d])
theorem ne_of_out {p s : Addr} {c : Cl} {r : R} (h : p ∉ adr ((s, c) :: r)) : p ≠ s ∧ p ∉ adr r := by
  rw [adr_cons, List.mem_cons, not_or] at h
  exact h
theorem sizeBig : (1000000 : Nat) ≤ sizeLine := by decide
theorem pick3 {a b c x : Int} (h0 : 0 ≤ x) (h3 : x < 3) {P : Int → Prop} (ha : P a) (hb : P b) (hc : P c) : ∃ y, L2.atI [D.int a, D.int b, D.int c] x = some (.int y) ∧ P y := by
  rcases (show x = 0 ∨ x = 1 ∨ x = 2 by omega) with rfl | rfl | rfl
  · exact ⟨a, rfl, ha⟩
  · exact ⟨b, rfl, hb⟩
  · exact ⟨c, rfl, hc⟩
theorem pick5 {a b c d e x : Int} (h0 : 0 ≤ x) (h3 : x < 5) : ∃ y, L2.atI [D.int a, D.int b, D.int c, D.int d, D.int e] x = some (.int y) := by
  rcases (show x = 0 ∨ x = 1 ∨ x = 2 ∨ x = 3 ∨ x = 4 by omega) with rfl | rfl | rfl | rfl | rfl
  · exact ⟨a, rfl⟩
  · exact ⟨b, rfl⟩
  · exact ⟨c, rfl⟩
  · exact ⟨d, rfl⟩
  · exact ⟨e, rfl⟩
theorem SrcB.mono {m k : Int} {xs : List D} (h : SrcB m xs) (hk : m ≤ k) : SrcB k xs := by
  obtain ⟨x, y, z, e, h1, h2, h3, h4, h5⟩ := h
  exact ⟨x, y, z, e, h1, h2, h3, h4, by omega⟩
def netL (rows : List (List Int)) : List D := rows.map fun row => .lst (row.map .int)
structure RowOk (many : Int) (k : Int) (row : List Int) : Prop where
  up : row.Pairwise (· < ·)
  rg : ∀ x ∈ row, 0 ≤ x ∧ x < many
  no : k ∉ row
structure NetI (s p u : Addr) (n many style : Int) (i : Nat) (rows : List (List Int)) (m : Int) (j : Nat) (r : R) (g : G) : Prop where
  ex : ∃ (ys : List D) (row : List Int) (o7 o8 : Option D), r = [(s, .lst ys), (u, .lst (row.map .int)), (p, .lst (netL rows))] ∧ SrcB (m + 4 + 24 * i + 2 * j) ys ∧ row.Pairwise (· < ·) ∧ (∀ x ∈ row, 0 ≤ x ∧ x < many ∧ x < j) ∧ (i : Int) ∉ row ∧
      g = [some (.ob s), some (.int n), some (.int many), some (.int style), some (.ob p), some (.int (0 + i)), some (.ob u), o7, o8]
structure NetO (s p : Addr) (n many style : Int) (m : Int) (i : Nat) (r : R) (g : G) : Prop where
  ex : ∃ (ys : List D) (rows : List (List Int)) (o5 o6 o7 o8 : Option D), r = [(s, .lst ys), (p, .lst (netL rows))] ∧ SrcB (m + 4 + 24 * i) ys ∧ rows.length = i ∧ (∀ (k : Nat) (row : List Int), rows[k]? = some row → RowOk many k row) ∧
      g = [some (.ob s), some (.int n), some (.int many), some (.int style), some (.ob p), o5, o6, o7, o8]
theorem d__law_net : Does b__law_net N__law_net sp__law_net := by
  rintro r ds Q ⟨s, xs, m, n, rfl, rfl, hs, hm, hn, hn2, q⟩
  simp only [sRet, sIf, sSeq, sAsg, sDrop, sNext, sNever, sCt, sPar, sFor, sWhile, dAnd, dOr, dNot, dCB, dCons, dNil, dVar, dC, dOp, dTst, dAndT, dOrT, dNotT, dIf, dLst, dTup, dCl, dLc, dYes, dSl, dNoPart, dPart, dRev, dNeg, dChain, dM, dCall, tName, tTupG, tConss, tNils, tSub, iL, iE, iZ, iR1, iR2, startG, wipeG, List.map_cons, List.map_nil, List.length_cons, List.length_nil, List.cons_append, List.nil_append, List.append_nil, List.getD_cons_zero, List.getD_cons_succ, List.set_cons_zero, List.set_cons_succ, List.replicate_succ, List.replicate_zero, Nat.reduceAdd, Nat.reduceSub, Nat.reduceLeDiff, Nat.zero_add, Nat.sub_zero, oB_bl, true_and, and_true, Bool.not_true, Bool.not_false, if_true, if_false, Bool.false_eq_true, reduceIte, mkD_f, oSub_i, oMod_i, oDiv_i, oPow_i, oAdd_i, oAdd_s, oAdd_t, oAdd_l, oMul_i, oMul_l, oLt_i, oLe_i, oGt_i, oGe_i, oMax2_i, oMin2_i, oAbs_i, oInt1_i, oInt1_b, oEq_i, oNe_i, oEq_b, oNe_b, oIsi_x, oIsN_d, oNotN_d, lsOf_l, lstOf_ob, seqOf_ob, lstOf_l, lstOf_s, seqOf_l, seqOf_s, seqOf_t, srcOf_l, srcOf_s, srcOf_ob, isL_ob, isL_l, lk_self, lk_ne, put_ne, del_ne, ne_eq, not_false_eq_true, put_nil, put_self, del_nil, del_self, oLen_l, oLen_t, oLen_sc, oLen_s, oLen_ob, oIx_l, oIx_t, oIx_ob, at_0, at_1, at_2, ix_30, ix_31, ix_32, oSl_l, oSl_ob, oAll_l, mApp_ob, mPop_ob, mClear_ob, Option.some.injEq, Cl.lst.injEq, Option.bind_some, Option.map_some, exists_eq_left', exists_eq_left, Option.isSome_some, exists_eq_right, and_assoc, exists_and_left, Prod.mk.injEq, oSort, oSortSet, oLenSet, b__law_net, N__law_net]
  refine ⟨[(s, _)], [], .refl _, _, _, _, _, rfl, rfl, hs, by omega, by omega, by omega, fun d1 ys1 hs1 hd1 he1 => ?_⟩
  simp only [sRet, sIf, sSeq, sAsg, sDrop, sNext, sNever, sCt, sPar, sFor, sWhile, dAnd, dOr, dNot, dCB, dCons, dNil, dVar, dC, dOp, dTst, dAndT, dOrT, dNotT, dIf, dLst, dTup, dCl, dLc, dYes, dSl, dNoPart, dPart, dRev, dNeg, dChain, dM, dCall, tName, tTupG, tConss, tNils, tSub, iL, iE, iZ, iR1, iR2, startG, wipeG, List.map_cons, List.map_nil, List.length_cons, List.length_nil, List.cons_append, List.nil_append, List.append_nil, List.getD_cons_zero, List.getD_cons_succ, List.set_cons_zero, List.set_cons_succ, List.replicate_succ, List.replicate_zero, Nat.reduceAdd, Nat.reduceSub, Nat.reduceLeDiff, Nat.zero_add, Nat.sub_zero, oB_bl, true_and, and_true, Bool.not_true, Bool.not_false, if_true, if_false, Bool.false_eq_true, reduceIte, mkD_f, oSub_i, oMod_i, oDiv_i, oPow_i, oAdd_i, oAdd_s, oAdd_t, oAdd_l, oMul_i, oMul_l, oLt_i, oLe_i, oGt_i, oGe_i, oMax2_i, oMin2_i, oAbs_i, oInt1_i, oInt1_b, oEq_i, oNe_i, oEq_b, oNe_b, oIsi_x, oIsN_d, oNotN_d, lsOf_l, lstOf_ob, seqOf_ob, lstOf_l, lstOf_s, seqOf_l, seqOf_s, seqOf_t, srcOf_l, srcOf_s, srcOf_ob, isL_ob, isL_l, lk_self, lk_ne, put_ne, del_ne, ne_eq, not_false_eq_true, put_nil, put_self, del_nil, del_self, oLen_l, oLen_t, oLen_sc, oLen_s, oLen_ob, oIx_l, oIx_t, oIx_ob, at_0, at_1, at_2, ix_30, ix_31, ix_32, oSl_l, oSl_ob, oAll_l, mApp_ob, mPop_ob, mClear_ob, Option.some.injEq, Cl.lst.injEq, Option.bind_some, Option.map_some, exists_eq_left', exists_eq_left, Option.isSome_some, exists_eq_right, and_assoc, exists_and_left, Prod.mk.injEq, oSort, oSortSet, oLenSet]
  refine ⟨[(s, _)], [], .refl _, _, _, _, _, rfl, rfl, hs1, by omega, by split <;> omega, by split <;> omega, fun d2 ys2 hs2 hd2 he2 => ?_⟩
  simp only [sRet, sIf, sSeq, sAsg, sDrop, sNext, sNever, sCt, sPar, sFor, sWhile, dAnd, dOr, dNot, dCB, dCons, dNil, dVar, dC, dOp, dTst, dAndT, dOrT, dNotT, dIf, dLst, dTup, dCl, dLc, dYes, dSl, dNoPart, dPart, dRev, dNeg, dChain, dM, dCall, tName, tTupG, tConss, tNils, tSub, iL, iE, iZ, iR1, iR2, startG, wipeG, List.map_cons, List.map_nil, List.length_cons, List.length_nil, List.cons_append, List.nil_append, List.append_nil, List.getD_cons_zero, List.getD_cons_succ, List.set_cons_zero, List.set_cons_succ, List.replicate_succ, List.replicate_zero, Nat.reduceAdd, Nat.reduceSub, Nat.reduceLeDiff, Nat.zero_add, Nat.sub_zero, oB_bl, true_and, and_true, Bool.not_true, Bool.not_false, if_true, if_false, Bool.false_eq_true, reduceIte, mkD_f, oSub_i, oMod_i, oDiv_i, oPow_i, oAdd_i, oAdd_s, oAdd_t, oAdd_l, oMul_i, oMul_l, oLt_i, oLe_i, oGt_i, oGe_i, oMax2_i, oMin2_i, oAbs_i, oInt1_i, oInt1_b, oEq_i, oNe_i, oEq_b, oNe_b, oIsi_x, oIsN_d, oNotN_d, lsOf_l, lstOf_ob, seqOf_ob, lstOf_l, lstOf_s, seqOf_l, seqOf_s, seqOf_t, srcOf_l, srcOf_s, srcOf_ob, isL_ob, isL_l, lk_self, lk_ne, put_ne, del_ne, ne_eq, not_false_eq_true, put_nil, put_self, del_nil, del_self, oLen_l, oLen_t, oLen_sc, oLen_s, oLen_ob, oIx_l, oIx_t, oIx_ob, at_0, at_1, at_2, ix_30, ix_31, ix_32, oSl_l, oSl_ob, oAll_l, mApp_ob, mPop_ob, mClear_ob, Option.some.injEq, Cl.lst.injEq, Option.bind_some, Option.map_some, exists_eq_left', exists_eq_left, Option.isSome_some, exists_eq_right, and_assoc, exists_and_left, Prod.mk.injEq, oSort, oSortSet, oLenSet]
  refine ⟨by decide, [(s, _)], [], .refl _, _, _, _, _, rfl, rfl, hs2, by omega, by omega, by omega, fun d3 ys3 hs3 hd3 he3 => ?_⟩
  obtain ⟨many, hat, hm1, hm2⟩ := pick3 (a := 1 + d1) (b := 1 + d2) (c := n) (P := fun y => 1 ≤ y ∧ y ≤ n) hd3 he3 (by omega) (by split at he2 <;> omega) (by omega)
  simp only [sRet, sIf, sSeq, sAsg, sDrop, sNext, sNever, sCt, sPar, sFor, sWhile, dAnd, dOr, dNot, dCB, dCons, dNil, dVar, dC, dOp, dTst, dAndT, dOrT, dNotT, dIf, dLst, dTup, dCl, dLc, dYes, dSl, dNoPart, dPart, dRev, dNeg, dChain, dM, dCall, tName, tTupG, tConss, tNils, tSub, iL, iE, iZ, iR1, iR2, startG, wipeG, List.map_cons, List.map_nil, List.length_cons, List.length_nil, List.cons_append, List.nil_append, List.append_nil, List.getD_cons_zero, List.getD_cons_succ, List.set_cons_zero, List.set_cons_succ, List.replicate_succ, List.replicate_zero, Nat.reduceAdd, Nat.reduceSub, Nat.reduceLeDiff, Nat.zero_add, Nat.sub_zero, oB_bl, true_and, and_true, Bool.not_true, Bool.not_false, if_true, if_false, Bool.false_eq_true, reduceIte, mkD_f, oSub_i, oMod_i, oDiv_i, oPow_i, oAdd_i, oAdd_s, oAdd_t, oAdd_l, oMul_i, oMul_l, oLt_i, oLe_i, oGt_i, oGe_i, oMax2_i, oMin2_i, oAbs_i, oInt1_i, oInt1_b, oEq_i, oNe_i, oEq_b, oNe_b, oIsi_x, oIsN_d, oNotN_d, lsOf_l, lstOf_ob, seqOf_ob, lstOf_l, lstOf_s, seqOf_l, seqOf_s, seqOf_t, srcOf_l, srcOf_s, srcOf_ob, isL_ob, isL_l, lk_self, lk_ne, put_ne, del_ne, ne_eq, not_false_eq_true, put_nil, put_self, del_nil, del_self, oLen_l, oLen_t, oLen_sc, oLen_s, oLen_ob, oIx_l, oIx_t, oIx_ob, at_0, at_1, at_2, ix_30, ix_31, ix_32, oSl_l, oSl_ob, oAll_l, mApp_ob, mPop_ob, mClear_ob, Option.some.injEq, Cl.lst.injEq, Option.bind_some, Option.map_some, exists_eq_left', exists_eq_left, Option.isSome_some, exists_eq_right, and_assoc, exists_and_left, Prod.mk.injEq, oSort, oSortSet, oLenSet]
  refine ⟨_, hat, ?_⟩
  refine ⟨[(s, _)], [], .refl _, _, _, _, _, rfl, rfl, hs3, by omega, by omega, by omega, fun style ys4 hs4 hd4 hst => ?_⟩
  simp only [sRet, sIf, sSeq, sAsg, sDrop, sNext, sNever, sCt, sPar, sFor, sWhile, dAnd, dOr, dNot, dCB, dCons, dNil, dVar, dC, dOp, dTst, dAndT, dOrT, dNotT, dIf, dLst, dTup, dCl, dLc, dYes, dSl, dNoPart, dPart, dRev, dNeg, dChain, dM, dCall, tName, tTupG, tConss, tNils, tSub, iL, iE, iZ, iR1, iR2, startG, wipeG, List.map_cons, List.map_nil, List.length_cons, List.length_nil, List.cons_append, List.nil_append, List.append_nil, List.getD_cons_zero, List.getD_cons_succ, List.set_cons_zero, List.set_cons_succ, List.replicate_succ, List.replicate_zero, Nat.reduceAdd, Nat.reduceSub, Nat.reduceLeDiff, Nat.zero_add, Nat.sub_zero, oB_bl, true_and, and_true, Bool.not_true, Bool.not_false, if_true, if_false, Bool.false_eq_true, reduceIte, mkD_f, oSub_i, oMod_i, oDiv_i, oPow_i, oAdd_i, oAdd_s, oAdd_t, oAdd_l, oMul_i, oMul_l, oLt_i, oLe_i, oGt_i, oGe_i, oMax2_i, oMin2_i, oAbs_i, oInt1_i, oInt1_b, oEq_i, oNe_i, oEq_b, oNe_b, oIsi_x, oIsN_d, oNotN_d, lsOf_l, lstOf_ob, seqOf_ob, lstOf_l, lstOf_s, seqOf_l, seqOf_s, seqOf_t, srcOf_l, srcOf_s, srcOf_ob, isL_ob, isL_l, lk_self, lk_ne, put_ne, del_ne, ne_eq, not_false_eq_true, put_nil, put_self, del_nil, del_self, oLen_l, oLen_t, oLen_sc, oLen_s, oLen_ob, oIx_l, oIx_t, oIx_ob, at_0, at_1, at_2, ix_30, ix_31, ix_32, oSl_l, oSl_ob, oAll_l, mApp_ob, mPop_ob, mClear_ob, Option.some.injEq, Cl.lst.injEq, Option.bind_some, Option.map_some, exists_eq_left', exists_eq_left, Option.isSome_some, exists_eq_right, and_assoc, exists_and_left, Prod.mk.injEq, oSort, oSortSet, oLenSet, mkD_t]
  refine ⟨Nat.zero_le _, fun p hp => ?_⟩
  obtain ⟨hps, _⟩ := ne_of_out hp
  refine ⟨by omega, by omega, ?_⟩
  refine ⟨NetO s p n many style m, ⟨_, .ofP (.swap _ _ _), ⟨ys4, [], none, none, none, none, rfl, hs4.mono (by omega), rfl, fun k row h => by simp at h, rfl⟩⟩, ?_, ?_⟩
  · rintro i d r g hd ⟨ys, rows, o5, o6, o7, o8, rfl, hsr, hlen, hrows, rfl⟩
    obtain ⟨hi, rfl⟩ := rangeD_at hd
    refine ⟨keptN _, ?_⟩
    simp only [sRet, sIf, sSeq, sAsg, sDrop, sNext, sNever, sCt, sPar, sFor, sWhile, dAnd, dOr, dNot, dCB, dCons, dNil, dVar, dC, dOp, dTst, dAndT, dOrT, dNotT, dIf, dLst, dTup, dCl, dLc, dYes, dSl, dNoPart, dPart, dRev, dNeg, dChain, dM, dCall, tName, tTupG, tConss, tNils, tSub, iL, iE, iZ, iR1, iR2, startG, wipeG, List.map_cons, List.map_nil, List.length_cons, List.length_nil, List.cons_append, List.nil_append, List.append_nil, List.getD_cons_zero, List.getD_cons_succ, List.set_cons_zero, List.set_cons_succ, List.replicate_succ, List.replicate_zero, Nat.reduceAdd, Nat.reduceSub, Nat.reduceLeDiff, Nat.zero_add, Nat.sub_zero, oB_bl, true_and, and_true, Bool.not_true, Bool.not_false, if_true, if_false, Bool.false_eq_true, reduceIte, mkD_f, oSub_i, oMod_i, oDiv_i, oPow_i, oAdd_i, oAdd_s, oAdd_t, oAdd_l, oMul_i, oMul_l, oLt_i, oLe_i, oGt_i, oGe_i, oMax2_i, oMin2_i, oAbs_i, oInt1_i, oInt1_b, oEq_i, oNe_i, oEq_b, oNe_b, oIsi_x, oIsN_d, oNotN_d, lsOf_l, lstOf_ob, seqOf_ob, lstOf_l, lstOf_s, seqOf_l, seqOf_s, seqOf_t, srcOf_l, srcOf_s, srcOf_ob, isL_ob, isL_l, lk_self, lk_ne, put_ne, del_ne, ne_eq, not_false_eq_true, put_nil, put_self, del_nil, del_self, oLen_l, oLen_t, oLen_sc, oLen_s, oLen_ob, oIx_l, oIx_t, oIx_ob, at_0, at_1, at_2, ix_30, ix_31, ix_32, oSl_l, oSl_ob, oAll_l, mApp_ob, mPop_ob, mClear_ob, Option.some.injEq, Cl.lst.injEq, Option.bind_some, Option.map_some, exists_eq_left', exists_eq_left, Option.isSome_some, exists_eq_right, and_assoc, exists_and_left, Prod.mk.injEq, oSort, oSortSet, oLenSet, mkD_t]
    refine ⟨Nat.zero_le _, fun u hu => ?_⟩
    obtain ⟨hus, hu2⟩ := ne_of_out hu
    obtain ⟨hup, _⟩ := ne_of_out hu2
    refine ⟨by omega, by omega, ?_⟩
    refine ⟨NetI s p u n many style i rows m, ⟨_, .ofP (.swap _ _ _), ⟨ys, [], o7, o8, rfl, hsr.mono (by omega), .nil, fun x h => (nomatch h), (fun h => nomatch h), rfl⟩⟩, ?_, ?_⟩
    · rintro j d r g hd ⟨ys', row, o7, o8, rfl, hsr', hpw, hrg, hno, rfl⟩
      obtain ⟨hj, rfl⟩ := rangeD_at hd
      refine ⟨keptN _, ?_⟩
      simp only [sRet, sIf, sSeq, sAsg, sDrop, sNext, sNever, sCt, sPar, sFor, sWhile, dAnd, dOr, dNot, dCB, dCons, dNil, dVar, dC, dOp, dTst, dAndT, dOrT, dNotT, dIf, dLst, dTup, dCl, dLc, dYes, dSl, dNoPart, dPart, dRev, dNeg, dChain, dM, dCall, tName, tTupG, tConss, tNils, tSub, iL, iE, iZ, iR1, iR2, startG, wipeG, List.map_cons, List.map_nil, List.length_cons, List.length_nil, List.cons_append, List.nil_append, List.append_nil, List.getD_cons_zero, List.getD_cons_succ, List.set_cons_zero, List.set_cons_succ, List.replicate_succ, List.replicate_zero, Nat.reduceAdd, Nat.reduceSub, Nat.reduceLeDiff, Nat.zero_add, Nat.sub_zero, oB_bl, true_and, and_true, Bool.not_true, Bool.not_false, if_true, if_false, Bool.false_eq_true, reduceIte, mkD_f, oSub_i, oMod_i, oDiv_i, oPow_i, oAdd_i, oAdd_s, oAdd_t, oAdd_l, oMul_i, oMul_l, oLt_i, oLe_i, oGt_i, oGe_i, oMax2_i, oMin2_i, oAbs_i, oInt1_i, oInt1_b, oEq_i, oNe_i, oEq_b, oNe_b, oIsi_x, oIsN_d, oNotN_d, lsOf_l, lstOf_ob, seqOf_ob, lstOf_l, lstOf_s, seqOf_l, seqOf_s, seqOf_t, srcOf_l, srcOf_s, srcOf_ob, isL_ob, isL_l, lk_self, lk_ne, put_ne, del_ne, ne_eq, not_false_eq_true, put_nil, put_self, del_nil, del_self, oLen_l, oLen_t, oLen_sc, oLen_s, oLen_ob, oIx_l, oIx_t, oIx_ob, at_0, at_1, at_2, ix_30, ix_31, ix_32, oSl_l, oSl_ob, oAll_l, mApp_ob, mPop_ob, mClear_ob, Option.some.injEq, Cl.lst.injEq, Option.bind_some, Option.map_some, exists_eq_left', exists_eq_left, Option.isSome_some, exists_eq_right, and_assoc, exists_and_left, Prod.mk.injEq, oSort, oSortSet, oLenSet]
      refine ⟨by omega, [(s, _)], [_, _], .refl _, _, _, _, _, rfl, rfl, hsr', by omega, by omega, by omega, fun e1 zs1 hz1 he1 he2 => ?_⟩
      simp only [sRet, sIf, sSeq, sAsg, sDrop, sNext, sNever, sCt, sPar, sFor, sWhile, dAnd, dOr, dNot, dCB, dCons, dNil, dVar, dC, dOp, dTst, dAndT, dOrT, dNotT, dIf, dLst, dTup, dCl, dLc, dYes, dSl, dNoPart, dPart, dRev, dNeg, dChain, dM, dCall, tName, tTupG, tConss, tNils, tSub, iL, iE, iZ, iR1, iR2, startG, wipeG, List.map_cons, List.map_nil, List.length_cons, List.length_nil, List.cons_append, List.nil_append, List.append_nil, List.getD_cons_zero, List.getD_cons_succ, List.set_cons_zero, List.set_cons_succ, List.replicate_succ, List.replicate_zero, Nat.reduceAdd, Nat.reduceSub, Nat.reduceLeDiff, Nat.zero_add, Nat.sub_zero, oB_bl, true_and, and_true, Bool.not_true, Bool.not_false, if_true, if_false, Bool.false_eq_true, reduceIte, mkD_f, oSub_i, oMod_i, oDiv_i, oPow_i, oAdd_i, oAdd_s, oAdd_t, oAdd_l, oMul_i, oMul_l, oLt_i, oLe_i, oGt_i, oGe_i, oMax2_i, oMin2_i, oAbs_i, oInt1_i, oInt1_b, oEq_i, oNe_i, oEq_b, oNe_b, oIsi_x, oIsN_d, oNotN_d, lsOf_l, lstOf_ob, seqOf_ob, lstOf_l, lstOf_s, seqOf_l, seqOf_s, seqOf_t, srcOf_l, srcOf_s, srcOf_ob, isL_ob, isL_l, lk_self, lk_ne, put_ne, del_ne, ne_eq, not_false_eq_true, put_nil, put_self, del_nil, del_self, oLen_l, oLen_t, oLen_sc, oLen_s, oLen_ob, oIx_l, oIx_t, oIx_ob, at_0, at_1, at_2, ix_30, ix_31, ix_32, oSl_l, oSl_ob, oAll_l, mApp_ob, mPop_ob, mClear_ob, Option.some.injEq, Cl.lst.injEq, Option.bind_some, Option.map_some, exists_eq_left', exists_eq_left, Option.isSome_some, exists_eq_right, and_assoc, exists_and_left, Prod.mk.injEq, oSort, oSortSet, oLenSet, mkD_t]
      refine ⟨by decide, fun v hv => ?_⟩
      obtain ⟨hvs, hv2⟩ := ne_of_out hv
      obtain ⟨hvu, hv3⟩ := ne_of_out hv2
      obtain ⟨hvp, _⟩ := ne_of_out hv3
      refine ⟨[(s, _)], [_, _, _], p4b, _, _, _, _, rfl, rfl, hz1, by omega, by omega, by omega, fun e2 zs2 hz2 he3 he4 => ?_⟩
      simp only [sRet, sIf, sSeq, sAsg, sDrop, sNext, sNever, sCt, sPar, sFor, sWhile, dAnd, dOr, dNot, dCB, dCons, dNil, dVar, dC, dOp, dTst, dAndT, dOrT, dNotT, dIf, dLst, dTup, dCl, dLc, dYes, dSl, dNoPart, dPart, dRev, dNeg, dChain, dM, dCall, tName, tTupG, tConss, tNils, tSub, iL, iE, iZ, iR1, iR2, startG, wipeG, List.map_cons, List.map_nil, List.length_cons, List.length_nil, List.cons_append, List.nil_append, List.append_nil, List.getD_cons_zero, List.getD_cons_succ, List.set_cons_zero, List.set_cons_succ, List.replicate_succ, List.replicate_zero, Nat.reduceAdd, Nat.reduceSub, Nat.reduceLeDiff, Nat.zero_add, Nat.sub_zero, oB_bl, true_and, and_true, Bool.not_true, Bool.not_false, if_true, if_false, Bool.false_eq_true, reduceIte, mkD_f, oSub_i, oMod_i, oDiv_i, oPow_i, oAdd_i, oAdd_s, oAdd_t, oAdd_l, oMul_i, oMul_l, oLt_i, oLe_i, oGt_i, oGe_i, oMax2_i, oMin2_i, oAbs_i, oInt1_i, oInt1_b, oEq_i, oNe_i, oEq_b, oNe_b, oIsi_x, oIsN_d, oNotN_d, lsOf_l, lstOf_ob, seqOf_ob, lstOf_l, lstOf_s, seqOf_l, seqOf_s, seqOf_t, srcOf_l, srcOf_s, srcOf_ob, isL_ob, isL_l, lk_self, lk_ne, put_ne, del_ne, ne_eq, not_false_eq_true, put_nil, put_self, del_nil, del_self, oLen_l, oLen_t, oLen_sc, oLen_s, oLen_ob, oIx_l, oIx_t, oIx_ob, at_0, at_1, at_2, ix_30, ix_31, ix_32, oSl_l, oSl_ob, oAll_l, mApp_ob, mPop_ob, mClear_ob, Option.some.injEq, Cl.lst.injEq, Option.bind_some, Option.map_some, exists_eq_left', exists_eq_left, Option.isSome_some, exists_eq_right, and_assoc, exists_and_left, Prod.mk.injEq, oSort, oSortSet, oLenSet, hvs, hvs.symm, hvu, hvu.symm, hvp, hvp.symm, hus, hus.symm, hup, hup.symm]
      refine ⟨by decide, ?_⟩
      have hsrn : SrcB (m + 4 + 24 * i + 2 * ((j + 1 : Nat) : Int)) zs2 := hz2.mono (by omega)
      have fin : ∀ (row' : List Int) o7' o8', row'.Pairwise (· < ·) → (∀ x ∈ row', 0 ≤ x ∧ x < many ∧ x < ((j + 1 : Nat) : Int)) → (i : Int) ∉ row' →
          NetI s p u n many style i rows m (j + 1) [(s, Cl.lst zs2), (u, .lst (row'.map .int)), (p, .lst (netL rows))] [some (.ob s), some (.int n), some (.int many), some (.int style), some (.ob p), some (.int (0 + i)), some (.ob u), o7', o8'] :=
        fun row' o7' o8' h1 h2 h3 => ⟨zs2, row', o7', o8', rfl, hsrn, h1, h2, h3, rfl⟩
      have same := fin row (some (.int (0 + j))) (some (.ob v)) hpw (fun x hx => by have := hrg x hx; omega) hno
      have sub1 : ∀ (c : Cl) (b : Addr × Cl), Sub [(s, Cl.lst zs2), b, (p, .lst (netL rows))] [(s, .lst zs2), (v, c), b, (p, .lst (netL rows))] := fun c b => .of (.cons₂ _ (.cons _ (.refl _)))
      by_cases hji : (0 + (j : Int)) = 0 + i
      · have e0 : decide ((0 : Int) + j = 0 + i) = true := decide_eq_true hji
        simp only [sRet, sIf, sSeq, sAsg, sDrop, sNext, sNever, sCt, sPar, sFor, sWhile, dAnd, dOr, dNot, dCB, dCons, dNil, dVar, dC, dOp, dTst, dAndT, dOrT, dNotT, dIf, dLst, dTup, dCl, dLc, dYes, dSl, dNoPart, dPart, dRev, dNeg, dChain, dM, dCall, tName, tTupG, tConss, tNils, tSub, iL, iE, iZ, iR1, iR2, startG, wipeG, List.map_cons, List.map_nil, List.length_cons, List.length_nil, List.cons_append, List.nil_append, List.append_nil, List.getD_cons_zero, List.getD_cons_succ, List.set_cons_zero, List.set_cons_succ, List.replicate_succ, List.replicate_zero, Nat.reduceAdd, Nat.reduceSub, Nat.reduceLeDiff, Nat.zero_add, Nat.sub_zero, oB_bl, true_and, and_true, Bool.not_true, Bool.not_false, if_true, if_false, Bool.false_eq_true, reduceIte, mkD_f, oSub_i, oMod_i, oDiv_i, oPow_i, oAdd_i, oAdd_s, oAdd_t, oAdd_l, oMul_i, oMul_l, oLt_i, oLe_i, oGt_i, oGe_i, oMax2_i, oMin2_i, oAbs_i, oInt1_i, oInt1_b, oEq_i, oNe_i, oEq_b, oNe_b, oIsi_x, oIsN_d, oNotN_d, lsOf_l, lstOf_ob, seqOf_ob, lstOf_l, lstOf_s, seqOf_l, seqOf_s, seqOf_t, srcOf_l, srcOf_s, srcOf_ob, isL_ob, isL_l, lk_self, lk_ne, put_ne, del_ne, ne_eq, not_false_eq_true, put_nil, put_self, del_nil, del_self, oLen_l, oLen_t, oLen_sc, oLen_s, oLen_ob, oIx_l, oIx_t, oIx_ob, at_0, at_1, at_2, ix_30, ix_31, ix_32, oSl_l, oSl_ob, oAll_l, mApp_ob, mPop_ob, mClear_ob, Option.some.injEq, Cl.lst.injEq, Option.bind_some, Option.map_some, exists_eq_left', exists_eq_left, Option.isSome_some, exists_eq_right, and_assoc, exists_and_left, Prod.mk.injEq, oSort, oSortSet, oLenSet, e0]
        exact ⟨_, sub1 _ _, same⟩
      · simp only [sRet, sIf, sSeq, sAsg, sDrop, sNext, sNever, sCt, sPar, sFor, sWhile, dAnd, dOr, dNot, dCB, dCons, dNil, dVar, dC, dOp, dTst, dAndT, dOrT, dNotT, dIf, dLst, dTup, dCl, dLc, dYes, dSl, dNoPart, dPart, dRev, dNeg, dChain, dM, dCall, tName, tTupG, tConss, tNils, tSub, iL, iE, iZ, iR1, iR2, startG, wipeG, List.map_cons, List.map_nil, List.length_cons, List.length_nil, List.cons_append, List.nil_append, List.append_nil, List.getD_cons_zero, List.getD_cons_succ, List.set_cons_zero, List.set_cons_succ, List.replicate_succ, List.replicate_zero, Nat.reduceAdd, Nat.reduceSub, Nat.reduceLeDiff, Nat.zero_add, Nat.sub_zero, oB_bl, true_and, and_true, Bool.not_true, Bool.not_false, if_true, if_false, Bool.false_eq_true, reduceIte, mkD_f, oSub_i, oMod_i, oDiv_i, oPow_i, oAdd_i, oAdd_s, oAdd_t, oAdd_l, oMul_i, oMul_l, oLt_i, oLe_i, oGt_i, oGe_i, oMax2_i, oMin2_i, oAbs_i, oInt1_i, oInt1_b, oEq_i, oNe_i, oEq_b, oNe_b, oIsi_x, oIsN_d, oNotN_d, lsOf_l, lstOf_ob, seqOf_ob, lstOf_l, lstOf_s, seqOf_l, seqOf_s, seqOf_t, srcOf_l, srcOf_s, srcOf_ob, isL_ob, isL_l, lk_self, lk_ne, put_ne, del_ne, ne_eq, not_false_eq_true, put_nil, put_self, del_nil, del_self, oLen_l, oLen_t, oLen_sc, oLen_s, oLen_ob, oIx_l, oIx_t, oIx_ob, at_0, at_1, at_2, ix_30, ix_31, ix_32, oSl_l, oSl_ob, oAll_l, mApp_ob, mPop_ob, mClear_ob, Option.some.injEq, Cl.lst.injEq, Option.bind_some, Option.map_some, exists_eq_left', exists_eq_left, Option.isSome_some, exists_eq_right, and_assoc, exists_and_left, Prod.mk.injEq, oSort, oSortSet, oLenSet, hji, decide_false]
        obtain ⟨y, hy⟩ := pick5 (a := 1) (b := if decide (0 + (j : Int) = (0 + i + 1) % many) = true then 1 else 0) (c := if decide ((if 0 + (i : Int) - (0 + j) < 0 then -(0 + (i : Int) - (0 + j)) else 0 + (i : Int) - (0 + j)) = 1) = true then 1 else 0) (d := e1) (e := if decide (e2 = 0) = true then 1 else 0) hd4 hst
        refine ⟨_, hy, ?_⟩
        by_cases hy1 : y = 1
        · simp only [sRet, sIf, sSeq, sAsg, sDrop, sNext, sNever, sCt, sPar, sFor, sWhile, dAnd, dOr, dNot, dCB, dCons, dNil, dVar, dC, dOp, dTst, dAndT, dOrT, dNotT, dIf, dLst, dTup, dCl, dLc, dYes, dSl, dNoPart, dPart, dRev, dNeg, dChain, dM, dCall, tName, tTupG, tConss, tNils, tSub, iL, iE, iZ, iR1, iR2, startG, wipeG, List.map_cons, List.map_nil, List.length_cons, List.length_nil, List.cons_append, List.nil_append, List.append_nil, List.getD_cons_zero, List.getD_cons_succ, List.set_cons_zero, List.set_cons_succ, List.replicate_succ, List.replicate_zero, Nat.reduceAdd, Nat.reduceSub, Nat.reduceLeDiff, Nat.zero_add, Nat.sub_zero, oB_bl, true_and, and_true, Bool.not_true, Bool.not_false, if_true, if_false, Bool.false_eq_true, reduceIte, mkD_f, oSub_i, oMod_i, oDiv_i, oPow_i, oAdd_i, oAdd_s, oAdd_t, oAdd_l, oMul_i, oMul_l, oLt_i, oLe_i, oGt_i, oGe_i, oMax2_i, oMin2_i, oAbs_i, oInt1_i, oInt1_b, oEq_i, oNe_i, oEq_b, oNe_b, oIsi_x, oIsN_d, oNotN_d, lsOf_l, lstOf_ob, seqOf_ob, lstOf_l, lstOf_s, seqOf_l, seqOf_s, seqOf_t, srcOf_l, srcOf_s, srcOf_ob, isL_ob, isL_l, lk_self, lk_ne, put_ne, del_ne, ne_eq, not_false_eq_true, put_nil, put_self, del_nil, del_self, oLen_l, oLen_t, oLen_sc, oLen_s, oLen_ob, oIx_l, oIx_t, oIx_ob, at_0, at_1, at_2, ix_30, ix_31, ix_32, oSl_l, oSl_ob, oAll_l, mApp_ob, mPop_ob, mClear_ob, Option.some.injEq, Cl.lst.injEq, Option.bind_some, Option.map_some, exists_eq_left', exists_eq_left, Option.isSome_some, exists_eq_right, and_assoc, exists_and_left, Prod.mk.injEq, oSort, oSortSet, oLenSet, hy1, decide_true, hvs, hvs.symm, hvu, hvu.symm, hvp, hvp.symm, hus, hus.symm, hup, hup.symm]
          refine ⟨?_, _, sub1 _ _, ?_⟩
          · rw [List.length_map]
            have := row_few (n := many.toNat) hpw (fun x hx => by have := hrg x hx; omega)
            have := sizeBig
            omega
          · have e : row.map D.int ++ [.int (0 + j)] = (row ++ [(j : Int)]).map D.int := by simp
            rw [e]
            refine fin _ _ _ ?_ ?_ ?_
            · refine List.pairwise_append.mpr ⟨hpw, List.pairwise_singleton _ _, fun a ha b hb => ?_⟩
              rw [List.mem_singleton] at hb
              have := hrg a ha
              omega
            · intro x hx
              rcases List.mem_append.mp hx with hx | hx
              · have := hrg x hx; omega
              · rw [List.mem_singleton] at hx; omega
            · intro hx
              rcases List.mem_append.mp hx with hx | hx
              · exact hno hx
              · rw [List.mem_singleton] at hx; omega
        · simp only [sRet, sIf, sSeq, sAsg, sDrop, sNext, sNever, sCt, sPar, sFor, sWhile, dAnd, dOr, dNot, dCB, dCons, dNil, dVar, dC, dOp, dTst, dAndT, dOrT, dNotT, dIf, dLst, dTup, dCl, dLc, dYes, dSl, dNoPart, dPart, dRev, dNeg, dChain, dM, dCall, tName, tTupG, tConss, tNils, tSub, iL, iE, iZ, iR1, iR2, startG, wipeG, List.map_cons, List.map_nil, List.length_cons, List.length_nil, List.cons_append, List.nil_append, List.append_nil, List.getD_cons_zero, List.getD_cons_succ, List.set_cons_zero, List.set_cons_succ, List.replicate_succ, List.replicate_zero, Nat.reduceAdd, Nat.reduceSub, Nat.reduceLeDiff, Nat.zero_add, Nat.sub_zero, oB_bl, true_and, and_true, Bool.not_true, Bool.not_false, if_true, if_false, Bool.false_eq_true, reduceIte, mkD_f, oSub_i, oMod_i, oDiv_i, oPow_i, oAdd_i, oAdd_s, oAdd_t, oAdd_l, oMul_i, oMul_l, oLt_i, oLe_i, oGt_i, oGe_i, oMax2_i, oMin2_i, oAbs_i, oInt1_i, oInt1_b, oEq_i, oNe_i, oEq_b, oNe_b, oIsi_x, oIsN_d, oNotN_d, lsOf_l, lstOf_ob, seqOf_ob, lstOf_l, lstOf_s, seqOf_l, seqOf_s, seqOf_t, srcOf_l, srcOf_s, srcOf_ob, isL_ob, isL_l, lk_self, lk_ne, put_ne, del_ne, ne_eq, not_false_eq_true, put_nil, put_self, del_nil, del_self, oLen_l, oLen_t, oLen_sc, oLen_s, oLen_ob, oIx_l, oIx_t, oIx_ob, at_0, at_1, at_2, ix_30, ix_31, ix_32, oSl_l, oSl_ob, oAll_l, mApp_ob, mPop_ob, mClear_ob, Option.some.injEq, Cl.lst.injEq, Option.bind_some, Option.map_some, exists_eq_left', exists_eq_left, Option.isSome_some, exists_eq_right, and_assoc, exists_and_left, Prod.mk.injEq, oSort, oSortSet, oLenSet, hy1, decide_false]
          exact ⟨_, sub1 _ _, same⟩
    · rintro r g ⟨ys', row, o7, o8, rfl, hsr', hpw, hrg, hno, rfl⟩
      refine ⟨keptN _, ?_⟩
      simp only [sRet, sIf, sSeq, sAsg, sDrop, sNext, sNever, sCt, sPar, sFor, sWhile, dAnd, dOr, dNot, dCB, dCons, dNil, dVar, dC, dOp, dTst, dAndT, dOrT, dNotT, dIf, dLst, dTup, dCl, dLc, dYes, dSl, dNoPart, dPart, dRev, dNeg, dChain, dM, dCall, tName, tTupG, tConss, tNils, tSub, iL, iE, iZ, iR1, iR2, startG, wipeG, List.map_cons, List.map_nil, List.length_cons, List.length_nil, List.cons_append, List.nil_append, List.append_nil, List.getD_cons_zero, List.getD_cons_succ, List.set_cons_zero, List.set_cons_succ, List.replicate_succ, List.replicate_zero, Nat.reduceAdd, Nat.reduceSub, Nat.reduceLeDiff, Nat.zero_add, Nat.sub_zero, oB_bl, true_and, and_true, Bool.not_true, Bool.not_false, if_true, if_false, Bool.false_eq_true, reduceIte, mkD_f, oSub_i, oMod_i, oDiv_i, oPow_i, oAdd_i, oAdd_s, oAdd_t, oAdd_l, oMul_i, oMul_l, oLt_i, oLe_i, oGt_i, oGe_i, oMax2_i, oMin2_i, oAbs_i, oInt1_i, oInt1_b, oEq_i, oNe_i, oEq_b, oNe_b, oIsi_x, oIsN_d, oNotN_d, lsOf_l, lstOf_ob, seqOf_ob, lstOf_l, lstOf_s, seqOf_l, seqOf_s, seqOf_t, srcOf_l, srcOf_s, srcOf_ob, isL_ob, isL_l, lk_self, lk_ne, put_ne, del_ne, ne_eq, not_false_eq_true, put_nil, put_self, del_nil, del_self, oLen_l, oLen_t, oLen_sc, oLen_s, oLen_ob, oIx_l, oIx_t, oIx_ob, at_0, at_1, at_2, ix_30, ix_31, ix_32, oSl_l, oSl_ob, oAll_l, mApp_ob, mPop_ob, mClear_ob, Option.some.injEq, Cl.lst.injEq, Option.bind_some, Option.map_some, exists_eq_left', exists_eq_left, Option.isSome_some, exists_eq_right, and_assoc, exists_and_left, Prod.mk.injEq, oSort, oSortSet, oLenSet, hup, hup.symm, hus, hus.symm, hps, hps.symm]
      have hrl : rows.length ≤ 12 := by omega
      refine ⟨?_, _, .refl _, ⟨ys', rows ++ [row], _, _, _, _, ?_, hsr'.mono ?_, ?_, ?_, rfl⟩⟩
      · have := sizeBig
        simp [netL]; omega
      · simp [netL]
      · have : (many.toNat : Int) = many := by omega
        rw [rangeD_length]
        omega
      · simp [hlen]
      · intro k row' hk
        by_cases hki : k < rows.length
        · rw [List.getElem?_append_left hki] at hk
          exact hrows k row' hk
        · rw [List.getElem?_append_right (by omega)] at hk
          have hk0 : k - rows.length = 0 := by
            by_cases z : k - rows.length = 0
            · exact z
            · rw [List.getElem?_eq_none (by simp; omega)] at hk; cases hk
          have hki' : k = i := by omega
          rw [hk0] at hk
          simp at hk
          subst hk
          rw [hki']
          exact ⟨hpw, fun x hx => by have := hrg x hx; omega, hno⟩
  · rintro r g ⟨ys, rows, o5, o6, o7, o8, rfl, hsr, hlen, hrows, rfl⟩
    refine ⟨keptN _, ?_⟩
    rw [rangeD_length] at hlen hsr
    simp only [sRet, sIf, sSeq, sAsg, sDrop, sNext, sNever, sCt, sPar, sFor, sWhile, dAnd, dOr, dNot, dCB, dCons, dNil, dVar, dC, dOp, dTst, dAndT, dOrT, dNotT, dIf, dLst, dTup, dCl, dLc, dYes, dSl, dNoPart, dPart, dRev, dNeg, dChain, dM, dCall, tName, tTupG, tConss, tNils, tSub, iL, iE, iZ, iR1, iR2, startG, wipeG, List.map_cons, List.map_nil, List.length_cons, List.length_nil, List.cons_append, List.nil_append, List.append_nil, List.getD_cons_zero, List.getD_cons_succ, List.set_cons_zero, List.set_cons_succ, List.replicate_succ, List.replicate_zero, Nat.reduceAdd, Nat.reduceSub, Nat.reduceLeDiff, Nat.zero_add, Nat.sub_zero, oB_bl, true_and, and_true, Bool.not_true, Bool.not_false, if_true, if_false, Bool.false_eq_true, reduceIte, mkD_f, oSub_i, oMod_i, oDiv_i, oPow_i, oAdd_i, oAdd_s, oAdd_t, oAdd_l, oMul_i, oMul_l, oLt_i, oLe_i, oGt_i, oGe_i, oMax2_i, oMin2_i, oAbs_i, oInt1_i, oInt1_b, oEq_i, oNe_i, oEq_b, oNe_b, oIsi_x, oIsN_d, oNotN_d, lsOf_l, lstOf_ob, seqOf_ob, lstOf_l, lstOf_s, seqOf_l, seqOf_s, seqOf_t, srcOf_l, srcOf_s, srcOf_ob, isL_ob, isL_l, lk_self, lk_ne, put_ne, del_ne, ne_eq, not_false_eq_true, put_nil, put_self, del_nil, del_self, oLen_l, oLen_t, oLen_sc, oLen_s, oLen_ob, oIx_l, oIx_t, oIx_ob, at_0, at_1, at_2, ix_30, ix_31, ix_32, oSl_l, oSl_ob, oAll_l, mApp_ob, mPop_ob, mClear_ob, Option.some.injEq, Cl.lst.injEq, Option.bind_some, Option.map_some, exists_eq_left', exists_eq_left, Option.isSome_some, exists_eq_right, and_assoc, exists_and_left, Prod.mk.injEq, oSort, oSortSet, oLenSet, hps, hps.symm]
    have hmany : (many.toNat : Int) = many := by omega
    refine ⟨_, .refl _, q rows ys (hsr.mono (by omega)) ⟨by omega, by omega, fun k row h => (hrows k row h).up, fun k row h x hx => ?_, fun k row h => (hrows k row h).no⟩⟩
    have := (hrows k row h).rg x hx
    omega
end CM

set_option Elab.async false
set_option linter.all false
set_option maxRecDepth 100000
set_option maxHeartbeats 4000000
namespace CM
open PySem DL
/-! ### small data: it may be shown -/
def Sm (dp w : Nat) (v : D) : Prop := ∃ q, toQ v = some q ∧ q.showable = true ∧ q.leavesShort 40 = true ∧ q.weight ≤ w ∧ q.depth ≤ dp
def Sms (dp w : Nat) (vs : List D) : Prop := ∃ qs, toQs vs = some qs ∧ PyData.showableAll qs = true ∧ PyData.leavesShortAll 40 qs = true ∧ PyData.weightAll qs ≤ w ∧ PyData.depthAll qs ≤ dp
theorem Sm.mono {a b c d : Nat} {v : D} (h : Sm a b v) (h1 : a ≤ c) (h2 : b ≤ d) : Sm c d v := let ⟨q, e, x, y, z, t⟩ := h; ⟨q, e, x, y, Nat.le_trans z h2, Nat.le_trans t h1⟩
theorem Sms.mono {a b c d : Nat} {v : List D} (h : Sms a b v) (h1 : a ≤ c) (h2 : b ≤ d) : Sms c d v := let ⟨q, e, x, y, z, t⟩ := h; ⟨q, e, x, y, Nat.le_trans z h2, Nat.le_trans t h1⟩
theorem Sms.nil {d w : Nat} : Sms d w [] := ⟨[], by simp [toQs], by simp [PyData.showableAll], by simp [PyData.leavesShortAll], by simp [PyData.weightAll], by simp [PyData.depthAll]⟩
theorem Sms.cons {d a b : Nat} {v : D} {vs : List D} (h : Sm d a v) (hs : Sms d b vs) : Sms d (a + 1 + b) (v :: vs) := by
  obtain ⟨q, e, x, y, z, t⟩ := h
  obtain ⟨qs, es, xs, ys, zs, ts⟩ := hs
  exact ⟨q :: qs, by simp [toQs, e, es], by simp [PyData.showableAll, x, xs], by simp [PyData.leavesShortAll, y, ys], by simp [PyData.weightAll]; omega, by simp [PyData.depthAll]; omega⟩
theorem Sms.app {d a b : Nat} : ∀ {vs ws : List D}, Sms d a vs → Sms d b ws → Sms d (a + b) (vs ++ ws)
  | [], ws, _, h => h.mono (Nat.le_refl _) (by omega)
  | v :: vs, ws, h, g => by
    obtain ⟨qs, es, xs, ys, zs, ts⟩ := h
    unfold toQs at es
    cases e1 : toQ v with
    | none => rw [e1] at es; cases es
    | some q =>
      cases e2 : toQs vs with
      | none => rw [e1, e2] at es; cases es
      | some qs' =>
        rw [e1, e2] at es
        cases es
        simp only [PyData.showableAll, PyData.leavesShortAll, PyData.weightAll, PyData.depthAll, Bool.and_eq_true] at xs ys zs ts
        have h1 : Sm d q.weight v := ⟨q, e1, xs.1, ys.1, Nat.le_refl _, by omega⟩
        have h2 : Sms d (PyData.weightAll qs') vs := ⟨qs', e2, xs.2, ys.2, Nat.le_refl _, by omega⟩
        exact (Sms.cons h1 (Sms.app h2 g)).mono (Nat.le_refl _) (by omega)
theorem Sm.lst {d w : Nat} {vs : List D} (h : Sms d w vs) : Sm (d + 1) w (.lst vs) := by
  obtain ⟨qs, es, xs, ys, zs, ts⟩ := h
  exact ⟨.list qs, by simp [toQ, es], by simp [PyData.showable, xs], by simp [PyData.leavesShort, ys], by simp [PyData.weight, zs], by simp [PyData.depth]; omega⟩
theorem Sm.tup {d w : Nat} {vs : List D} (h : Sms d w vs) : Sm (d + 1) w (.tup vs) := by
  obtain ⟨qs, es, xs, ys, zs, ts⟩ := h
  exact ⟨.tuple qs, by simp [toQ, es], by simp [PyData.showable, xs], by simp [PyData.leavesShort, ys], by simp [PyData.weight, zs], by simp [PyData.depth]; omega⟩
theorem Sm.d0 {w : Nat} : Sm 1 w (.dct []) := ⟨.dict [], by simp [toQ], by simp [PyData.showable, PyData.showableKv], by simp [PyData.leavesShort, PyData.leavesShortKv], by simp [PyData.weight, PyData.weightKv], by simp [PyData.depth, PyData.depthKv]⟩
theorem Sm.non {d w : Nat} : Sm d w .non := ⟨.none, by simp [toQ], by simp [PyData.showable], by simp [PyData.leavesShort], by simp [PyData.weight], by simp [PyData.depth]⟩
theorem Sm.bl {d w : Nat} {b : Bool} : Sm d w (.bl b) := ⟨.bool b, by simp [toQ], by simp [PyData.showable], by simp [PyData.leavesShort], by simp [PyData.weight], by simp [PyData.depth]⟩
theorem int_facts : ∀ i : Fin 2000, (PyData.showable (.int ((i : Int) - 1000)) && PyData.leavesShort 40 (.int ((i : Int) - 1000)) && decide (PyData.weight (.int ((i : Int) - 1000)) ≤ 10)) = true := by decide +kernel
theorem Sm.int {i : Int} {d w : Nat} (h : -1000 ≤ i) (h2 : i < 1000) (hw : 10 ≤ w) : Sm d w (.int i) := by
  have f := int_facts ⟨(i + 1000).toNat, by omega⟩
  have e : ((((i + 1000).toNat : Nat) : Int) - 1000) = i := by omega
  simp only [e, Bool.and_eq_true, decide_eq_true_eq] at f
  exact ⟨.int i, by simp [toQ], f.1.1, f.1.2, by omega, by simp [PyData.depth]⟩
theorem Sm.big {d w : Nat} (hw : 100 ≤ w) : Sm d w (.int (10 ^ 30)) := by
  have f : (PyData.showable (.int (10 ^ 30)) && PyData.leavesShort 40 (.int (10 ^ 30)) && decide (PyData.weight (.int (10 ^ 30)) ≤ 100)) = true := by decide +kernel
  simp only [Bool.and_eq_true, decide_eq_true_eq] at f
  exact ⟨.int (10 ^ 30), by simp [toQ], f.1.1, f.1.2, by omega, by simp [PyData.depth]⟩
theorem Sm.str {d w : Nat} {x : Str} (h : (x.cps.toList.all fun c => decide (c < 16 ^ 8)) = true) (hw : x.cps.size ≤ w) : Sm d w (.str x) := ⟨.str x, by simp [toQ], by simp [PyData.showable], by simpa [PyData.leavesShort] using h, by simp [PyData.weight, hw], by simp [PyData.depth]⟩
theorem Sms.all {d w : Nat} : ∀ {vs : List D}, (∀ v ∈ vs, Sm d w v) → Sms d ((w + 1) * vs.length) vs
  | [], _ => .nil
  | v :: vs, h => (Sms.cons (h v List.mem_cons_self) (Sms.all fun x hx => h x (List.mem_cons_of_mem _ hx))).mono (Nat.le_refl _) (by simp [Nat.mul_add]; omega)
theorem Sms.ints {ns : List Int} {d : Nat} (h : ∀ x ∈ ns, -1000 ≤ x ∧ x < 1000) : Sms d (11 * ns.length) (ns.map .int) := by
  have := Sms.all (d := d) (w := 10) (vs := ns.map D.int) fun v hv => by
    obtain ⟨i, hi, rfl⟩ := List.mem_map.mp hv
    exact Sm.int (h i hi).1 (h i hi).2 (Nat.le_refl _)
  simpa using this
theorem NetOk.sm {net : List (List Int)} (h : NetOk net) : Sm 2 2000 (netD net) := by
  have h1 : ∀ v ∈ net.map (fun row => D.lst (row.map .int)), Sm 1 132 v := fun v hv => by
    obtain ⟨row, hr, rfl⟩ := List.mem_map.mp hv
    obtain ⟨i, hi⟩ := List.getElem?_of_mem hr
    have hl := h.few hi
    have hb := h.l2
    exact (Sm.lst (d := 0) (Sms.ints fun x hx => by have := h.rg i row hi x hx; omega)).mono (Nat.le_refl _) (by omega)
  have h2 := Sms.all h1
  have hb := h.l2
  exact (Sm.lst h2).mono (Nat.le_refl _) (by rw [List.length_map]; omega)
/-- what repr gives -/
def shw (v : D) : Str := match toQ v with
  | some q => q.shown
  | none => ""
theorem repr_ok {dp w : Nat} {x : D} {r : R} {Q : R → D → Prop} (h : Sm dp w x) (hd : dp ≤ 60) (hw : w ≤ 300000) (hs : (seqOf [] x).isSome = true) (q : Q r (.str (shw x))) : oReprX [x] r Q := by
  obtain ⟨p, e, h1, h2, h3, h4⟩ := h
  have hz := PyData.shown_le 40 (by decide) p h2
  have : (20000000 : Nat) ≤ sizeLine ∨ (16000000 : Nat) ≤ sizeLine := by decide
  have hzz : (42 * 300000 + 40 : Nat) ≤ sizeLine := by decide
  refine ⟨p, e, h1, by omega, by omega, hs, ?_⟩
  unfold shw at q
  rw [e] at q
  exact q
theorem oEqS_s {neg : Bool} {x y : Str} {r : R} {Q : R → D → Prop} (q : Q r (.bl (if neg then !decide (x = y) else decide (x = y)))) : oEqS neg (.str x) (.str y) r Q := .inl ⟨rfl, q⟩
/-! ### picks -/
theorem pickL {xs : List D} {i : Int} (h : 0 ≤ i) (h2 : i < xs.length) : ∃ x, L2.atI xs i = some x ∧ x ∈ xs := by
  have hl : i.toNat < xs.length := by omega
  exact ⟨xs[i.toNat], atI_ok h (List.getElem?_eq_getElem hl), List.getElem_mem hl⟩
theorem pickP {xs : List D} {i : Int} (h : 0 ≤ i) (h2 : i < xs.length) {P : D → Prop} (hp : ∀ x ∈ xs, P x) : ∃ x, L2.atI xs i = some x ∧ P x := by
  obtain ⟨x, e, m⟩ := pickL h h2
  exact ⟨x, e, hp x m⟩
theorem oTuple_l {xs : List D} {r : R} {Q : R → D → Prop} : oTuple [.lst xs] r Q = Q r (.tup xs) := by simp [oTuple, lstOf]
theorem oAdd_sl {mk : Bool} {ns : List Int} {ys : List D} {r : R} {Q : R → D → Prop} : oAdd mk (.scr ns) (.lst ys) r Q = ((ns.map D.int).length + ys.length ≤ sizeLine ∧ mkD mk (ns.map D.int ++ ys) r Q) := by simp [oAdd, lstOf]

/-! ### strolls, trails -/
def stepT (acc : List Int) (x : Int) : List Int := if x ∈ acc then acc.take (acc.idxOf x + 1) else acc ++ [x]
def trailI (ns : List Int) : List Int := ns.foldl stepT []
structure RowsIn (n : Nat) (ns : List Int) : Prop where
  ne : ns ≠ []
  rg : ∀ x ∈ ns, 0 ≤ x ∧ x < n
abbrev sp__law_stroll : DSp := fun r ds Q => ∃ s xs m net most, ds = [.ob s, netD net, .int most] ∧ r = [(s, .lst xs)] ∧ SrcB m xs ∧ m ≤ 10 ^ 11 ∧ NetOk net ∧ 1 ≤ most ∧ most ≤ 100 ∧
  ∀ ns ys, SrcB (m + 100) ys → RowsIn net.length ns → (ns.length : Int) ≤ most → Q [(s, .lst ys)] (.lst (ns.map .int))
abbrev sp__law_trail : DSp := fun r ds Q => ∃ ns : List Int, ds = [.lst (ns.map .int)] ∧ ns.length ≤ 10000 ∧ Q r (.lst ((trailI ns).map .int))
end CM

set_option Elab.async false
set_option linter.all false
set_option maxRecDepth 100000
set_option maxHeartbeats 4000000
namespace CM
open PySem L2 DL
def N__law_stroll : List Str := ["_law_source_here", "_law_net_here", "_law_most", "_law_found", "_law_step", "_law_row"]
def b__law_stroll : DS :=
  (sSeq
  (sAsg (dLst true (dCons (dCall sp__law_draw (dCons (dVar 0) (dCons (dCB oLen (dCons (dVar 1) dNil)) dNil))) dNil)) (tName 3))
  (sSeq
  (sFor (iR1 (dCons (dOp oSub (dVar 2) (dC (.int 1))) dNil)) (tName 4)
  (sSeq
  (sAsg (dOp oIx (dVar 1) (dOp oIx (dVar 3) (dNeg (dC (.int 1))))) (tName 5))
  (sIf (dTst (dOp (oEq true) (dVar 5) (dLst false dNil)))
  (sDrop (dM isL mApp (dVar 3) (dCons (dOp oIx (dVar 5) (dCall sp__law_draw (dCons (dVar 0) (dCons (dCB oLen (dCons (dVar 5) dNil)) dNil)))) dNil)))
  sNext)))
  (sRet (dSl false (dVar 3) dNoPart (dPart (dVar 2))))))
def N__law_trail : List Str := ["_law_row", "_law_found", "_law_spot"]
def b__law_trail : DS :=
  (sSeq
  (sAsg (dLst false dNil) (tName 1))
  (sSeq
  (sFor (iL (dVar 0)) (tName 2)
  (sAsg (dIf (dTst (dOp (oIn false) (dVar 2) (dVar 1))) (dSl false (dVar 1) dNoPart (dPart (dOp (oAdd false) (dM isL mIndex (dVar 1) (dCons (dVar 2) dNil)) (dC (.int 1))))) (dOp (oAdd false) (dVar 1) (dLst false (dCons (dVar 2) dNil)))) (tName 1)))
  (sRet (dVar 1))))
end CM

set_option Elab.async false
set_option linter.all false
set_option maxRecDepth 100000
set_option maxHeartbeats 4000000
namespace CM
open PySem DL
theorem NetOk.at {net : List (List Int)} (h : NetOk net) {i : Int} (h0 : 0 ≤ i) (h1 : i < net.length) : ∃ row, net[i.toNat]? = some row ∧ L2.atI (net.map fun row => D.lst (row.map .int)) i = some (.lst (row.map .int)) ∧ ∀ x ∈ row, 0 ≤ x ∧ x < net.length := by
  have hi : i.toNat < net.length := by omega
  have hg : net[i.toNat]? = some net[i.toNat] := List.getElem?_eq_getElem hi
  exact ⟨_, hg, atI_ok h0 (netD_get hg), h.rg _ _ hg⟩
theorem atI_last {ns : List Int} (h : ns ≠ []) : ∃ x ∈ ns, L2.atI (ns.map D.int) (-1) = some (.int x) := by
  have hl : 0 < ns.length := List.length_pos_iff.mpr h
  refine ⟨ns[ns.length - 1], List.getElem_mem _, ?_⟩
  unfold L2.atI L2.ixN
  rw [if_neg (by decide), if_pos (by rw [List.length_map]; omega)]
  have e : ((-1 : Int) + ((ns.map D.int).length : Nat)).toNat = ns.length - 1 := by rw [List.length_map]; omega
  show (ns.map D.int)[((-1 : Int) + ((ns.map D.int).length : Nat)).toNat]? = _
  rw [e, List.getElem?_map, List.getElem?_eq_getElem (by omega)]
  rfl
theorem atI_ints {ns : List Int} {i : Int} (h : 0 ≤ i) (h2 : i < ns.length) : ∃ x ∈ ns, L2.atI (ns.map D.int) i = some (.int x) := by
  have hl : i.toNat < ns.length := by omega
  exact ⟨ns[i.toNat], List.getElem_mem _, atI_ok h (by rw [List.getElem?_map, List.getElem?_eq_getElem hl]; rfl)⟩
theorem oNe_nil {ns : List Int} {r : R} {Q : R → D → Prop} (q : Q r (.bl (!decide (ns = [])))) : oEq true (.lst (ns.map .int)) (.lst []) r Q := oEq_ints (a := ns) (b := []) q
theorem oEq_nilI {ns : List Int} {r : R} {Q : R → D → Prop} (q : Q r (.bl (decide (ns = [])))) : oEq false (.lst (ns.map .int)) (.lst []) r Q := oEq_ints (a := ns) (b := []) q
structure StrI (s p : Addr) (net : List (List Int)) (most : Int) (m : Int) (i : Nat) (r : R) (g : G) : Prop where
  ex : ∃ (ys : List D) (ns : List Int) (o4 o5 : Option D), r = [(s, .lst ys), (p, .lst (ns.map .int))] ∧ SrcB (m + 1 + i) ys ∧ RowsIn net.length ns ∧ ns.length ≤ i + 1 ∧
      g = [some (.ob s), some (netD net), some (.int most), some (.ob p), o4, o5]
theorem d__law_stroll : Does b__law_stroll N__law_stroll sp__law_stroll := by
  rintro r ds Q ⟨s, xs, m, net, most, rfl, rfl, hs, hm, hn, h1, h2, q⟩
  have n1 := hn.l1
  have n2 := hn.l2
  simp only [sRet, sIf, sSeq, sAsg, sDrop, sNext, sNever, sCt, sPar, sFor, sWhile, dAnd, dOr, dNot, dCB, dCons, dNil, dVar, dC, dOp, dTst, dAndT, dOrT, dNotT, dIf, dLst, dTup, dCl, dLc, dYes, dSl, dNoPart, dPart, dRev, dNeg, dChain, dM, dCall, tName, tTupG, tConss, tNils, tSub, iL, iE, iZ, iR1, iR2, startG, wipeG, List.map_cons, List.map_nil, List.length_cons, List.length_nil, List.cons_append, List.nil_append, List.append_nil, List.getD_cons_zero, List.getD_cons_succ, List.set_cons_zero, List.set_cons_succ, List.replicate_succ, List.replicate_zero, Nat.reduceAdd, Nat.reduceSub, Nat.reduceLeDiff, Nat.zero_add, Nat.sub_zero, oB_bl, true_and, and_true, Bool.not_true, Bool.not_false, if_true, if_false, Bool.false_eq_true, reduceIte, mkD_f, oSub_i, oMod_i, oDiv_i, oPow_i, oAdd_i, oAdd_s, oAdd_t, oAdd_l, oMul_i, oMul_l, oLt_i, oLe_i, oGt_i, oGe_i, oMax2_i, oMin2_i, oAbs_i, oInt1_i, oInt1_b, oEq_i, oNe_i, oEq_b, oNe_b, oIsi_x, oIsN_d, oNotN_d, lsOf_l, lstOf_ob, seqOf_ob, lstOf_l, lstOf_s, seqOf_l, seqOf_s, seqOf_t, srcOf_l, srcOf_s, srcOf_ob, isL_ob, isL_l, lk_self, lk_ne, put_ne, del_ne, ne_eq, not_false_eq_true, put_nil, put_self, del_nil, del_self, oLen_l, oLen_t, oLen_sc, oLen_s, oLen_ob, oIx_l, oIx_t, oIx_ob, at_0, at_1, at_2, ix_30, ix_31, ix_32, oSl_l, oSl_ob, oAll_l, mApp_ob, mPop_ob, mClear_ob, Option.some.injEq, Cl.lst.injEq, Option.bind_some, Option.map_some, exists_eq_left', exists_eq_left, Option.isSome_some, exists_eq_right, and_assoc, exists_and_left, Prod.mk.injEq, oSort, oSortSet, oLenSet, b__law_stroll, N__law_stroll, netD]
  refine ⟨[(s, _)], [], .refl _, _, _, _, _, rfl, rfl, hs, by omega, by rw [List.length_map]; omega, by rw [List.length_map]; omega, fun d1 ys1 hs1 hd1 he1 => ?_⟩
  rw [List.length_map] at he1
  simp only [sRet, sIf, sSeq, sAsg, sDrop, sNext, sNever, sCt, sPar, sFor, sWhile, dAnd, dOr, dNot, dCB, dCons, dNil, dVar, dC, dOp, dTst, dAndT, dOrT, dNotT, dIf, dLst, dTup, dCl, dLc, dYes, dSl, dNoPart, dPart, dRev, dNeg, dChain, dM, dCall, tName, tTupG, tConss, tNils, tSub, iL, iE, iZ, iR1, iR2, startG, wipeG, List.map_cons, List.map_nil, List.length_cons, List.length_nil, List.cons_append, List.nil_append, List.append_nil, List.getD_cons_zero, List.getD_cons_succ, List.set_cons_zero, List.set_cons_succ, List.replicate_succ, List.replicate_zero, Nat.reduceAdd, Nat.reduceSub, Nat.reduceLeDiff, Nat.zero_add, Nat.sub_zero, oB_bl, true_and, and_true, Bool.not_true, Bool.not_false, if_true, if_false, Bool.false_eq_true, reduceIte, mkD_f, oSub_i, oMod_i, oDiv_i, oPow_i, oAdd_i, oAdd_s, oAdd_t, oAdd_l, oMul_i, oMul_l, oLt_i, oLe_i, oGt_i, oGe_i, oMax2_i, oMin2_i, oAbs_i, oInt1_i, oInt1_b, oEq_i, oNe_i, oEq_b, oNe_b, oIsi_x, oIsN_d, oNotN_d, lsOf_l, lstOf_ob, seqOf_ob, lstOf_l, lstOf_s, seqOf_l, seqOf_s, seqOf_t, srcOf_l, srcOf_s, srcOf_ob, isL_ob, isL_l, lk_self, lk_ne, put_ne, del_ne, ne_eq, not_false_eq_true, put_nil, put_self, del_nil, del_self, oLen_l, oLen_t, oLen_sc, oLen_s, oLen_ob, oIx_l, oIx_t, oIx_ob, at_0, at_1, at_2, ix_30, ix_31, ix_32, oSl_l, oSl_ob, oAll_l, mApp_ob, mPop_ob, mClear_ob, Option.some.injEq, Cl.lst.injEq, Option.bind_some, Option.map_some, exists_eq_left', exists_eq_left, Option.isSome_some, exists_eq_right, and_assoc, exists_and_left, Prod.mk.injEq, oSort, oSortSet, oLenSet, mkD_t]
  refine ⟨by decide, fun p hp => ?_⟩
  obtain ⟨hps, _⟩ := ne_of_out hp
  refine ⟨by omega, by omega, ?_⟩
  refine ⟨StrI s p net most m, ⟨_, .ofP (.swap _ _ _), ⟨ys1, [d1], none, none, rfl, hs1.mono (by omega), ⟨by simp, fun x hx => by rw [List.mem_singleton] at hx; omega⟩, by simp, rfl⟩⟩, ?_, ?_⟩
  · rintro i d r g hd ⟨ys, ns, o4, o5, rfl, hsr, hin, hlen, rfl⟩
    obtain ⟨hi, rfl⟩ := rangeD_at hd
    refine ⟨keptN _, ?_⟩
    obtain ⟨x, hx, hat⟩ := atI_last hin.ne
    obtain ⟨row, hg, hat2, hrow⟩ := hn.at (hin.rg x hx).1 (hin.rg x hx).2
    have hfew := hn.few hg
    simp only [sRet, sIf, sSeq, sAsg, sDrop, sNext, sNever, sCt, sPar, sFor, sWhile, dAnd, dOr, dNot, dCB, dCons, dNil, dVar, dC, dOp, dTst, dAndT, dOrT, dNotT, dIf, dLst, dTup, dCl, dLc, dYes, dSl, dNoPart, dPart, dRev, dNeg, dChain, dM, dCall, tName, tTupG, tConss, tNils, tSub, iL, iE, iZ, iR1, iR2, startG, wipeG, List.map_cons, List.map_nil, List.length_cons, List.length_nil, List.cons_append, List.nil_append, List.append_nil, List.getD_cons_zero, List.getD_cons_succ, List.set_cons_zero, List.set_cons_succ, List.replicate_succ, List.replicate_zero, Nat.reduceAdd, Nat.reduceSub, Nat.reduceLeDiff, Nat.zero_add, Nat.sub_zero, oB_bl, true_and, and_true, Bool.not_true, Bool.not_false, if_true, if_false, Bool.false_eq_true, reduceIte, mkD_f, oSub_i, oMod_i, oDiv_i, oPow_i, oAdd_i, oAdd_s, oAdd_t, oAdd_l, oMul_i, oMul_l, oLt_i, oLe_i, oGt_i, oGe_i, oMax2_i, oMin2_i, oAbs_i, oInt1_i, oInt1_b, oEq_i, oNe_i, oEq_b, oNe_b, oIsi_x, oIsN_d, oNotN_d, lsOf_l, lstOf_ob, seqOf_ob, lstOf_l, lstOf_s, seqOf_l, seqOf_s, seqOf_t, srcOf_l, srcOf_s, srcOf_ob, isL_ob, isL_l, lk_self, lk_ne, put_ne, del_ne, ne_eq, not_false_eq_true, put_nil, put_self, del_nil, del_self, oLen_l, oLen_t, oLen_sc, oLen_s, oLen_ob, oIx_l, oIx_t, oIx_ob, at_0, at_1, at_2, ix_30, ix_31, ix_32, oSl_l, oSl_ob, oAll_l, mApp_ob, mPop_ob, mClear_ob, Option.some.injEq, Cl.lst.injEq, Option.bind_some, Option.map_some, exists_eq_left', exists_eq_left, Option.isSome_some, exists_eq_right, and_assoc, exists_and_left, Prod.mk.injEq, oSort, oSortSet, oLenSet, hps, hps.symm, hat, netD, hat2]
    refine ⟨Nat.zero_le _, oNe_nil ?_⟩
    by_cases he : row = []
    · simp only [sRet, sIf, sSeq, sAsg, sDrop, sNext, sNever, sCt, sPar, sFor, sWhile, dAnd, dOr, dNot, dCB, dCons, dNil, dVar, dC, dOp, dTst, dAndT, dOrT, dNotT, dIf, dLst, dTup, dCl, dLc, dYes, dSl, dNoPart, dPart, dRev, dNeg, dChain, dM, dCall, tName, tTupG, tConss, tNils, tSub, iL, iE, iZ, iR1, iR2, startG, wipeG, List.map_cons, List.map_nil, List.length_cons, List.length_nil, List.cons_append, List.nil_append, List.append_nil, List.getD_cons_zero, List.getD_cons_succ, List.set_cons_zero, List.set_cons_succ, List.replicate_succ, List.replicate_zero, Nat.reduceAdd, Nat.reduceSub, Nat.reduceLeDiff, Nat.zero_add, Nat.sub_zero, oB_bl, true_and, and_true, Bool.not_true, Bool.not_false, if_true, if_false, Bool.false_eq_true, reduceIte, mkD_f, oSub_i, oMod_i, oDiv_i, oPow_i, oAdd_i, oAdd_s, oAdd_t, oAdd_l, oMul_i, oMul_l, oLt_i, oLe_i, oGt_i, oGe_i, oMax2_i, oMin2_i, oAbs_i, oInt1_i, oInt1_b, oEq_i, oNe_i, oEq_b, oNe_b, oIsi_x, oIsN_d, oNotN_d, lsOf_l, lstOf_ob, seqOf_ob, lstOf_l, lstOf_s, seqOf_l, seqOf_s, seqOf_t, srcOf_l, srcOf_s, srcOf_ob, isL_ob, isL_l, lk_self, lk_ne, put_ne, del_ne, ne_eq, not_false_eq_true, put_nil, put_self, del_nil, del_self, oLen_l, oLen_t, oLen_sc, oLen_s, oLen_ob, oIx_l, oIx_t, oIx_ob, at_0, at_1, at_2, ix_30, ix_31, ix_32, oSl_l, oSl_ob, oAll_l, mApp_ob, mPop_ob, mClear_ob, Option.some.injEq, Cl.lst.injEq, Option.bind_some, Option.map_some, exists_eq_left', exists_eq_left, Option.isSome_some, exists_eq_right, and_assoc, exists_and_left, Prod.mk.injEq, oSort, oSortSet, oLenSet, he, decide_true]
      exact ⟨_, .refl _, ⟨ys, ns, _, _, rfl, hsr.mono (by omega), hin, by omega, rfl⟩⟩
    · simp only [sRet, sIf, sSeq, sAsg, sDrop, sNext, sNever, sCt, sPar, sFor, sWhile, dAnd, dOr, dNot, dCB, dCons, dNil, dVar, dC, dOp, dTst, dAndT, dOrT, dNotT, dIf, dLst, dTup, dCl, dLc, dYes, dSl, dNoPart, dPart, dRev, dNeg, dChain, dM, dCall, tName, tTupG, tConss, tNils, tSub, iL, iE, iZ, iR1, iR2, startG, wipeG, List.map_cons, List.map_nil, List.length_cons, List.length_nil, List.cons_append, List.nil_append, List.append_nil, List.getD_cons_zero, List.getD_cons_succ, List.set_cons_zero, List.set_cons_succ, List.replicate_succ, List.replicate_zero, Nat.reduceAdd, Nat.reduceSub, Nat.reduceLeDiff, Nat.zero_add, Nat.sub_zero, oB_bl, true_and, and_true, Bool.not_true, Bool.not_false, if_true, if_false, Bool.false_eq_true, reduceIte, mkD_f, oSub_i, oMod_i, oDiv_i, oPow_i, oAdd_i, oAdd_s, oAdd_t, oAdd_l, oMul_i, oMul_l, oLt_i, oLe_i, oGt_i, oGe_i, oMax2_i, oMin2_i, oAbs_i, oInt1_i, oInt1_b, oEq_i, oNe_i, oEq_b, oNe_b, oIsi_x, oIsN_d, oNotN_d, lsOf_l, lstOf_ob, seqOf_ob, lstOf_l, lstOf_s, seqOf_l, seqOf_s, seqOf_t, srcOf_l, srcOf_s, srcOf_ob, isL_ob, isL_l, lk_self, lk_ne, put_ne, del_ne, ne_eq, not_false_eq_true, put_nil, put_self, del_nil, del_self, oLen_l, oLen_t, oLen_sc, oLen_s, oLen_ob, oIx_l, oIx_t, oIx_ob, at_0, at_1, at_2, ix_30, ix_31, ix_32, oSl_l, oSl_ob, oAll_l, mApp_ob, mPop_ob, mClear_ob, Option.some.injEq, Cl.lst.injEq, Option.bind_some, Option.map_some, exists_eq_left', exists_eq_left, Option.isSome_some, exists_eq_right, and_assoc, exists_and_left, Prod.mk.injEq, oSort, oSortSet, oLenSet, he, decide_false, hps, hps.symm]
      have hrl : 0 < row.length := List.length_pos_iff.mpr he
      refine ⟨[(s, _)], [_], .refl _, _, _, _, _, rfl, rfl, hsr, by omega, by rw [List.length_map]; omega, by rw [List.length_map]; omega, fun d2 ys2 hs2 hd2 he2 => ?_⟩
      rw [List.length_map] at he2
      obtain ⟨y, hy, hat3⟩ := atI_ints hd2 he2
      have hyr := hrow y hy
      simp only [sRet, sIf, sSeq, sAsg, sDrop, sNext, sNever, sCt, sPar, sFor, sWhile, dAnd, dOr, dNot, dCB, dCons, dNil, dVar, dC, dOp, dTst, dAndT, dOrT, dNotT, dIf, dLst, dTup, dCl, dLc, dYes, dSl, dNoPart, dPart, dRev, dNeg, dChain, dM, dCall, tName, tTupG, tConss, tNils, tSub, iL, iE, iZ, iR1, iR2, startG, wipeG, List.map_cons, List.map_nil, List.length_cons, List.length_nil, List.cons_append, List.nil_append, List.append_nil, List.getD_cons_zero, List.getD_cons_succ, List.set_cons_zero, List.set_cons_succ, List.replicate_succ, List.replicate_zero, Nat.reduceAdd, Nat.reduceSub, Nat.reduceLeDiff, Nat.zero_add, Nat.sub_zero, oB_bl, true_and, and_true, Bool.not_true, Bool.not_false, if_true, if_false, Bool.false_eq_true, reduceIte, mkD_f, oSub_i, oMod_i, oDiv_i, oPow_i, oAdd_i, oAdd_s, oAdd_t, oAdd_l, oMul_i, oMul_l, oLt_i, oLe_i, oGt_i, oGe_i, oMax2_i, oMin2_i, oAbs_i, oInt1_i, oInt1_b, oEq_i, oNe_i, oEq_b, oNe_b, oIsi_x, oIsN_d, oNotN_d, lsOf_l, lstOf_ob, seqOf_ob, lstOf_l, lstOf_s, seqOf_l, seqOf_s, seqOf_t, srcOf_l, srcOf_s, srcOf_ob, isL_ob, isL_l, lk_self, lk_ne, put_ne, del_ne, ne_eq, not_false_eq_true, put_nil, put_self, del_nil, del_self, oLen_l, oLen_t, oLen_sc, oLen_s, oLen_ob, oIx_l, oIx_t, oIx_ob, at_0, at_1, at_2, ix_30, ix_31, ix_32, oSl_l, oSl_ob, oAll_l, mApp_ob, mPop_ob, mClear_ob, Option.some.injEq, Cl.lst.injEq, Option.bind_some, Option.map_some, exists_eq_left', exists_eq_left, Option.isSome_some, exists_eq_right, and_assoc, exists_and_left, Prod.mk.injEq, oSort, oSortSet, oLenSet, hat3, hps, hps.symm]
      refine ⟨by have := sizeBig; rw [List.length_map]; omega, _, .refl _, ⟨ys2, ns ++ [y], _, _, by simp, hs2.mono (by omega), ⟨by simp, fun z hz => ?_⟩, by simp; omega, rfl⟩⟩
      rcases List.mem_append.mp hz with hz | hz
      · exact hin.rg z hz
      · rw [List.mem_singleton] at hz; subst hz; exact hyr
  · rintro r g ⟨ys, ns, o4, o5, rfl, hsr, hin, hlen, rfl⟩
    rw [rangeD_length] at hlen hsr
    refine ⟨keptN _, ?_⟩
    simp only [sRet, sIf, sSeq, sAsg, sDrop, sNext, sNever, sCt, sPar, sFor, sWhile, dAnd, dOr, dNot, dCB, dCons, dNil, dVar, dC, dOp, dTst, dAndT, dOrT, dNotT, dIf, dLst, dTup, dCl, dLc, dYes, dSl, dNoPart, dPart, dRev, dNeg, dChain, dM, dCall, tName, tTupG, tConss, tNils, tSub, iL, iE, iZ, iR1, iR2, startG, wipeG, List.map_cons, List.map_nil, List.length_cons, List.length_nil, List.cons_append, List.nil_append, List.append_nil, List.getD_cons_zero, List.getD_cons_succ, List.set_cons_zero, List.set_cons_succ, List.replicate_succ, List.replicate_zero, Nat.reduceAdd, Nat.reduceSub, Nat.reduceLeDiff, Nat.zero_add, Nat.sub_zero, oB_bl, true_and, and_true, Bool.not_true, Bool.not_false, if_true, if_false, Bool.false_eq_true, reduceIte, mkD_f, oSub_i, oMod_i, oDiv_i, oPow_i, oAdd_i, oAdd_s, oAdd_t, oAdd_l, oMul_i, oMul_l, oLt_i, oLe_i, oGt_i, oGe_i, oMax2_i, oMin2_i, oAbs_i, oInt1_i, oInt1_b, oEq_i, oNe_i, oEq_b, oNe_b, oIsi_x, oIsN_d, oNotN_d, lsOf_l, lstOf_ob, seqOf_ob, lstOf_l, lstOf_s, seqOf_l, seqOf_s, seqOf_t, srcOf_l, srcOf_s, srcOf_ob, isL_ob, isL_l, lk_self, lk_ne, put_ne, del_ne, ne_eq, not_false_eq_true, put_nil, put_self, del_nil, del_self, oLen_l, oLen_t, oLen_sc, oLen_s, oLen_ob, oIx_l, oIx_t, oIx_ob, at_0, at_1, at_2, ix_30, ix_31, ix_32, oSl_l, oSl_ob, oAll_l, mApp_ob, mPop_ob, mClear_ob, Option.some.injEq, Cl.lst.injEq, Option.bind_some, Option.map_some, exists_eq_left', exists_eq_left, Option.isSome_some, exists_eq_right, and_assoc, exists_and_left, Prod.mk.injEq, oSort, oSortSet, oLenSet, hps, hps.symm]
    rw [cutL_to _ (by omega)]
    have hne : ns.take most.toNat ≠ [] := by
      have := hin.ne
      have h3 : most.toNat ≠ 0 := by omega
      simp [List.take_eq_nil_iff, this, h3]
    refine ⟨[(s, .lst ys)], .of (.cons₂ _ (.cons _ (.refl _))), ?_⟩
    have e : (ns.map D.int).take most.toNat = (ns.take most.toNat).map .int := by rw [List.map_take]
    rw [e]
    exact q (ns.take most.toNat) ys (hsr.mono (by omega)) ⟨hne, fun x hx => hin.rg x (List.mem_of_mem_take hx)⟩ (by rw [List.length_take]; omega)
theorem trail_snoc (ns : List Int) (x : Int) : trailI (ns ++ [x]) = stepT (trailI ns) x := by simp [trailI, List.foldl_append]
theorem stepT_mem {acc : List Int} {x y : Int} (h : y ∈ stepT acc x) : y ∈ acc ∨ y = x := by
  unfold stepT at h
  split at h
  · exact .inl (List.mem_of_mem_take h)
  · rcases List.mem_append.mp h with h | h
    · exact .inl h
    · exact .inr (List.mem_singleton.mp h)
theorem stepT_len (acc : List Int) (x : Int) : (stepT acc x).length ≤ acc.length + 1 := by
  unfold stepT
  split
  · rw [List.length_take]; omega
  · simp
theorem stepT_ne (acc : List Int) (x : Int) : stepT acc x ≠ [] := by
  unfold stepT
  split
  · rename_i h
    have : acc ≠ [] := List.ne_nil_of_mem h
    simp [List.take_eq_nil_iff, this]
  · simp
theorem trail_mem : ∀ {ns : List Int} {acc : List Int} {y : Int}, y ∈ ns.foldl stepT acc → y ∈ acc ∨ y ∈ ns
  | [], acc, y, h => .inl h
  | x :: ns, acc, y, h => by
    rcases trail_mem (ns := ns) (acc := stepT acc x) h with h | h
    · rcases stepT_mem h with h | rfl
      · exact .inl h
      · exact .inr List.mem_cons_self
    · exact .inr (List.mem_cons_of_mem _ h)
theorem trail_len : ∀ {ns acc : List Int}, (ns.foldl stepT acc).length ≤ acc.length + ns.length
  | [], acc => by simp
  | x :: ns, acc => by
    have := trail_len (ns := ns) (acc := stepT acc x)
    have := stepT_len acc x
    simp only [List.foldl_cons, List.length_cons]
    omega
theorem trailI_in {n : Nat} {ns : List Int} (h : RowsIn n ns) : RowsIn n (trailI ns) ∧ (trailI ns).length ≤ ns.length := by
  refine ⟨⟨?_, fun x hx => ?_⟩, by have := trail_len (ns := ns) (acc := []); simpa [trailI] using this⟩
  · have hne := h.ne
    obtain ⟨ms, x, rfl⟩ : ∃ ms x, ns = ms ++ [x] := ⟨_, _, (List.dropLast_concat_getLast hne).symm⟩
    rw [trail_snoc]
    exact stepT_ne _ _
  · rcases trail_mem hx with h2 | h2
    · exact absurd h2 (by simp)
    · exact h.rg x h2
theorem idx_ints {ns : List Int} {x : Int} (h : x ∈ ns) {r : R} {Q : R → D → Prop} (q : Q r (.int (ns.idxOf x))) : mIndex (.lst (ns.map .int)) [.int x] r Q := by
  have hl := List.idxOf_lt_length_of_mem h
  refine ⟨ns.map D.int, .int x, ns.idxOf x, rfl, rfl, flat_ints ns, ?_, ?_, ?_, q⟩
  · rw [List.getElem?_map, List.getElem?_eq_getElem hl]
    simp
  · simp [toV, L2.eqV]
  · intro k w hk hw
    rw [List.getElem?_map] at hw
    have hk2 : k < ns.length := by omega
    rw [List.getElem?_eq_getElem hk2] at hw
    cases hw
    simp only [toV, L2.eqV, beq_eq_false_iff_ne]
    exact List.not_of_lt_findIdx (p := (· == x)) hk |> fun z => by simpa using z
theorem d__law_trail : Does b__law_trail N__law_trail sp__law_trail := by
  rintro r ds Q ⟨ns, rfl, hl, q⟩
  simp only [sRet, sIf, sSeq, sAsg, sDrop, sNext, sNever, sCt, sPar, sFor, sWhile, dAnd, dOr, dNot, dCB, dCons, dNil, dVar, dC, dOp, dTst, dAndT, dOrT, dNotT, dIf, dLst, dTup, dCl, dLc, dYes, dSl, dNoPart, dPart, dRev, dNeg, dChain, dM, dCall, tName, tTupG, tConss, tNils, tSub, iL, iE, iZ, iR1, iR2, startG, wipeG, List.map_cons, List.map_nil, List.length_cons, List.length_nil, List.cons_append, List.nil_append, List.append_nil, List.getD_cons_zero, List.getD_cons_succ, List.set_cons_zero, List.set_cons_succ, List.replicate_succ, List.replicate_zero, Nat.reduceAdd, Nat.reduceSub, Nat.reduceLeDiff, Nat.zero_add, Nat.sub_zero, oB_bl, true_and, and_true, Bool.not_true, Bool.not_false, if_true, if_false, Bool.false_eq_true, reduceIte, mkD_f, oSub_i, oMod_i, oDiv_i, oPow_i, oAdd_i, oAdd_s, oAdd_t, oAdd_l, oMul_i, oMul_l, oLt_i, oLe_i, oGt_i, oGe_i, oMax2_i, oMin2_i, oAbs_i, oInt1_i, oInt1_b, oEq_i, oNe_i, oEq_b, oNe_b, oIsi_x, oIsN_d, oNotN_d, lsOf_l, lstOf_ob, seqOf_ob, lstOf_l, lstOf_s, seqOf_l, seqOf_s, seqOf_t, srcOf_l, srcOf_s, srcOf_ob, isL_ob, isL_l, lk_self, lk_ne, put_ne, del_ne, ne_eq, not_false_eq_true, put_nil, put_self, del_nil, del_self, oLen_l, oLen_t, oLen_sc, oLen_s, oLen_ob, oIx_l, oIx_t, oIx_ob, at_0, at_1, at_2, ix_30, ix_31, ix_32, oSl_l, oSl_ob, oAll_l, mApp_ob, mPop_ob, mClear_ob, Option.some.injEq, Cl.lst.injEq, Option.bind_some, Option.map_some, exists_eq_left', exists_eq_left, Option.isSome_some, exists_eq_right, and_assoc, exists_and_left, Prod.mk.injEq, oSort, oSortSet, oLenSet, b__law_trail, N__law_trail]
  refine ⟨Nat.zero_le _, fun i r' g => r' = r ∧ ∃ o2, g = [some (.lst (ns.map .int)), some (.lst ((trailI (ns.take i)).map .int)), o2], ⟨r, .refl r, rfl, none, rfl⟩, ?_, ?_⟩
  · rintro i d r' g hd ⟨rfl, o2, rfl⟩
    rw [List.getElem?_map] at hd
    cases hx : ns[i]? with
    | none => rw [hx] at hd; cases hd
    | some x =>
      rw [hx] at hd
      cases hd
      refine ⟨keptN _, ?_⟩
      have e1 : trailI (ns.take (i + 1)) = stepT (trailI (ns.take i)) x := by rw [List.take_succ, hx]; exact trail_snoc _ _
      have hlen : (trailI (ns.take i)).length ≤ ns.length := by
        have := trail_len (ns := ns.take i) (acc := [])
        simp only [trailI, List.length_nil, List.length_take] at this ⊢
        omega
      have hsz := sizeBig
      simp only [sRet, sIf, sSeq, sAsg, sDrop, sNext, sNever, sCt, sPar, sFor, sWhile, dAnd, dOr, dNot, dCB, dCons, dNil, dVar, dC, dOp, dTst, dAndT, dOrT, dNotT, dIf, dLst, dTup, dCl, dLc, dYes, dSl, dNoPart, dPart, dRev, dNeg, dChain, dM, dCall, tName, tTupG, tConss, tNils, tSub, iL, iE, iZ, iR1, iR2, startG, wipeG, List.map_cons, List.map_nil, List.length_cons, List.length_nil, List.cons_append, List.nil_append, List.append_nil, List.getD_cons_zero, List.getD_cons_succ, List.set_cons_zero, List.set_cons_succ, List.replicate_succ, List.replicate_zero, Nat.reduceAdd, Nat.reduceSub, Nat.reduceLeDiff, Nat.zero_add, Nat.sub_zero, oB_bl, true_and, and_true, Bool.not_true, Bool.not_false, if_true, if_false, Bool.false_eq_true, reduceIte, mkD_f, oSub_i, oMod_i, oDiv_i, oPow_i, oAdd_i, oAdd_s, oAdd_t, oAdd_l, oMul_i, oMul_l, oLt_i, oLe_i, oGt_i, oGe_i, oMax2_i, oMin2_i, oAbs_i, oInt1_i, oInt1_b, oEq_i, oNe_i, oEq_b, oNe_b, oIsi_x, oIsN_d, oNotN_d, lsOf_l, lstOf_ob, seqOf_ob, lstOf_l, lstOf_s, seqOf_l, seqOf_s, seqOf_t, srcOf_l, srcOf_s, srcOf_ob, isL_ob, isL_l, lk_self, lk_ne, put_ne, del_ne, ne_eq, not_false_eq_true, put_nil, put_self, del_nil, del_self, oLen_l, oLen_t, oLen_sc, oLen_s, oLen_ob, oIx_l, oIx_t, oIx_ob, at_0, at_1, at_2, ix_30, ix_31, ix_32, oSl_l, oSl_ob, oAll_l, mApp_ob, mPop_ob, mClear_ob, Option.some.injEq, Cl.lst.injEq, Option.bind_some, Option.map_some, exists_eq_left', exists_eq_left, Option.isSome_some, exists_eq_right, and_assoc, exists_and_left, Prod.mk.injEq, oSort, oSortSet, oLenSet]
      refine ⟨_, rfl, rfl, flat_ints _, ?_⟩
      rw [inD_ints]
      by_cases hm : x ∈ trailI (ns.take i)
      · simp only [sRet, sIf, sSeq, sAsg, sDrop, sNext, sNever, sCt, sPar, sFor, sWhile, dAnd, dOr, dNot, dCB, dCons, dNil, dVar, dC, dOp, dTst, dAndT, dOrT, dNotT, dIf, dLst, dTup, dCl, dLc, dYes, dSl, dNoPart, dPart, dRev, dNeg, dChain, dM, dCall, tName, tTupG, tConss, tNils, tSub, iL, iE, iZ, iR1, iR2, startG, wipeG, List.map_cons, List.map_nil, List.length_cons, List.length_nil, List.cons_append, List.nil_append, List.append_nil, List.getD_cons_zero, List.getD_cons_succ, List.set_cons_zero, List.set_cons_succ, List.replicate_succ, List.replicate_zero, Nat.reduceAdd, Nat.reduceSub, Nat.reduceLeDiff, Nat.zero_add, Nat.sub_zero, oB_bl, true_and, and_true, Bool.not_true, Bool.not_false, if_true, if_false, Bool.false_eq_true, reduceIte, mkD_f, oSub_i, oMod_i, oDiv_i, oPow_i, oAdd_i, oAdd_s, oAdd_t, oAdd_l, oMul_i, oMul_l, oLt_i, oLe_i, oGt_i, oGe_i, oMax2_i, oMin2_i, oAbs_i, oInt1_i, oInt1_b, oEq_i, oNe_i, oEq_b, oNe_b, oIsi_x, oIsN_d, oNotN_d, lsOf_l, lstOf_ob, seqOf_ob, lstOf_l, lstOf_s, seqOf_l, seqOf_s, seqOf_t, srcOf_l, srcOf_s, srcOf_ob, isL_ob, isL_l, lk_self, lk_ne, put_ne, del_ne, ne_eq, not_false_eq_true, put_nil, put_self, del_nil, del_self, oLen_l, oLen_t, oLen_sc, oLen_s, oLen_ob, oIx_l, oIx_t, oIx_ob, at_0, at_1, at_2, ix_30, ix_31, ix_32, oSl_l, oSl_ob, oAll_l, mApp_ob, mPop_ob, mClear_ob, Option.some.injEq, Cl.lst.injEq, Option.bind_some, Option.map_some, exists_eq_left', exists_eq_left, Option.isSome_some, exists_eq_right, and_assoc, exists_and_left, Prod.mk.injEq, oSort, oSortSet, oLenSet, hm, decide_true]
        refine idx_ints hm ?_
        simp only [sRet, sIf, sSeq, sAsg, sDrop, sNext, sNever, sCt, sPar, sFor, sWhile, dAnd, dOr, dNot, dCB, dCons, dNil, dVar, dC, dOp, dTst, dAndT, dOrT, dNotT, dIf, dLst, dTup, dCl, dLc, dYes, dSl, dNoPart, dPart, dRev, dNeg, dChain, dM, dCall, tName, tTupG, tConss, tNils, tSub, iL, iE, iZ, iR1, iR2, startG, wipeG, List.map_cons, List.map_nil, List.length_cons, List.length_nil, List.cons_append, List.nil_append, List.append_nil, List.getD_cons_zero, List.getD_cons_succ, List.set_cons_zero, List.set_cons_succ, List.replicate_succ, List.replicate_zero, Nat.reduceAdd, Nat.reduceSub, Nat.reduceLeDiff, Nat.zero_add, Nat.sub_zero, oB_bl, true_and, and_true, Bool.not_true, Bool.not_false, if_true, if_false, Bool.false_eq_true, reduceIte, mkD_f, oSub_i, oMod_i, oDiv_i, oPow_i, oAdd_i, oAdd_s, oAdd_t, oAdd_l, oMul_i, oMul_l, oLt_i, oLe_i, oGt_i, oGe_i, oMax2_i, oMin2_i, oAbs_i, oInt1_i, oInt1_b, oEq_i, oNe_i, oEq_b, oNe_b, oIsi_x, oIsN_d, oNotN_d, lsOf_l, lstOf_ob, seqOf_ob, lstOf_l, lstOf_s, seqOf_l, seqOf_s, seqOf_t, srcOf_l, srcOf_s, srcOf_ob, isL_ob, isL_l, lk_self, lk_ne, put_ne, del_ne, ne_eq, not_false_eq_true, put_nil, put_self, del_nil, del_self, oLen_l, oLen_t, oLen_sc, oLen_s, oLen_ob, oIx_l, oIx_t, oIx_ob, at_0, at_1, at_2, ix_30, ix_31, ix_32, oSl_l, oSl_ob, oAll_l, mApp_ob, mPop_ob, mClear_ob, Option.some.injEq, Cl.lst.injEq, Option.bind_some, Option.map_some, exists_eq_left', exists_eq_left, Option.isSome_some, exists_eq_right, and_assoc, exists_and_left, Prod.mk.injEq, oSort, oSortSet, oLenSet]
        rw [cutL_to _ (by omega)]
        refine ⟨r', .refl r', rfl, some (.int x), ?_⟩
        rw [e1]
        simp only [stepT, hm, if_true]
        have e2 : ((List.idxOf x (trailI (ns.take i)) : Int) + 1).toNat = List.idxOf x (trailI (ns.take i)) + 1 := by omega
        rw [e2, List.map_take]
      · simp only [sRet, sIf, sSeq, sAsg, sDrop, sNext, sNever, sCt, sPar, sFor, sWhile, dAnd, dOr, dNot, dCB, dCons, dNil, dVar, dC, dOp, dTst, dAndT, dOrT, dNotT, dIf, dLst, dTup, dCl, dLc, dYes, dSl, dNoPart, dPart, dRev, dNeg, dChain, dM, dCall, tName, tTupG, tConss, tNils, tSub, iL, iE, iZ, iR1, iR2, startG, wipeG, List.map_cons, List.map_nil, List.length_cons, List.length_nil, List.cons_append, List.nil_append, List.append_nil, List.getD_cons_zero, List.getD_cons_succ, List.set_cons_zero, List.set_cons_succ, List.replicate_succ, List.replicate_zero, Nat.reduceAdd, Nat.reduceSub, Nat.reduceLeDiff, Nat.zero_add, Nat.sub_zero, oB_bl, true_and, and_true, Bool.not_true, Bool.not_false, if_true, if_false, Bool.false_eq_true, reduceIte, mkD_f, oSub_i, oMod_i, oDiv_i, oPow_i, oAdd_i, oAdd_s, oAdd_t, oAdd_l, oMul_i, oMul_l, oLt_i, oLe_i, oGt_i, oGe_i, oMax2_i, oMin2_i, oAbs_i, oInt1_i, oInt1_b, oEq_i, oNe_i, oEq_b, oNe_b, oIsi_x, oIsN_d, oNotN_d, lsOf_l, lstOf_ob, seqOf_ob, lstOf_l, lstOf_s, seqOf_l, seqOf_s, seqOf_t, srcOf_l, srcOf_s, srcOf_ob, isL_ob, isL_l, lk_self, lk_ne, put_ne, del_ne, ne_eq, not_false_eq_true, put_nil, put_self, del_nil, del_self, oLen_l, oLen_t, oLen_sc, oLen_s, oLen_ob, oIx_l, oIx_t, oIx_ob, at_0, at_1, at_2, ix_30, ix_31, ix_32, oSl_l, oSl_ob, oAll_l, mApp_ob, mPop_ob, mClear_ob, Option.some.injEq, Cl.lst.injEq, Option.bind_some, Option.map_some, exists_eq_left', exists_eq_left, Option.isSome_some, exists_eq_right, and_assoc, exists_and_left, Prod.mk.injEq, oSort, oSortSet, oLenSet, hm, decide_false]
        refine ⟨by decide, by rw [List.length_map]; omega, r', .refl r', rfl, some (.int x), ?_⟩
        rw [e1]
        simp [stepT, hm]
  · rintro r' g ⟨rfl, o2, rfl⟩
    refine ⟨keptN _, ?_⟩
    simp only [sRet, sIf, sSeq, sAsg, sDrop, sNext, sNever, sCt, sPar, sFor, sWhile, dAnd, dOr, dNot, dCB, dCons, dNil, dVar, dC, dOp, dTst, dAndT, dOrT, dNotT, dIf, dLst, dTup, dCl, dLc, dYes, dSl, dNoPart, dPart, dRev, dNeg, dChain, dM, dCall, tName, tTupG, tConss, tNils, tSub, iL, iE, iZ, iR1, iR2, startG, wipeG, List.map_cons, List.map_nil, List.length_cons, List.length_nil, List.cons_append, List.nil_append, List.append_nil, List.getD_cons_zero, List.getD_cons_succ, List.set_cons_zero, List.set_cons_succ, List.replicate_succ, List.replicate_zero, Nat.reduceAdd, Nat.reduceSub, Nat.reduceLeDiff, Nat.zero_add, Nat.sub_zero, oB_bl, true_and, and_true, Bool.not_true, Bool.not_false, if_true, if_false, Bool.false_eq_true, reduceIte, mkD_f, oSub_i, oMod_i, oDiv_i, oPow_i, oAdd_i, oAdd_s, oAdd_t, oAdd_l, oMul_i, oMul_l, oLt_i, oLe_i, oGt_i, oGe_i, oMax2_i, oMin2_i, oAbs_i, oInt1_i, oInt1_b, oEq_i, oNe_i, oEq_b, oNe_b, oIsi_x, oIsN_d, oNotN_d, lsOf_l, lstOf_ob, seqOf_ob, lstOf_l, lstOf_s, seqOf_l, seqOf_s, seqOf_t, srcOf_l, srcOf_s, srcOf_ob, isL_ob, isL_l, lk_self, lk_ne, put_ne, del_ne, ne_eq, not_false_eq_true, put_nil, put_self, del_nil, del_self, oLen_l, oLen_t, oLen_sc, oLen_s, oLen_ob, oIx_l, oIx_t, oIx_ob, at_0, at_1, at_2, ix_30, ix_31, ix_32, oSl_l, oSl_ob, oAll_l, mApp_ob, mPop_ob, mClear_ob, Option.some.injEq, Cl.lst.injEq, Option.bind_some, Option.map_some, exists_eq_left', exists_eq_left, Option.isSome_some, exists_eq_right, and_assoc, exists_and_left, Prod.mk.injEq, oSort, oSortSet, oLenSet]
    rw [List.length_map, List.take_length]
    exact ⟨r', .refl r', q⟩
end CM

set_option Elab.async false
set_option linter.all false
set_option maxRecDepth 100000
set_option maxHeartbeats 4000000
namespace K02
open PySem DL CM
abbrev sp__law_linked : DSp := fun r ds Q => ∃ net v, ds = [netD net, v] ∧ NetOk net ∧ valOk v ∧ Q r (.bl (linkedB net v))
abbrev sp__law_changed : DSp := fun r ds Q => ∃ s xs m net row, ds = [.ob s, netD net, .lst (row.map .int)] ∧ r = [(s, .lst xs)] ∧ SrcB m xs ∧ m ≤ 10 ^ 11 ∧ NetOk net ∧ RowsIn net.length row ∧ row.length ≤ 62 ∧
  ∀ v ys, SrcB (m + 10) ys → valOk v → Sm 3 90000 v → Q [(s, .lst ys)] v
abbrev sp__law_holds : DSp := fun r ds Q => ∃ s xs most, ds = [.ob s, .int most] ∧ r = [(s, .lst xs)] ∧ SrcB 0 xs ∧ 1 ≤ most ∧ most ≤ 12 ∧ ∀ r', Q r' (.bl true)
abbrev sp_law : DSp := fun r ds Q => ∃ ns, ds = [.scr ns] ∧ ns.length ≤ 63 ∧ Q r (.bl true)
end K02

set_option Elab.async false
set_option linter.all false
set_option maxRecDepth 100000
set_option maxHeartbeats 4000000
namespace K02
open PySem DL CM
def N__law_linked : List Str := ["_law_net_here", "_law_value", "_law_spot", "_law_other"]
def b__law_linked : DS :=
  (sSeq
  (sIf (dOrT (dNotT (dTst (dCB oIsi (dCons (dVar 1) (dCons (dC (.ty "list")) dNil))))) (dTst (dOp (oEq false) (dVar 1) (dLst false dNil))))
  (sRet (dC (.bl false)))
  sNext)
  (sSeq
  (sFor (iL (dVar 1)) (tName 2)
  (sIf (dOrT (dTst (dCB oIsi (dCons (dVar 2) (dCons (dC (.ty "bool")) dNil)))) (dOrT (dNotT (dTst (dCB oIsi (dCons (dVar 2) (dCons (dC (.ty "int")) dNil))))) (dOrT (dTst (dOp oLt (dVar 2) (dC (.int 0)))) (dTst (dOp oGe (dVar 2) (dCB oLen (dCons (dVar 0) dNil)))))))
  (sRet (dC (.bl false)))
  sNext))
  (sRet (dOp (oEq false) (dLc false (iZ (dCons (dVar 1) (dCons (dSl false (dVar 1) (dPart (dC (.int 1))) dNoPart) dNil))) (tTupG 2 (tConss (tName 2) (tConss (tName 3) tNils))) (dTst (dOp (oIn true) (dVar 3) (dOp oIx (dVar 0) (dVar 2)))) (dVar 2) [2, 3]) (dLst false dNil)))))
def N__law_changed : List Str := ["_law_source_here", "_law_net_here", "_law_row", "_law_at", "_law_many", "_law_odd", "_law_one", "_law_some"]
def b__law_changed : DS :=
  (sSeq
  (sPar 3 4 (dCons (dCall sp__law_draw (dCons (dVar 0) (dCons (dCB oLen (dCons (dVar 2) dNil)) dNil))) (dCons (dCB oLen (dCons (dVar 1) dNil)) dNil)))
  (sSeq
  (sAsg (dLst false (dCons (dVar 4) (dCons (dOp (oAdd false) (dVar 4) (dC (.int 1))) (dCons (dNeg (dC (.int 1))) (dCons (dNeg (dC (.int 2))) (dCons (dOp oSub (dC (.int 0)) (dVar 4)) (dCons (dC (.bl true)) (dCons (dC (.bl false)) (dCons (dC .non) (dCons (dC (.str "0")) (dCons (dLst false (dCons (dC (.int 0)) dNil)) (dCons (dOp oPow (dC (.int 10)) (dC (.int 30))) (dCons (dOp oIx (dVar 2) (dVar 3)) (dCons (dCall sp__law_draw (dCons (dVar 0) (dCons (dVar 4) dNil))) dNil)))))))))))))) (tName 5))
  (sSeq
  (sAsg (dOp oIx (dVar 5) (dCall sp__law_draw (dCons (dVar 0) (dCons (dC (.int 13)) dNil)))) (tName 6))
  (sSeq
  (sAsg (dLst false (dCons (dOp (oAdd false) (dOp (oAdd false) (dSl false (dVar 2) dNoPart (dPart (dVar 3))) (dLst false (dCons (dVar 6) dNil))) (dSl false (dVar 2) (dPart (dOp (oAdd false) (dVar 3) (dC (.int 1)))) dNoPart)) (dCons (dOp (oAdd false) (dOp (oAdd false) (dSl false (dVar 2) dNoPart (dPart (dVar 3))) (dLst false (dCons (dVar 6) dNil))) (dSl false (dVar 2) (dPart (dVar 3)) dNoPart)) (dCons (dOp (oAdd false) (dSl false (dVar 2) dNoPart (dPart (dVar 3))) (dSl false (dVar 2) (dPart (dOp (oAdd false) (dVar 3) (dC (.int 1)))) dNoPart)) (dCons (dRev false (dVar 2)) dNil))))) (tName 7))
  (sSeq
  (sAsg (dOp (oAdd false) (dVar 7) (dLst false (dCons (dCB oTuple (dCons (dVar 2) dNil)) (dCons (dLst false dNil) (dCons (dC .non) (dCons (dC (.int 0)) (dCons (dC (.str "")) (dCons dD0 (dCons (dLst false (dCons (dVar 2) dNil)) (dCons (dSl false (dOp (oMul false) (dVar 2) (dC (.int 400))) dNoPart (dPart (dC (.int 400)))) (dCons (dC (.bl true)) dNil))))))))))) (tName 7))
  (sRet (dOp oIx (dVar 7) (dOp oIx (dLst false (dCons (dC (.int 0)) (dCons (dC (.int 1)) (dCons (dC (.int 2)) (dCons (dCall sp__law_draw (dCons (dVar 0) (dCons (dC (.int 13)) dNil))) dNil))))) (dCall sp__law_draw (dCons (dVar 0) (dCons (dC (.int 4)) dNil)))))))))))
def N__law_holds : List Str := ["_law_source_here", "_law_most", "_law_net_here", "_law_step", "_law_row", "_law_bare", "_law_value", "_law_before", "_law_linked_here", "_law_told", "_law_alone", "_law_two"]
def b__law_holds : DS :=
  (sSeq
  (sAsg (dCall sp__law_net (dCons (dVar 0) (dCons (dVar 1) dNil))) (tName 2))
  (sSeq
  (sFor (iR1 (dCons (dC (.int 8)) dNil)) (tName 3)
  (sSeq
  (sAsg (dCall sp__law_stroll (dCons (dVar 0) (dCons (dVar 2) (dCons (dOp oIx (dLst false (dCons (dOp (oAdd false) (dC (.int 1)) (dCall sp__law_draw (dCons (dVar 0) (dCons (dC (.int 8)) dNil)))) (dCons (dC (.int 61)) (dCons (dC (.int 62)) dNil)))) (dCall sp__law_draw (dCons (dVar 0) (dCons (dC (.int 3)) dNil)))) dNil)))) (tName 4))
  (sSeq
  (sAsg (dCall sp__law_trail (dCons (dVar 4) dNil)) (tName 5))
  (sFor (iL (dLst false (dCons (dVar 4) (dCons (dVar 5) (dCons (dCall sp__law_changed (dCons (dVar 0) (dCons (dVar 2) (dCons (dVar 4) dNil)))) (dCons (dCall sp__law_changed (dCons (dVar 0) (dCons (dVar 2) (dCons (dVar 5) dNil)))) dNil)))))) (tName 6)
  (sSeq
  (sPar 7 8 (dCons (dCB oReprX (dCons (dLst false (dCons (dVar 2) (dCons (dVar 6) dNil))) dNil)) (dCons (dCall sp__law_linked (dCons (dVar 2) (dCons (dVar 6) dNil))) dNil)))
  (sSeq
  (sAsg (dLst false (dCons (dCall sp_is_walk (dCons (dVar 2) (dCons (dVar 6) dNil))) (dCons (dCall sp_is_trail_of (dCons (dVar 2) (dCons (dVar 6) dNil))) dNil))) (tName 9))
  (sSeq
  (sAsg (dAnd (dVar 8) (dOp (oEq false) (dCB oLen (dCons (dCB (oSortSet false) (dCons (dVar 6) dNil)) dNil)) (dCB oLen (dCons (dVar 6) dNil)))) (tName 10))
  (sIf (dOrT (dTst (dOp (oEqS true) (dCB oReprX (dCons (dVar 9) dNil)) (dCB oReprX (dCons (dLst false (dCons (dAnd (dVar 8) (dOp oLe (dCB oLen (dCons (dVar 6) dNil)) (dC (.int 61)))) (dCons (dVar 10) dNil))) dNil)))) (dTst (dOp (oEqS true) (dCB oReprX (dCons (dLst false (dCons (dVar 2) (dCons (dVar 6) dNil))) dNil)) (dVar 7))))
  (sRet (dC (.bl false)))
  sNext))))))))
  (sSeq
  (sAsg (dLst false (dCons (dLst false (dCons (dC (.int 1)) dNil)) (dCons (dLst false (dCons (dC (.int 0)) dNil)) dNil))) (tName 11))
  (sSeq
  (sAsg (dLst false (dCons (dCall sp_is_walk (dCons (dVar 11) (dCons (dOp (oAdd false) (dOp (oMul false) (dLst false (dCons (dC (.int 0)) (dCons (dC (.int 1)) dNil))) (dC (.int 30))) (dLst false (dCons (dC (.int 0)) dNil))) dNil))) (dCons (dCall sp_is_walk (dCons (dVar 11) (dCons (dOp (oMul false) (dLst false (dCons (dC (.int 0)) (dCons (dC (.int 1)) dNil))) (dC (.int 31))) dNil))) (dCons (dCall sp_is_trail_of (dCons (dVar 11) (dCons (dLst false (dCons (dC (.int 0)) (dCons (dC (.int 1)) dNil))) dNil))) (dCons (dCall sp_is_walk (dCons (dLst false (dCons (dLst false dNil) dNil)) (dCons (dLst false (dCons (dC (.int 0)) dNil)) dNil))) dNil))))) (tName 9))
  (sRet (dOp (oEq false) (dVar 9) (dLst false (dCons (dC (.bl true)) (dCons (dC (.bl false)) (dCons (dC (.bl true)) (dCons (dC (.bl true)) dNil)))))))))))
def N_law : List Str := ["_law_script", "_law_k", "_law_cell"]
def b_law : DS :=
  (sSeq
  (sFor (iE (dCons (dSl false (dOp (oAdd false) (dVar 0) (dLst false (dCons (dC (.int 0)) dNil))) dNoPart (dPart (dCB oMax2 (dCons (dC (.int 1)) (dCons (dCB oMin2 (dCons (dCB oLen (dCons (dVar 0) dNil)) (dCons (dC (.int 20)) dNil))) dNil))))) dNil)) (tTupG 2 (tConss (tName 1) (tConss (tName 2) tNils)))
  (sIf (dNotT (dTst (dCall sp__law_holds (dCons (dCall sp__law_source (dCons (dVar 2) (dCons (dVar 1) dNil))) (dCons (dIf (dTst (dOp (oEq false) (dVar 0) (dLst false dNil))) (dC (.int 4)) (dC (.int 12))) dNil)))))
  (sRet (dC (.bl false)))
  sNext))
  (sRet (dC (.bl true))))
end K02

set_option Elab.async false
set_option linter.all false
set_option maxRecDepth 100000
set_option maxHeartbeats 4000000
namespace K02
open PySem DL CM
def badF (net : List (List Int)) (p : Int × Int) : List Int := if p.2 ∈ net.getD p.1.toNat [] then [] else [p.1]
def badD (net : List (List Int)) : D → List D
  | .tup [.int a, .int b] => (badF net (a, b)).map .int
  | _ => []
theorem bad_flat (net : List (List Int)) : ∀ ps : List (Int × Int), (ps.map fun p => D.tup [.int p.1, .int p.2]).flatMap (badD net) = (ps.flatMap (badF net)).map .int
  | [] => rfl
  | p :: ps => by
    have := bad_flat net ps
    simp only [List.map_cons, List.flatMap_cons, List.map_append, this]
    rfl
theorem bad_nil (net : List (List Int)) : ∀ ps : List (Int × Int), decide (ps.flatMap (badF net) = []) = ps.all fun p => decide (p.2 ∈ net.getD p.1.toNat [])
  | [] => rfl
  | p :: ps => by
    have := bad_nil net ps
    simp only [List.flatMap_cons, List.all_cons, ← this, badF]
    by_cases h : p.2 ∈ net.getD p.1.toNat []
    · rw [if_pos h, decide_eq_true h]; rfl
    · rw [if_neg h, decide_eq_false h]; rfl
theorem linked_no {net : List (List Int)} {xs : List D} (h : (xs.all fun x => isInt x 0 (net.length - 1)) = false) : linkedB net (.lst xs) = false := by
  simp only [linkedB]
  cases e5 : intsOf xs with
  | none => rfl
  | some ns =>
    have := intsOf_some e5
    subst this
    have e6 : (ns.all fun x => decide (0 ≤ x) && decide (x < net.length)) = false := by
      refine Bool.eq_false_iff.mpr fun h2 => ?_
      rw [← Bool.not_eq_true] at h
      refine h ?_
      rw [List.all_eq_true] at h2 ⊢
      intro x hx
      obtain ⟨i, hi, rfl⟩ := List.mem_map.mp hx
      have := h2 i hi
      simp [isInt] at this ⊢; omega
    simp [linkedI, e6]
theorem d__law_linked : Does b__law_linked N__law_linked sp__law_linked := by
  rintro r ds Q ⟨net, v, rfl, hn, ⟨ht, hx⟩, q⟩
  obtain ⟨t, ht0⟩ := ty0_ex ht
  have htr := tyn_of0 (r := r) ht0
  have fin : ∀ b, linkedB net v = b → ∃ r'', Sub r'' r ∧ Q r'' (.bl b) := fun b hb => ⟨r, .refl r, hb ▸ q⟩
  simp only [sRet, sIf, sSeq, sAsg, sDrop, sNext, sNever, sCt, sPar, sFor, sWhile, dAnd, dOr, dNot, dCB, dCons, dNil, dVar, dC, dOp, dTst, dAndT, dOrT, dNotT, dIf, dLst, dTup, dCl, dLc, dYes, dSl, dNoPart, dPart, dRev, dNeg, dChain, dM, dCall, tName, tTupG, tConss, tNils, tSub, iL, iE, iZ, iR1, iR2, startG, wipeG, List.map_cons, List.map_nil, List.length_cons, List.length_nil, List.cons_append, List.nil_append, List.append_nil, List.getD_cons_zero, List.getD_cons_succ, List.set_cons_zero, List.set_cons_succ, List.replicate_succ, List.replicate_zero, Nat.reduceAdd, Nat.reduceSub, Nat.reduceLeDiff, Nat.zero_add, Nat.sub_zero, oB_bl, true_and, and_true, Bool.not_true, Bool.not_false, if_true, if_false, Bool.false_eq_true, reduceIte, mkD_f, oSub_i, oMod_i, oDiv_i, oPow_i, oAdd_i, oAdd_s, oAdd_t, oAdd_l, oMul_i, oMul_l, oLt_i, oLe_i, oGt_i, oGe_i, oMax2_i, oMin2_i, oAbs_i, oInt1_i, oInt1_b, oEq_i, oNe_i, oEq_b, oNe_b, oIsi_x, oIsN_d, oNotN_d, lsOf_l, lstOf_ob, seqOf_ob, lstOf_l, lstOf_s, seqOf_l, seqOf_s, seqOf_t, srcOf_l, srcOf_s, srcOf_ob, isL_ob, isL_l, lk_self, lk_ne, put_ne, del_ne, ne_eq, not_false_eq_true, put_nil, put_self, del_nil, del_self, oLen_l, oLen_t, oLen_sc, oLen_s, oLen_ob, oIx_l, oIx_t, oIx_ob, at_0, at_1, at_2, ix_30, ix_31, ix_32, oSl_l, oSl_ob, oAll_l, mApp_ob, mPop_ob, mClear_ob, Option.some.injEq, Cl.lst.injEq, Option.bind_some, Option.map_some, exists_eq_left', exists_eq_left, Option.isSome_some, exists_eq_right, and_assoc, exists_and_left, Prod.mk.injEq, oSort, oSortSet, oLenSet, b__law_linked, N__law_linked, htr, mem_list, netD]
  by_cases hl : t = "list"
  · subst hl
    obtain ⟨xs, rfl⟩ := ty0_list ht0
    obtain ⟨hlen, hty, hq⟩ := hx xs rfl
    simp only [sRet, sIf, sSeq, sAsg, sDrop, sNext, sNever, sCt, sPar, sFor, sWhile, dAnd, dOr, dNot, dCB, dCons, dNil, dVar, dC, dOp, dTst, dAndT, dOrT, dNotT, dIf, dLst, dTup, dCl, dLc, dYes, dSl, dNoPart, dPart, dRev, dNeg, dChain, dM, dCall, tName, tTupG, tConss, tNils, tSub, iL, iE, iZ, iR1, iR2, startG, wipeG, List.map_cons, List.map_nil, List.length_cons, List.length_nil, List.cons_append, List.nil_append, List.append_nil, List.getD_cons_zero, List.getD_cons_succ, List.set_cons_zero, List.set_cons_succ, List.replicate_succ, List.replicate_zero, Nat.reduceAdd, Nat.reduceSub, Nat.reduceLeDiff, Nat.zero_add, Nat.sub_zero, oB_bl, true_and, and_true, Bool.not_true, Bool.not_false, if_true, if_false, Bool.false_eq_true, reduceIte, mkD_f, oSub_i, oMod_i, oDiv_i, oPow_i, oAdd_i, oAdd_s, oAdd_t, oAdd_l, oMul_i, oMul_l, oLt_i, oLe_i, oGt_i, oGe_i, oMax2_i, oMin2_i, oAbs_i, oInt1_i, oInt1_b, oEq_i, oNe_i, oEq_b, oNe_b, oIsi_x, oIsN_d, oNotN_d, lsOf_l, lstOf_ob, seqOf_ob, lstOf_l, lstOf_s, seqOf_l, seqOf_s, seqOf_t, srcOf_l, srcOf_s, srcOf_ob, isL_ob, isL_l, lk_self, lk_ne, put_ne, del_ne, ne_eq, not_false_eq_true, put_nil, put_self, del_nil, del_self, oLen_l, oLen_t, oLen_sc, oLen_s, oLen_ob, oIx_l, oIx_t, oIx_ob, at_0, at_1, at_2, ix_30, ix_31, ix_32, oSl_l, oSl_ob, oAll_l, mApp_ob, mPop_ob, mClear_ob, Option.some.injEq, Cl.lst.injEq, Option.bind_some, Option.map_some, exists_eq_left', exists_eq_left, Option.isSome_some, exists_eq_right, and_assoc, exists_and_left, Prod.mk.injEq, oSort, oSortSet, oLenSet, isB_self]
    refine ⟨Nat.zero_le _, oEq_nil hq ?_⟩
    by_cases he : xs = []
    · subst he
      simp only [sRet, sIf, sSeq, sAsg, sDrop, sNext, sNever, sCt, sPar, sFor, sWhile, dAnd, dOr, dNot, dCB, dCons, dNil, dVar, dC, dOp, dTst, dAndT, dOrT, dNotT, dIf, dLst, dTup, dCl, dLc, dYes, dSl, dNoPart, dPart, dRev, dNeg, dChain, dM, dCall, tName, tTupG, tConss, tNils, tSub, iL, iE, iZ, iR1, iR2, startG, wipeG, List.map_cons, List.map_nil, List.length_cons, List.length_nil, List.cons_append, List.nil_append, List.append_nil, List.getD_cons_zero, List.getD_cons_succ, List.set_cons_zero, List.set_cons_succ, List.replicate_succ, List.replicate_zero, Nat.reduceAdd, Nat.reduceSub, Nat.reduceLeDiff, Nat.zero_add, Nat.sub_zero, oB_bl, true_and, and_true, Bool.not_true, Bool.not_false, if_true, if_false, Bool.false_eq_true, reduceIte, mkD_f, oSub_i, oMod_i, oDiv_i, oPow_i, oAdd_i, oAdd_s, oAdd_t, oAdd_l, oMul_i, oMul_l, oLt_i, oLe_i, oGt_i, oGe_i, oMax2_i, oMin2_i, oAbs_i, oInt1_i, oInt1_b, oEq_i, oNe_i, oEq_b, oNe_b, oIsi_x, oIsN_d, oNotN_d, lsOf_l, lstOf_ob, seqOf_ob, lstOf_l, lstOf_s, seqOf_l, seqOf_s, seqOf_t, srcOf_l, srcOf_s, srcOf_ob, isL_ob, isL_l, lk_self, lk_ne, put_ne, del_ne, ne_eq, not_false_eq_true, put_nil, put_self, del_nil, del_self, oLen_l, oLen_t, oLen_sc, oLen_s, oLen_ob, oIx_l, oIx_t, oIx_ob, at_0, at_1, at_2, ix_30, ix_31, ix_32, oSl_l, oSl_ob, oAll_l, mApp_ob, mPop_ob, mClear_ob, Option.some.injEq, Cl.lst.injEq, Option.bind_some, Option.map_some, exists_eq_left', exists_eq_left, Option.isSome_some, exists_eq_right, and_assoc, exists_and_left, Prod.mk.injEq, oSort, oSortSet, oLenSet, decide_true]
      exact fin _ rfl
    · simp only [sRet, sIf, sSeq, sAsg, sDrop, sNext, sNever, sCt, sPar, sFor, sWhile, dAnd, dOr, dNot, dCB, dCons, dNil, dVar, dC, dOp, dTst, dAndT, dOrT, dNotT, dIf, dLst, dTup, dCl, dLc, dYes, dSl, dNoPart, dPart, dRev, dNeg, dChain, dM, dCall, tName, tTupG, tConss, tNils, tSub, iL, iE, iZ, iR1, iR2, startG, wipeG, List.map_cons, List.map_nil, List.length_cons, List.length_nil, List.cons_append, List.nil_append, List.append_nil, List.getD_cons_zero, List.getD_cons_succ, List.set_cons_zero, List.set_cons_succ, List.replicate_succ, List.replicate_zero, Nat.reduceAdd, Nat.reduceSub, Nat.reduceLeDiff, Nat.zero_add, Nat.sub_zero, oB_bl, true_and, and_true, Bool.not_true, Bool.not_false, if_true, if_false, Bool.false_eq_true, reduceIte, mkD_f, oSub_i, oMod_i, oDiv_i, oPow_i, oAdd_i, oAdd_s, oAdd_t, oAdd_l, oMul_i, oMul_l, oLt_i, oLe_i, oGt_i, oGe_i, oMax2_i, oMin2_i, oAbs_i, oInt1_i, oInt1_b, oEq_i, oNe_i, oEq_b, oNe_b, oIsi_x, oIsN_d, oNotN_d, lsOf_l, lstOf_ob, seqOf_ob, lstOf_l, lstOf_s, seqOf_l, seqOf_s, seqOf_t, srcOf_l, srcOf_s, srcOf_ob, isL_ob, isL_l, lk_self, lk_ne, put_ne, del_ne, ne_eq, not_false_eq_true, put_nil, put_self, del_nil, del_self, oLen_l, oLen_t, oLen_sc, oLen_s, oLen_ob, oIx_l, oIx_t, oIx_ob, at_0, at_1, at_2, ix_30, ix_31, ix_32, oSl_l, oSl_ob, oAll_l, mApp_ob, mPop_ob, mClear_ob, Option.some.injEq, Cl.lst.injEq, Option.bind_some, Option.map_some, exists_eq_left', exists_eq_left, Option.isSome_some, exists_eq_right, and_assoc, exists_and_left, Prod.mk.injEq, oSort, oSortSet, oLenSet, he, decide_false]
      refine ⟨fun i r' g => r' = r ∧ ((xs.take i).all fun x => isInt x 0 (net.length - 1)) = true ∧ ∃ o2, g = [some (netD net), some (.lst xs), o2, none], ⟨r, .refl r, rfl, rfl, none, rfl⟩, ?_, ?_⟩
      · rintro i d r' g hd ⟨rfl, hall, o2, rfl⟩
        refine ⟨keptN _, ?_⟩
        have hmem := List.mem_of_getElem? hd
        obtain ⟨n, hn0⟩ := ty0_ex (hty d hmem)
        have hnr := tyn_of0 (r := r') hn0
        have bad : isInt d 0 (net.length - 1) = false → ∃ r'', Sub r'' r' ∧ Q r'' (.bl false) := fun h => fin _ (linked_no (by
          refine Bool.eq_false_iff.mpr fun h2 => ?_
          rw [List.all_eq_true] at h2
          have := h2 d hmem
          rw [h] at this
          cases this))
        have good : isInt d 0 (net.length - 1) = true → ∀ o, ∃ r'', Sub r'' r' ∧ r'' = r' ∧ ((xs.take (i + 1)).all fun x => isInt x 0 (net.length - 1)) = true ∧ ∃ o2, [some (netD net), some (.lst xs), some o, none] = [some (netD net), some (.lst xs), o2, none] := fun h o => ⟨r', .refl r', rfl, by
          rw [List.take_succ, hd, List.all_append, hall]
          simp [h], _, rfl⟩
        simp only [sRet, sIf, sSeq, sAsg, sDrop, sNext, sNever, sCt, sPar, sFor, sWhile, dAnd, dOr, dNot, dCB, dCons, dNil, dVar, dC, dOp, dTst, dAndT, dOrT, dNotT, dIf, dLst, dTup, dCl, dLc, dYes, dSl, dNoPart, dPart, dRev, dNeg, dChain, dM, dCall, tName, tTupG, tConss, tNils, tSub, iL, iE, iZ, iR1, iR2, startG, wipeG, List.map_cons, List.map_nil, List.length_cons, List.length_nil, List.cons_append, List.nil_append, List.append_nil, List.getD_cons_zero, List.getD_cons_succ, List.set_cons_zero, List.set_cons_succ, List.replicate_succ, List.replicate_zero, Nat.reduceAdd, Nat.reduceSub, Nat.reduceLeDiff, Nat.zero_add, Nat.sub_zero, oB_bl, true_and, and_true, Bool.not_true, Bool.not_false, if_true, if_false, Bool.false_eq_true, reduceIte, mkD_f, oSub_i, oMod_i, oDiv_i, oPow_i, oAdd_i, oAdd_s, oAdd_t, oAdd_l, oMul_i, oMul_l, oLt_i, oLe_i, oGt_i, oGe_i, oMax2_i, oMin2_i, oAbs_i, oInt1_i, oInt1_b, oEq_i, oNe_i, oEq_b, oNe_b, oIsi_x, oIsN_d, oNotN_d, lsOf_l, lstOf_ob, seqOf_ob, lstOf_l, lstOf_s, seqOf_l, seqOf_s, seqOf_t, srcOf_l, srcOf_s, srcOf_ob, isL_ob, isL_l, lk_self, lk_ne, put_ne, del_ne, ne_eq, not_false_eq_true, put_nil, put_self, del_nil, del_self, oLen_l, oLen_t, oLen_sc, oLen_s, oLen_ob, oIx_l, oIx_t, oIx_ob, at_0, at_1, at_2, ix_30, ix_31, ix_32, oSl_l, oSl_ob, oAll_l, mApp_ob, mPop_ob, mClear_ob, Option.some.injEq, Cl.lst.injEq, Option.bind_some, Option.map_some, exists_eq_left', exists_eq_left, Option.isSome_some, exists_eq_right, and_assoc, exists_and_left, Prod.mk.injEq, oSort, oSortSet, oLenSet, hnr, mem_bool, mem_int, netD]
        by_cases hb : n = "bool"
        · subst hb
          simp only [sRet, sIf, sSeq, sAsg, sDrop, sNext, sNever, sCt, sPar, sFor, sWhile, dAnd, dOr, dNot, dCB, dCons, dNil, dVar, dC, dOp, dTst, dAndT, dOrT, dNotT, dIf, dLst, dTup, dCl, dLc, dYes, dSl, dNoPart, dPart, dRev, dNeg, dChain, dM, dCall, tName, tTupG, tConss, tNils, tSub, iL, iE, iZ, iR1, iR2, startG, wipeG, List.map_cons, List.map_nil, List.length_cons, List.length_nil, List.cons_append, List.nil_append, List.append_nil, List.getD_cons_zero, List.getD_cons_succ, List.set_cons_zero, List.set_cons_succ, List.replicate_succ, List.replicate_zero, Nat.reduceAdd, Nat.reduceSub, Nat.reduceLeDiff, Nat.zero_add, Nat.sub_zero, oB_bl, true_and, and_true, Bool.not_true, Bool.not_false, if_true, if_false, Bool.false_eq_true, reduceIte, mkD_f, oSub_i, oMod_i, oDiv_i, oPow_i, oAdd_i, oAdd_s, oAdd_t, oAdd_l, oMul_i, oMul_l, oLt_i, oLe_i, oGt_i, oGe_i, oMax2_i, oMin2_i, oAbs_i, oInt1_i, oInt1_b, oEq_i, oNe_i, oEq_b, oNe_b, oIsi_x, oIsN_d, oNotN_d, lsOf_l, lstOf_ob, seqOf_ob, lstOf_l, lstOf_s, seqOf_l, seqOf_s, seqOf_t, srcOf_l, srcOf_s, srcOf_ob, isL_ob, isL_l, lk_self, lk_ne, put_ne, del_ne, ne_eq, not_false_eq_true, put_nil, put_self, del_nil, del_self, oLen_l, oLen_t, oLen_sc, oLen_s, oLen_ob, oIx_l, oIx_t, oIx_ob, at_0, at_1, at_2, ix_30, ix_31, ix_32, oSl_l, oSl_ob, oAll_l, mApp_ob, mPop_ob, mClear_ob, Option.some.injEq, Cl.lst.injEq, Option.bind_some, Option.map_some, exists_eq_left', exists_eq_left, Option.isSome_some, exists_eq_right, and_assoc, exists_and_left, Prod.mk.injEq, oSort, oSortSet, oLenSet, isB_self]
          exact bad (isInt_ty hn0 (by decide))
        · simp only [sRet, sIf, sSeq, sAsg, sDrop, sNext, sNever, sCt, sPar, sFor, sWhile, dAnd, dOr, dNot, dCB, dCons, dNil, dVar, dC, dOp, dTst, dAndT, dOrT, dNotT, dIf, dLst, dTup, dCl, dLc, dYes, dSl, dNoPart, dPart, dRev, dNeg, dChain, dM, dCall, tName, tTupG, tConss, tNils, tSub, iL, iE, iZ, iR1, iR2, startG, wipeG, List.map_cons, List.map_nil, List.length_cons, List.length_nil, List.cons_append, List.nil_append, List.append_nil, List.getD_cons_zero, List.getD_cons_succ, List.set_cons_zero, List.set_cons_succ, List.replicate_succ, List.replicate_zero, Nat.reduceAdd, Nat.reduceSub, Nat.reduceLeDiff, Nat.zero_add, Nat.sub_zero, oB_bl, true_and, and_true, Bool.not_true, Bool.not_false, if_true, if_false, Bool.false_eq_true, reduceIte, mkD_f, oSub_i, oMod_i, oDiv_i, oPow_i, oAdd_i, oAdd_s, oAdd_t, oAdd_l, oMul_i, oMul_l, oLt_i, oLe_i, oGt_i, oGe_i, oMax2_i, oMin2_i, oAbs_i, oInt1_i, oInt1_b, oEq_i, oNe_i, oEq_b, oNe_b, oIsi_x, oIsN_d, oNotN_d, lsOf_l, lstOf_ob, seqOf_ob, lstOf_l, lstOf_s, seqOf_l, seqOf_s, seqOf_t, srcOf_l, srcOf_s, srcOf_ob, isL_ob, isL_l, lk_self, lk_ne, put_ne, del_ne, ne_eq, not_false_eq_true, put_nil, put_self, del_nil, del_self, oLen_l, oLen_t, oLen_sc, oLen_s, oLen_ob, oIx_l, oIx_t, oIx_ob, at_0, at_1, at_2, ix_30, ix_31, ix_32, oSl_l, oSl_ob, oAll_l, mApp_ob, mPop_ob, mClear_ob, Option.some.injEq, Cl.lst.injEq, Option.bind_some, Option.map_some, exists_eq_left', exists_eq_left, Option.isSome_some, exists_eq_right, and_assoc, exists_and_left, Prod.mk.injEq, oSort, oSortSet, oLenSet, isB_bool hb]
          by_cases hi : n = "int"
          · subst hi
            obtain ⟨k, rfl⟩ := ty0_int hn0
            simp only [sRet, sIf, sSeq, sAsg, sDrop, sNext, sNever, sCt, sPar, sFor, sWhile, dAnd, dOr, dNot, dCB, dCons, dNil, dVar, dC, dOp, dTst, dAndT, dOrT, dNotT, dIf, dLst, dTup, dCl, dLc, dYes, dSl, dNoPart, dPart, dRev, dNeg, dChain, dM, dCall, tName, tTupG, tConss, tNils, tSub, iL, iE, iZ, iR1, iR2, startG, wipeG, List.map_cons, List.map_nil, List.length_cons, List.length_nil, List.cons_append, List.nil_append, List.append_nil, List.getD_cons_zero, List.getD_cons_succ, List.set_cons_zero, List.set_cons_succ, List.replicate_succ, List.replicate_zero, Nat.reduceAdd, Nat.reduceSub, Nat.reduceLeDiff, Nat.zero_add, Nat.sub_zero, oB_bl, true_and, and_true, Bool.not_true, Bool.not_false, if_true, if_false, Bool.false_eq_true, reduceIte, mkD_f, oSub_i, oMod_i, oDiv_i, oPow_i, oAdd_i, oAdd_s, oAdd_t, oAdd_l, oMul_i, oMul_l, oLt_i, oLe_i, oGt_i, oGe_i, oMax2_i, oMin2_i, oAbs_i, oInt1_i, oInt1_b, oEq_i, oNe_i, oEq_b, oNe_b, oIsi_x, oIsN_d, oNotN_d, lsOf_l, lstOf_ob, seqOf_ob, lstOf_l, lstOf_s, seqOf_l, seqOf_s, seqOf_t, srcOf_l, srcOf_s, srcOf_ob, isL_ob, isL_l, lk_self, lk_ne, put_ne, del_ne, ne_eq, not_false_eq_true, put_nil, put_self, del_nil, del_self, oLen_l, oLen_t, oLen_sc, oLen_s, oLen_ob, oIx_l, oIx_t, oIx_ob, at_0, at_1, at_2, ix_30, ix_31, ix_32, oSl_l, oSl_ob, oAll_l, mApp_ob, mPop_ob, mClear_ob, Option.some.injEq, Cl.lst.injEq, Option.bind_some, Option.map_some, exists_eq_left', exists_eq_left, Option.isSome_some, exists_eq_right, and_assoc, exists_and_left, Prod.mk.injEq, oSort, oSortSet, oLenSet, isB_self, List.length_map]
            by_cases h0 : k < 0
            · simp only [sRet, sIf, sSeq, sAsg, sDrop, sNext, sNever, sCt, sPar, sFor, sWhile, dAnd, dOr, dNot, dCB, dCons, dNil, dVar, dC, dOp, dTst, dAndT, dOrT, dNotT, dIf, dLst, dTup, dCl, dLc, dYes, dSl, dNoPart, dPart, dRev, dNeg, dChain, dM, dCall, tName, tTupG, tConss, tNils, tSub, iL, iE, iZ, iR1, iR2, startG, wipeG, List.map_cons, List.map_nil, List.length_cons, List.length_nil, List.cons_append, List.nil_append, List.append_nil, List.getD_cons_zero, List.getD_cons_succ, List.set_cons_zero, List.set_cons_succ, List.replicate_succ, List.replicate_zero, Nat.reduceAdd, Nat.reduceSub, Nat.reduceLeDiff, Nat.zero_add, Nat.sub_zero, oB_bl, true_and, and_true, Bool.not_true, Bool.not_false, if_true, if_false, Bool.false_eq_true, reduceIte, mkD_f, oSub_i, oMod_i, oDiv_i, oPow_i, oAdd_i, oAdd_s, oAdd_t, oAdd_l, oMul_i, oMul_l, oLt_i, oLe_i, oGt_i, oGe_i, oMax2_i, oMin2_i, oAbs_i, oInt1_i, oInt1_b, oEq_i, oNe_i, oEq_b, oNe_b, oIsi_x, oIsN_d, oNotN_d, lsOf_l, lstOf_ob, seqOf_ob, lstOf_l, lstOf_s, seqOf_l, seqOf_s, seqOf_t, srcOf_l, srcOf_s, srcOf_ob, isL_ob, isL_l, lk_self, lk_ne, put_ne, del_ne, ne_eq, not_false_eq_true, put_nil, put_self, del_nil, del_self, oLen_l, oLen_t, oLen_sc, oLen_s, oLen_ob, oIx_l, oIx_t, oIx_ob, at_0, at_1, at_2, ix_30, ix_31, ix_32, oSl_l, oSl_ob, oAll_l, mApp_ob, mPop_ob, mClear_ob, Option.some.injEq, Cl.lst.injEq, Option.bind_some, Option.map_some, exists_eq_left', exists_eq_left, Option.isSome_some, exists_eq_right, and_assoc, exists_and_left, Prod.mk.injEq, oSort, oSortSet, oLenSet, h0, decide_true]
              exact bad (by simp [isInt]; omega)
            · simp only [sRet, sIf, sSeq, sAsg, sDrop, sNext, sNever, sCt, sPar, sFor, sWhile, dAnd, dOr, dNot, dCB, dCons, dNil, dVar, dC, dOp, dTst, dAndT, dOrT, dNotT, dIf, dLst, dTup, dCl, dLc, dYes, dSl, dNoPart, dPart, dRev, dNeg, dChain, dM, dCall, tName, tTupG, tConss, tNils, tSub, iL, iE, iZ, iR1, iR2, startG, wipeG, List.map_cons, List.map_nil, List.length_cons, List.length_nil, List.cons_append, List.nil_append, List.append_nil, List.getD_cons_zero, List.getD_cons_succ, List.set_cons_zero, List.set_cons_succ, List.replicate_succ, List.replicate_zero, Nat.reduceAdd, Nat.reduceSub, Nat.reduceLeDiff, Nat.zero_add, Nat.sub_zero, oB_bl, true_and, and_true, Bool.not_true, Bool.not_false, if_true, if_false, Bool.false_eq_true, reduceIte, mkD_f, oSub_i, oMod_i, oDiv_i, oPow_i, oAdd_i, oAdd_s, oAdd_t, oAdd_l, oMul_i, oMul_l, oLt_i, oLe_i, oGt_i, oGe_i, oMax2_i, oMin2_i, oAbs_i, oInt1_i, oInt1_b, oEq_i, oNe_i, oEq_b, oNe_b, oIsi_x, oIsN_d, oNotN_d, lsOf_l, lstOf_ob, seqOf_ob, lstOf_l, lstOf_s, seqOf_l, seqOf_s, seqOf_t, srcOf_l, srcOf_s, srcOf_ob, isL_ob, isL_l, lk_self, lk_ne, put_ne, del_ne, ne_eq, not_false_eq_true, put_nil, put_self, del_nil, del_self, oLen_l, oLen_t, oLen_sc, oLen_s, oLen_ob, oIx_l, oIx_t, oIx_ob, at_0, at_1, at_2, ix_30, ix_31, ix_32, oSl_l, oSl_ob, oAll_l, mApp_ob, mPop_ob, mClear_ob, Option.some.injEq, Cl.lst.injEq, Option.bind_some, Option.map_some, exists_eq_left', exists_eq_left, Option.isSome_some, exists_eq_right, and_assoc, exists_and_left, Prod.mk.injEq, oSort, oSortSet, oLenSet, h0, decide_false]
              by_cases h1 : (net.length : Int) ≤ k
              · simp only [sRet, sIf, sSeq, sAsg, sDrop, sNext, sNever, sCt, sPar, sFor, sWhile, dAnd, dOr, dNot, dCB, dCons, dNil, dVar, dC, dOp, dTst, dAndT, dOrT, dNotT, dIf, dLst, dTup, dCl, dLc, dYes, dSl, dNoPart, dPart, dRev, dNeg, dChain, dM, dCall, tName, tTupG, tConss, tNils, tSub, iL, iE, iZ, iR1, iR2, startG, wipeG, List.map_cons, List.map_nil, List.length_cons, List.length_nil, List.cons_append, List.nil_append, List.append_nil, List.getD_cons_zero, List.getD_cons_succ, List.set_cons_zero, List.set_cons_succ, List.replicate_succ, List.replicate_zero, Nat.reduceAdd, Nat.reduceSub, Nat.reduceLeDiff, Nat.zero_add, Nat.sub_zero, oB_bl, true_and, and_true, Bool.not_true, Bool.not_false, if_true, if_false, Bool.false_eq_true, reduceIte, mkD_f, oSub_i, oMod_i, oDiv_i, oPow_i, oAdd_i, oAdd_s, oAdd_t, oAdd_l, oMul_i, oMul_l, oLt_i, oLe_i, oGt_i, oGe_i, oMax2_i, oMin2_i, oAbs_i, oInt1_i, oInt1_b, oEq_i, oNe_i, oEq_b, oNe_b, oIsi_x, oIsN_d, oNotN_d, lsOf_l, lstOf_ob, seqOf_ob, lstOf_l, lstOf_s, seqOf_l, seqOf_s, seqOf_t, srcOf_l, srcOf_s, srcOf_ob, isL_ob, isL_l, lk_self, lk_ne, put_ne, del_ne, ne_eq, not_false_eq_true, put_nil, put_self, del_nil, del_self, oLen_l, oLen_t, oLen_sc, oLen_s, oLen_ob, oIx_l, oIx_t, oIx_ob, at_0, at_1, at_2, ix_30, ix_31, ix_32, oSl_l, oSl_ob, oAll_l, mApp_ob, mPop_ob, mClear_ob, Option.some.injEq, Cl.lst.injEq, Option.bind_some, Option.map_some, exists_eq_left', exists_eq_left, Option.isSome_some, exists_eq_right, and_assoc, exists_and_left, Prod.mk.injEq, oSort, oSortSet, oLenSet, h1, decide_true]
                exact bad (by simp [isInt]; omega)
              · simp only [sRet, sIf, sSeq, sAsg, sDrop, sNext, sNever, sCt, sPar, sFor, sWhile, dAnd, dOr, dNot, dCB, dCons, dNil, dVar, dC, dOp, dTst, dAndT, dOrT, dNotT, dIf, dLst, dTup, dCl, dLc, dYes, dSl, dNoPart, dPart, dRev, dNeg, dChain, dM, dCall, tName, tTupG, tConss, tNils, tSub, iL, iE, iZ, iR1, iR2, startG, wipeG, List.map_cons, List.map_nil, List.length_cons, List.length_nil, List.cons_append, List.nil_append, List.append_nil, List.getD_cons_zero, List.getD_cons_succ, List.set_cons_zero, List.set_cons_succ, List.replicate_succ, List.replicate_zero, Nat.reduceAdd, Nat.reduceSub, Nat.reduceLeDiff, Nat.zero_add, Nat.sub_zero, oB_bl, true_and, and_true, Bool.not_true, Bool.not_false, if_true, if_false, Bool.false_eq_true, reduceIte, mkD_f, oSub_i, oMod_i, oDiv_i, oPow_i, oAdd_i, oAdd_s, oAdd_t, oAdd_l, oMul_i, oMul_l, oLt_i, oLe_i, oGt_i, oGe_i, oMax2_i, oMin2_i, oAbs_i, oInt1_i, oInt1_b, oEq_i, oNe_i, oEq_b, oNe_b, oIsi_x, oIsN_d, oNotN_d, lsOf_l, lstOf_ob, seqOf_ob, lstOf_l, lstOf_s, seqOf_l, seqOf_s, seqOf_t, srcOf_l, srcOf_s, srcOf_ob, isL_ob, isL_l, lk_self, lk_ne, put_ne, del_ne, ne_eq, not_false_eq_true, put_nil, put_self, del_nil, del_self, oLen_l, oLen_t, oLen_sc, oLen_s, oLen_ob, oIx_l, oIx_t, oIx_ob, at_0, at_1, at_2, ix_30, ix_31, ix_32, oSl_l, oSl_ob, oAll_l, mApp_ob, mPop_ob, mClear_ob, Option.some.injEq, Cl.lst.injEq, Option.bind_some, Option.map_some, exists_eq_left', exists_eq_left, Option.isSome_some, exists_eq_right, and_assoc, exists_and_left, Prod.mk.injEq, oSort, oSortSet, oLenSet, h1, decide_false]
                exact good (by simp [isInt]; omega) _
          · simp only [sRet, sIf, sSeq, sAsg, sDrop, sNext, sNever, sCt, sPar, sFor, sWhile, dAnd, dOr, dNot, dCB, dCons, dNil, dVar, dC, dOp, dTst, dAndT, dOrT, dNotT, dIf, dLst, dTup, dCl, dLc, dYes, dSl, dNoPart, dPart, dRev, dNeg, dChain, dM, dCall, tName, tTupG, tConss, tNils, tSub, iL, iE, iZ, iR1, iR2, startG, wipeG, List.map_cons, List.map_nil, List.length_cons, List.length_nil, List.cons_append, List.nil_append, List.append_nil, List.getD_cons_zero, List.getD_cons_succ, List.set_cons_zero, List.set_cons_succ, List.replicate_succ, List.replicate_zero, Nat.reduceAdd, Nat.reduceSub, Nat.reduceLeDiff, Nat.zero_add, Nat.sub_zero, oB_bl, true_and, and_true, Bool.not_true, Bool.not_false, if_true, if_false, Bool.false_eq_true, reduceIte, mkD_f, oSub_i, oMod_i, oDiv_i, oPow_i, oAdd_i, oAdd_s, oAdd_t, oAdd_l, oMul_i, oMul_l, oLt_i, oLe_i, oGt_i, oGe_i, oMax2_i, oMin2_i, oAbs_i, oInt1_i, oInt1_b, oEq_i, oNe_i, oEq_b, oNe_b, oIsi_x, oIsN_d, oNotN_d, lsOf_l, lstOf_ob, seqOf_ob, lstOf_l, lstOf_s, seqOf_l, seqOf_s, seqOf_t, srcOf_l, srcOf_s, srcOf_ob, isL_ob, isL_l, lk_self, lk_ne, put_ne, del_ne, ne_eq, not_false_eq_true, put_nil, put_self, del_nil, del_self, oLen_l, oLen_t, oLen_sc, oLen_s, oLen_ob, oIx_l, oIx_t, oIx_ob, at_0, at_1, at_2, ix_30, ix_31, ix_32, oSl_l, oSl_ob, oAll_l, mApp_ob, mPop_ob, mClear_ob, Option.some.injEq, Cl.lst.injEq, Option.bind_some, Option.map_some, exists_eq_left', exists_eq_left, Option.isSome_some, exists_eq_right, and_assoc, exists_and_left, Prod.mk.injEq, oSort, oSortSet, oLenSet, isB_int hi hb]
            exact bad (isInt_ty hn0 hi)
      · rintro r' g ⟨rfl, hall, o2, rfl⟩
        rw [List.take_length] at hall
        obtain ⟨ns, rfl, hr⟩ := ints_of_all hall
        refine ⟨keptN _, ?_⟩
        simp only [sRet, sIf, sSeq, sAsg, sDrop, sNext, sNever, sCt, sPar, sFor, sWhile, dAnd, dOr, dNot, dCB, dCons, dNil, dVar, dC, dOp, dTst, dAndT, dOrT, dNotT, dIf, dLst, dTup, dCl, dLc, dYes, dSl, dNoPart, dPart, dRev, dNeg, dChain, dM, dCall, tName, tTupG, tConss, tNils, tSub, iL, iE, iZ, iR1, iR2, startG, wipeG, List.map_cons, List.map_nil, List.length_cons, List.length_nil, List.cons_append, List.nil_append, List.append_nil, List.getD_cons_zero, List.getD_cons_succ, List.set_cons_zero, List.set_cons_succ, List.replicate_succ, List.replicate_zero, Nat.reduceAdd, Nat.reduceSub, Nat.reduceLeDiff, Nat.zero_add, Nat.sub_zero, oB_bl, true_and, and_true, Bool.not_true, Bool.not_false, if_true, if_false, Bool.false_eq_true, reduceIte, mkD_f, oSub_i, oMod_i, oDiv_i, oPow_i, oAdd_i, oAdd_s, oAdd_t, oAdd_l, oMul_i, oMul_l, oLt_i, oLe_i, oGt_i, oGe_i, oMax2_i, oMin2_i, oAbs_i, oInt1_i, oInt1_b, oEq_i, oNe_i, oEq_b, oNe_b, oIsi_x, oIsN_d, oNotN_d, lsOf_l, lstOf_ob, seqOf_ob, lstOf_l, lstOf_s, seqOf_l, seqOf_s, seqOf_t, srcOf_l, srcOf_s, srcOf_ob, isL_ob, isL_l, lk_self, lk_ne, put_ne, del_ne, ne_eq, not_false_eq_true, put_nil, put_self, del_nil, del_self, oLen_l, oLen_t, oLen_sc, oLen_s, oLen_ob, oIx_l, oIx_t, oIx_ob, at_0, at_1, at_2, ix_30, ix_31, ix_32, oSl_l, oSl_ob, oAll_l, mApp_ob, mPop_ob, mClear_ob, Option.some.injEq, Cl.lst.injEq, Option.bind_some, Option.map_some, exists_eq_left', exists_eq_left, Option.isSome_some, exists_eq_right, and_assoc, exists_and_left, Prod.mk.injEq, oSort, oSortSet, oLenSet, netD]
        rw [cutL_from _ (by decide), show List.drop (Int.toNat 1) (ns.map D.int) = (ns.drop 1).map D.int by simp]
        refine lc_flt (badD net) ?_ (keptN _) ?_ ?_
        · rw [zipD_length, List.length_map]
          have : ns.length ≤ 4000 := by simpa using hlen
          have : (4000 : Nat) ≤ sizeLine := by decide
          omega
        · intro d hd P hP
          rw [zipD_ints] at hd
          obtain ⟨⟨a, b⟩, hab, rfl⟩ := List.mem_map.mp hd
          obtain ⟨ha1, ha2⟩ := hr a (List.of_mem_zip hab).1
          obtain ⟨row, hg, hat, _⟩ := hn.at ha1 (by omega)
          simp only [sRet, sIf, sSeq, sAsg, sDrop, sNext, sNever, sCt, sPar, sFor, sWhile, dAnd, dOr, dNot, dCB, dCons, dNil, dVar, dC, dOp, dTst, dAndT, dOrT, dNotT, dIf, dLst, dTup, dCl, dLc, dYes, dSl, dNoPart, dPart, dRev, dNeg, dChain, dM, dCall, tName, tTupG, tConss, tNils, tSub, iL, iE, iZ, iR1, iR2, startG, wipeG, List.map_cons, List.map_nil, List.length_cons, List.length_nil, List.cons_append, List.nil_append, List.append_nil, List.getD_cons_zero, List.getD_cons_succ, List.set_cons_zero, List.set_cons_succ, List.replicate_succ, List.replicate_zero, Nat.reduceAdd, Nat.reduceSub, Nat.reduceLeDiff, Nat.zero_add, Nat.sub_zero, oB_bl, true_and, and_true, Bool.not_true, Bool.not_false, if_true, if_false, Bool.false_eq_true, reduceIte, mkD_f, oSub_i, oMod_i, oDiv_i, oPow_i, oAdd_i, oAdd_s, oAdd_t, oAdd_l, oMul_i, oMul_l, oLt_i, oLe_i, oGt_i, oGe_i, oMax2_i, oMin2_i, oAbs_i, oInt1_i, oInt1_b, oEq_i, oNe_i, oEq_b, oNe_b, oIsi_x, oIsN_d, oNotN_d, lsOf_l, lstOf_ob, seqOf_ob, lstOf_l, lstOf_s, seqOf_l, seqOf_s, seqOf_t, srcOf_l, srcOf_s, srcOf_ob, isL_ob, isL_l, lk_self, lk_ne, put_ne, del_ne, ne_eq, not_false_eq_true, put_nil, put_self, del_nil, del_self, oLen_l, oLen_t, oLen_sc, oLen_s, oLen_ob, oIx_l, oIx_t, oIx_ob, at_0, at_1, at_2, ix_30, ix_31, ix_32, oSl_l, oSl_ob, oAll_l, mApp_ob, mPop_ob, mClear_ob, Option.some.injEq, Cl.lst.injEq, Option.bind_some, Option.map_some, exists_eq_left', exists_eq_left, Option.isSome_some, exists_eq_right, and_assoc, exists_and_left, Prod.mk.injEq, oSort, oSortSet, oLenSet, hat]
          refine ⟨_, rfl, rfl, flat_ints _, ?_⟩
          rw [inD_ints]
          have e2 : net.getD a.toNat [] = row := by rw [List.getD_eq_getElem?_getD, hg]; rfl
          simp only [badD, badF, e2] at hP
          by_cases hm : b ∈ row
          · simp only [sRet, sIf, sSeq, sAsg, sDrop, sNext, sNever, sCt, sPar, sFor, sWhile, dAnd, dOr, dNot, dCB, dCons, dNil, dVar, dC, dOp, dTst, dAndT, dOrT, dNotT, dIf, dLst, dTup, dCl, dLc, dYes, dSl, dNoPart, dPart, dRev, dNeg, dChain, dM, dCall, tName, tTupG, tConss, tNils, tSub, iL, iE, iZ, iR1, iR2, startG, wipeG, List.map_cons, List.map_nil, List.length_cons, List.length_nil, List.cons_append, List.nil_append, List.append_nil, List.getD_cons_zero, List.getD_cons_succ, List.set_cons_zero, List.set_cons_succ, List.replicate_succ, List.replicate_zero, Nat.reduceAdd, Nat.reduceSub, Nat.reduceLeDiff, Nat.zero_add, Nat.sub_zero, oB_bl, true_and, and_true, Bool.not_true, Bool.not_false, if_true, if_false, Bool.false_eq_true, reduceIte, mkD_f, oSub_i, oMod_i, oDiv_i, oPow_i, oAdd_i, oAdd_s, oAdd_t, oAdd_l, oMul_i, oMul_l, oLt_i, oLe_i, oGt_i, oGe_i, oMax2_i, oMin2_i, oAbs_i, oInt1_i, oInt1_b, oEq_i, oNe_i, oEq_b, oNe_b, oIsi_x, oIsN_d, oNotN_d, lsOf_l, lstOf_ob, seqOf_ob, lstOf_l, lstOf_s, seqOf_l, seqOf_s, seqOf_t, srcOf_l, srcOf_s, srcOf_ob, isL_ob, isL_l, lk_self, lk_ne, put_ne, del_ne, ne_eq, not_false_eq_true, put_nil, put_self, del_nil, del_self, oLen_l, oLen_t, oLen_sc, oLen_s, oLen_ob, oIx_l, oIx_t, oIx_ob, at_0, at_1, at_2, ix_30, ix_31, ix_32, oSl_l, oSl_ob, oAll_l, mApp_ob, mPop_ob, mClear_ob, Option.some.injEq, Cl.lst.injEq, Option.bind_some, Option.map_some, exists_eq_left', exists_eq_left, Option.isSome_some, exists_eq_right, and_assoc, exists_and_left, Prod.mk.injEq, oSort, oSortSet, oLenSet, hm, decide_true]
            simp only [hm, if_true] at hP
            exact ⟨r', .refl r', rfl, hP⟩
          · simp only [sRet, sIf, sSeq, sAsg, sDrop, sNext, sNever, sCt, sPar, sFor, sWhile, dAnd, dOr, dNot, dCB, dCons, dNil, dVar, dC, dOp, dTst, dAndT, dOrT, dNotT, dIf, dLst, dTup, dCl, dLc, dYes, dSl, dNoPart, dPart, dRev, dNeg, dChain, dM, dCall, tName, tTupG, tConss, tNils, tSub, iL, iE, iZ, iR1, iR2, startG, wipeG, List.map_cons, List.map_nil, List.length_cons, List.length_nil, List.cons_append, List.nil_append, List.append_nil, List.getD_cons_zero, List.getD_cons_succ, List.set_cons_zero, List.set_cons_succ, List.replicate_succ, List.replicate_zero, Nat.reduceAdd, Nat.reduceSub, Nat.reduceLeDiff, Nat.zero_add, Nat.sub_zero, oB_bl, true_and, and_true, Bool.not_true, Bool.not_false, if_true, if_false, Bool.false_eq_true, reduceIte, mkD_f, oSub_i, oMod_i, oDiv_i, oPow_i, oAdd_i, oAdd_s, oAdd_t, oAdd_l, oMul_i, oMul_l, oLt_i, oLe_i, oGt_i, oGe_i, oMax2_i, oMin2_i, oAbs_i, oInt1_i, oInt1_b, oEq_i, oNe_i, oEq_b, oNe_b, oIsi_x, oIsN_d, oNotN_d, lsOf_l, lstOf_ob, seqOf_ob, lstOf_l, lstOf_s, seqOf_l, seqOf_s, seqOf_t, srcOf_l, srcOf_s, srcOf_ob, isL_ob, isL_l, lk_self, lk_ne, put_ne, del_ne, ne_eq, not_false_eq_true, put_nil, put_self, del_nil, del_self, oLen_l, oLen_t, oLen_sc, oLen_s, oLen_ob, oIx_l, oIx_t, oIx_ob, at_0, at_1, at_2, ix_30, ix_31, ix_32, oSl_l, oSl_ob, oAll_l, mApp_ob, mPop_ob, mClear_ob, Option.some.injEq, Cl.lst.injEq, Option.bind_some, Option.map_some, exists_eq_left', exists_eq_left, Option.isSome_some, exists_eq_right, and_assoc, exists_and_left, Prod.mk.injEq, oSort, oSortSet, oLenSet, hm, decide_false]
            simp only [hm, if_false] at hP
            exact ⟨r', .refl r', rfl, hP⟩
        · rw [mkD_f, zipD_ints, bad_flat]
          refine ⟨Nat.zero_le _, ?_⟩
          refine oEq_nilI (fin _ ?_)
          rw [bad_nil]
          have e3 : (ns.all fun x => decide (0 ≤ x) && decide (x < net.length)) = true := by
            rw [List.all_eq_true]
            intro x hx
            have := hr x hx
            simp; omega
          have e4 : ns.isEmpty = false := by cases ns <;> first | rfl | exact absurd rfl he
          simp only [linkedB, intsOf_map, linkedI, e3, e4, CM.pairsOk, List.drop_one, Bool.not_false, Bool.true_and]
  · have hf : linkedB net v = false := by cases v <;> first | rfl | (simp [ty0] at ht0; exact absurd ht0.symm hl)
    simp only [sRet, sIf, sSeq, sAsg, sDrop, sNext, sNever, sCt, sPar, sFor, sWhile, dAnd, dOr, dNot, dCB, dCons, dNil, dVar, dC, dOp, dTst, dAndT, dOrT, dNotT, dIf, dLst, dTup, dCl, dLc, dYes, dSl, dNoPart, dPart, dRev, dNeg, dChain, dM, dCall, tName, tTupG, tConss, tNils, tSub, iL, iE, iZ, iR1, iR2, startG, wipeG, List.map_cons, List.map_nil, List.length_cons, List.length_nil, List.cons_append, List.nil_append, List.append_nil, List.getD_cons_zero, List.getD_cons_succ, List.set_cons_zero, List.set_cons_succ, List.replicate_succ, List.replicate_zero, Nat.reduceAdd, Nat.reduceSub, Nat.reduceLeDiff, Nat.zero_add, Nat.sub_zero, oB_bl, true_and, and_true, Bool.not_true, Bool.not_false, if_true, if_false, Bool.false_eq_true, reduceIte, mkD_f, oSub_i, oMod_i, oDiv_i, oPow_i, oAdd_i, oAdd_s, oAdd_t, oAdd_l, oMul_i, oMul_l, oLt_i, oLe_i, oGt_i, oGe_i, oMax2_i, oMin2_i, oAbs_i, oInt1_i, oInt1_b, oEq_i, oNe_i, oEq_b, oNe_b, oIsi_x, oIsN_d, oNotN_d, lsOf_l, lstOf_ob, seqOf_ob, lstOf_l, lstOf_s, seqOf_l, seqOf_s, seqOf_t, srcOf_l, srcOf_s, srcOf_ob, isL_ob, isL_l, lk_self, lk_ne, put_ne, del_ne, ne_eq, not_false_eq_true, put_nil, put_self, del_nil, del_self, oLen_l, oLen_t, oLen_sc, oLen_s, oLen_ob, oIx_l, oIx_t, oIx_ob, at_0, at_1, at_2, ix_30, ix_31, ix_32, oSl_l, oSl_ob, oAll_l, mApp_ob, mPop_ob, mClear_ob, Option.some.injEq, Cl.lst.injEq, Option.bind_some, Option.map_some, exists_eq_left', exists_eq_left, Option.isSome_some, exists_eq_right, and_assoc, exists_and_left, Prod.mk.injEq, oSort, oSortSet, oLenSet, isB_list hl]
    exact fin _ hf
/-- an item of a changed list -/
structure PV (v : D) : Prop where
  ty : (ty0 v).isSome = true
  sm : Sm 1 110 v
  p : ∃ q, toP v = some q ∧ q.canLay0 = true ∧ q.depth ≤ 1
theorem PV.int {i : Int} (h : -1000 ≤ i) (h2 : i < 1000) : PV (.int i) := ⟨rfl, Sm.int h h2 (by decide), _, rfl, by simp [PyData.canLay0], by simp [PyData.depth]⟩
theorem PV.bl {b : Bool} : PV (.bl b) := ⟨rfl, Sm.bl, _, rfl, by simp [PyData.canLay0], by simp [PyData.depth]⟩
theorem PV.non : PV .non := ⟨rfl, Sm.non, _, rfl, by simp [PyData.canLay0], by simp [PyData.depth]⟩
theorem PV.big : PV (.int (10 ^ 30)) := ⟨rfl, Sm.big (by decide), _, rfl, by simp [PyData.canLay0], by simp [PyData.depth]⟩
theorem PV.str0 : PV (.str "0") := ⟨rfl, Sm.str (by decide +kernel) (by decide +kernel), _, rfl, by simp only [PyData.canLay0]; decide +kernel, by simp [PyData.depth]⟩
theorem PV.lst0 : PV (.lst [.int 0]) := ⟨rfl, (Sm.lst (d := 0) (w := 110) ((Sms.cons (a := 10) (Sm.int (by decide) (by decide) (by decide)) Sms.nil).mono (b := 10 + 1 + 0) (Nat.le_refl _) (by decide))), _, rfl, by simp [PyData.canLay0, PyData.canLayAll0], by simp [PyData.depth, PyData.depthAll]⟩
theorem toPs_pv : ∀ {xs : List D}, (∀ x ∈ xs, PV x) → ∃ qs, toPs xs = some qs ∧ PyData.canLayAll0 qs = true ∧ PyData.depthAll qs ≤ 1
  | [], _ => ⟨[], by simp [toPs], by simp [PyData.canLayAll0], by simp [PyData.depthAll]⟩
  | x :: xs, h => by
    obtain ⟨q, e1, c1, d1⟩ := (h x List.mem_cons_self).p
    obtain ⟨qs, e2, c2, d2⟩ := toPs_pv fun y hy => h y (List.mem_cons_of_mem _ hy)
    exact ⟨q :: qs, by simp [toPs, e1, e2], by simp [PyData.canLayAll0, c1, c2], by simp [PyData.depthAll]; omega⟩
theorem valOk_pv {xs : List D} (hl : xs.length ≤ 400) (h : ∀ x ∈ xs, PV x) : valOk (.lst xs) ∧ Sm 3 90000 (.lst xs) := by
  refine ⟨⟨rfl, fun ys e => ?_⟩, ?_⟩
  · cases e
    obtain ⟨qs, e1, c1, d1⟩ := toPs_pv h
    refine ⟨by omega, fun x hx => (h x hx).ty, .list qs, by simp [toP, e1], ?_⟩
    simp [SeqAt.shaped, PyData.canLay0, c1, PyData.depth]
    omega
  · exact (Sm.lst (Sms.all fun x hx => (h x hx).sm)).mono (by decide) (by omega)
theorem valOk_flat {v : D} {n : String} (h : ty0 v = some n) (hn : n ≠ "list") : valOk v := ⟨by rw [h]; rfl, fun xs e => by subst e; cases h; exact absurd rfl hn⟩
theorem PV.ofInts {n : Nat} {row : List Int} (h : RowsIn n row) (hn : n ≤ 12) : ∀ x ∈ row.map D.int, PV x := fun x hx => by
  obtain ⟨i, hi, rfl⟩ := List.mem_map.mp hx
  have := h.rg i hi
  exact PV.int (by omega) (by omega)
theorem d__law_changed : Does b__law_changed N__law_changed sp__law_changed := by
  rintro r ds Q ⟨s, xs, m, net, row, rfl, rfl, hs, hm, hn, hrow, hl, q⟩
  have n1 := hn.l1
  have n2 := hn.l2
  have hr0 : 0 < row.length := List.length_pos_iff.mpr hrow.ne
  have hpv := PV.ofInts hrow n2
  simp only [sRet, sIf, sSeq, sAsg, sDrop, sNext, sNever, sCt, sPar, sFor, sWhile, dAnd, dOr, dNot, dCB, dCons, dNil, dVar, dC, dOp, dTst, dAndT, dOrT, dNotT, dIf, dLst, dTup, dCl, dLc, dYes, dSl, dNoPart, dPart, dRev, dNeg, dChain, dM, dCall, tName, tTupG, tConss, tNils, tSub, iL, iE, iZ, iR1, iR2, startG, wipeG, List.map_cons, List.map_nil, List.length_cons, List.length_nil, List.cons_append, List.nil_append, List.append_nil, List.getD_cons_zero, List.getD_cons_succ, List.set_cons_zero, List.set_cons_succ, List.replicate_succ, List.replicate_zero, Nat.reduceAdd, Nat.reduceSub, Nat.reduceLeDiff, Nat.zero_add, Nat.sub_zero, oB_bl, true_and, and_true, Bool.not_true, Bool.not_false, if_true, if_false, Bool.false_eq_true, reduceIte, mkD_f, oSub_i, oMod_i, oDiv_i, oPow_i, oAdd_i, oAdd_s, oAdd_t, oAdd_l, oMul_i, oMul_l, oLt_i, oLe_i, oGt_i, oGe_i, oMax2_i, oMin2_i, oAbs_i, oInt1_i, oInt1_b, oEq_i, oNe_i, oEq_b, oNe_b, oIsi_x, oIsN_d, oNotN_d, lsOf_l, lstOf_ob, seqOf_ob, lstOf_l, lstOf_s, seqOf_l, seqOf_s, seqOf_t, srcOf_l, srcOf_s, srcOf_ob, isL_ob, isL_l, lk_self, lk_ne, put_ne, del_ne, ne_eq, not_false_eq_true, put_nil, put_self, del_nil, del_self, oLen_l, oLen_t, oLen_sc, oLen_s, oLen_ob, oIx_l, oIx_t, oIx_ob, at_0, at_1, at_2, ix_30, ix_31, ix_32, oSl_l, oSl_ob, oAll_l, mApp_ob, mPop_ob, mClear_ob, Option.some.injEq, Cl.lst.injEq, Option.bind_some, Option.map_some, exists_eq_left', exists_eq_left, Option.isSome_some, exists_eq_right, and_assoc, exists_and_left, Prod.mk.injEq, oSort, oSortSet, oLenSet, b__law_changed, N__law_changed, netD]
  refine ⟨[(s, _)], [], .refl _, _, _, _, _, rfl, rfl, hs, by omega, by rw [List.length_map]; omega, by rw [List.length_map]; omega, fun d1 ys1 hs1 hd1 he1 => ?_⟩
  rw [List.length_map] at he1
  obtain ⟨x0, hx0, hat0⟩ := atI_ints hd1 he1
  have hx0r := hrow.rg x0 hx0
  simp only [sRet, sIf, sSeq, sAsg, sDrop, sNext, sNever, sCt, sPar, sFor, sWhile, dAnd, dOr, dNot, dCB, dCons, dNil, dVar, dC, dOp, dTst, dAndT, dOrT, dNotT, dIf, dLst, dTup, dCl, dLc, dYes, dSl, dNoPart, dPart, dRev, dNeg, dChain, dM, dCall, tName, tTupG, tConss, tNils, tSub, iL, iE, iZ, iR1, iR2, startG, wipeG, List.map_cons, List.map_nil, List.length_cons, List.length_nil, List.cons_append, List.nil_append, List.append_nil, List.getD_cons_zero, List.getD_cons_succ, List.set_cons_zero, List.set_cons_succ, List.replicate_succ, List.replicate_zero, Nat.reduceAdd, Nat.reduceSub, Nat.reduceLeDiff, Nat.zero_add, Nat.sub_zero, oB_bl, true_and, and_true, Bool.not_true, Bool.not_false, if_true, if_false, Bool.false_eq_true, reduceIte, mkD_f, oSub_i, oMod_i, oDiv_i, oPow_i, oAdd_i, oAdd_s, oAdd_t, oAdd_l, oMul_i, oMul_l, oLt_i, oLe_i, oGt_i, oGe_i, oMax2_i, oMin2_i, oAbs_i, oInt1_i, oInt1_b, oEq_i, oNe_i, oEq_b, oNe_b, oIsi_x, oIsN_d, oNotN_d, lsOf_l, lstOf_ob, seqOf_ob, lstOf_l, lstOf_s, seqOf_l, seqOf_s, seqOf_t, srcOf_l, srcOf_s, srcOf_ob, isL_ob, isL_l, lk_self, lk_ne, put_ne, del_ne, ne_eq, not_false_eq_true, put_nil, put_self, del_nil, del_self, oLen_l, oLen_t, oLen_sc, oLen_s, oLen_ob, oIx_l, oIx_t, oIx_ob, at_0, at_1, at_2, ix_30, ix_31, ix_32, oSl_l, oSl_ob, oAll_l, mApp_ob, mPop_ob, mClear_ob, Option.some.injEq, Cl.lst.injEq, Option.bind_some, Option.map_some, exists_eq_left', exists_eq_left, Option.isSome_some, exists_eq_right, and_assoc, exists_and_left, Prod.mk.injEq, oSort, oSortSet, oLenSet, oTuple_l, oAdd_sl, dD0, hat0, List.length_map]
  refine ⟨by decide, powOk10 30 (by decide), [(s, _)], [], .refl _, _, _, _, _, rfl, rfl, hs1, by omega, by omega, by omega, fun d2 ys2 hs2 hd2 he2 => ?_⟩
  simp only [sRet, sIf, sSeq, sAsg, sDrop, sNext, sNever, sCt, sPar, sFor, sWhile, dAnd, dOr, dNot, dCB, dCons, dNil, dVar, dC, dOp, dTst, dAndT, dOrT, dNotT, dIf, dLst, dTup, dCl, dLc, dYes, dSl, dNoPart, dPart, dRev, dNeg, dChain, dM, dCall, tName, tTupG, tConss, tNils, tSub, iL, iE, iZ, iR1, iR2, startG, wipeG, List.map_cons, List.map_nil, List.length_cons, List.length_nil, List.cons_append, List.nil_append, List.append_nil, List.getD_cons_zero, List.getD_cons_succ, List.set_cons_zero, List.set_cons_succ, List.replicate_succ, List.replicate_zero, Nat.reduceAdd, Nat.reduceSub, Nat.reduceLeDiff, Nat.zero_add, Nat.sub_zero, oB_bl, true_and, and_true, Bool.not_true, Bool.not_false, if_true, if_false, Bool.false_eq_true, reduceIte, mkD_f, oSub_i, oMod_i, oDiv_i, oPow_i, oAdd_i, oAdd_s, oAdd_t, oAdd_l, oMul_i, oMul_l, oLt_i, oLe_i, oGt_i, oGe_i, oMax2_i, oMin2_i, oAbs_i, oInt1_i, oInt1_b, oEq_i, oNe_i, oEq_b, oNe_b, oIsi_x, oIsN_d, oNotN_d, lsOf_l, lstOf_ob, seqOf_ob, lstOf_l, lstOf_s, seqOf_l, seqOf_s, seqOf_t, srcOf_l, srcOf_s, srcOf_ob, isL_ob, isL_l, lk_self, lk_ne, put_ne, del_ne, ne_eq, not_false_eq_true, put_nil, put_self, del_nil, del_self, oLen_l, oLen_t, oLen_sc, oLen_s, oLen_ob, oIx_l, oIx_t, oIx_ob, at_0, at_1, at_2, ix_30, ix_31, ix_32, oSl_l, oSl_ob, oAll_l, mApp_ob, mPop_ob, mClear_ob, Option.some.injEq, Cl.lst.injEq, Option.bind_some, Option.map_some, exists_eq_left', exists_eq_left, Option.isSome_some, exists_eq_right, and_assoc, exists_and_left, Prod.mk.injEq, oSort, oSortSet, oLenSet, oTuple_l, oAdd_sl, dD0]
  refine ⟨by decide, [(s, _)], [], .refl _, _, _, _, _, rfl, rfl, hs2, by omega, by omega, by omega, fun d3 ys3 hs3 hd3 he3 => ?_⟩
  obtain ⟨x1, hat1, hx1⟩ := pickP (xs := [D.int net.length, D.int (net.length + 1), D.int (-1), D.int (-2), D.int (0 - net.length), D.bl true, D.bl false, D.non, D.str "0", D.lst [D.int 0], D.int (10 ^ Int.toNat 30), D.int x0, .int d2]) hd3 (by simpa using he3) (P := PV) (by
    intro x hx
    simp only [List.mem_cons, List.not_mem_nil, or_false] at hx
    rcases hx with rfl | rfl | rfl | rfl | rfl | rfl | rfl | rfl | rfl | rfl | rfl | rfl | rfl
    · exact PV.int (by omega) (by omega)
    · exact PV.int (by omega) (by omega)
    · exact PV.int (by omega) (by omega)
    · exact PV.int (by omega) (by omega)
    · exact PV.int (by omega) (by omega)
    · exact PV.bl
    · exact PV.bl
    · exact PV.non
    · exact PV.str0
    · exact PV.lst0
    · exact PV.big
    · exact PV.int (by omega) (by omega)
    · exact PV.int (by omega) (by omega))
  simp only [sRet, sIf, sSeq, sAsg, sDrop, sNext, sNever, sCt, sPar, sFor, sWhile, dAnd, dOr, dNot, dCB, dCons, dNil, dVar, dC, dOp, dTst, dAndT, dOrT, dNotT, dIf, dLst, dTup, dCl, dLc, dYes, dSl, dNoPart, dPart, dRev, dNeg, dChain, dM, dCall, tName, tTupG, tConss, tNils, tSub, iL, iE, iZ, iR1, iR2, startG, wipeG, List.map_cons, List.map_nil, List.length_cons, List.length_nil, List.cons_append, List.nil_append, List.append_nil, List.getD_cons_zero, List.getD_cons_succ, List.set_cons_zero, List.set_cons_succ, List.replicate_succ, List.replicate_zero, Nat.reduceAdd, Nat.reduceSub, Nat.reduceLeDiff, Nat.zero_add, Nat.sub_zero, oB_bl, true_and, and_true, Bool.not_true, Bool.not_false, if_true, if_false, Bool.false_eq_true, reduceIte, mkD_f, oSub_i, oMod_i, oDiv_i, oPow_i, oAdd_i, oAdd_s, oAdd_t, oAdd_l, oMul_i, oMul_l, oLt_i, oLe_i, oGt_i, oGe_i, oMax2_i, oMin2_i, oAbs_i, oInt1_i, oInt1_b, oEq_i, oNe_i, oEq_b, oNe_b, oIsi_x, oIsN_d, oNotN_d, lsOf_l, lstOf_ob, seqOf_ob, lstOf_l, lstOf_s, seqOf_l, seqOf_s, seqOf_t, srcOf_l, srcOf_s, srcOf_ob, isL_ob, isL_l, lk_self, lk_ne, put_ne, del_ne, ne_eq, not_false_eq_true, put_nil, put_self, del_nil, del_self, oLen_l, oLen_t, oLen_sc, oLen_s, oLen_ob, oIx_l, oIx_t, oIx_ob, at_0, at_1, at_2, ix_30, ix_31, ix_32, oSl_l, oSl_ob, oAll_l, mApp_ob, mPop_ob, mClear_ob, Option.some.injEq, Cl.lst.injEq, Option.bind_some, Option.map_some, exists_eq_left', exists_eq_left, Option.isSome_some, exists_eq_right, and_assoc, exists_and_left, Prod.mk.injEq, oSort, oSortSet, oLenSet, oTuple_l, oAdd_sl, dD0]
  refine ⟨_, hat1, ?_⟩
  have hsz := sizeBig
  have dd1 : (0 : Int) ≤ d1 + 1 := by omega
  simp only [sRet, sIf, sSeq, sAsg, sDrop, sNext, sNever, sCt, sPar, sFor, sWhile, dAnd, dOr, dNot, dCB, dCons, dNil, dVar, dC, dOp, dTst, dAndT, dOrT, dNotT, dIf, dLst, dTup, dCl, dLc, dYes, dSl, dNoPart, dPart, dRev, dNeg, dChain, dM, dCall, tName, tTupG, tConss, tNils, tSub, iL, iE, iZ, iR1, iR2, startG, wipeG, List.map_cons, List.map_nil, List.length_cons, List.length_nil, List.cons_append, List.nil_append, List.append_nil, List.getD_cons_zero, List.getD_cons_succ, List.set_cons_zero, List.set_cons_succ, List.replicate_succ, List.replicate_zero, Nat.reduceAdd, Nat.reduceSub, Nat.reduceLeDiff, Nat.zero_add, Nat.sub_zero, oB_bl, true_and, and_true, Bool.not_true, Bool.not_false, if_true, if_false, Bool.false_eq_true, reduceIte, mkD_f, oSub_i, oMod_i, oDiv_i, oPow_i, oAdd_i, oAdd_s, oAdd_t, oAdd_l, oMul_i, oMul_l, oLt_i, oLe_i, oGt_i, oGe_i, oMax2_i, oMin2_i, oAbs_i, oInt1_i, oInt1_b, oEq_i, oNe_i, oEq_b, oNe_b, oIsi_x, oIsN_d, oNotN_d, lsOf_l, lstOf_ob, seqOf_ob, lstOf_l, lstOf_s, seqOf_l, seqOf_s, seqOf_t, srcOf_l, srcOf_s, srcOf_ob, isL_ob, isL_l, lk_self, lk_ne, put_ne, del_ne, ne_eq, not_false_eq_true, put_nil, put_self, del_nil, del_self, oLen_l, oLen_t, oLen_sc, oLen_s, oLen_ob, oIx_l, oIx_t, oIx_ob, at_0, at_1, at_2, ix_30, ix_31, ix_32, oSl_l, oSl_ob, oAll_l, mApp_ob, mPop_ob, mClear_ob, Option.some.injEq, Cl.lst.injEq, Option.bind_some, Option.map_some, exists_eq_left', exists_eq_left, Option.isSome_some, exists_eq_right, and_assoc, exists_and_left, Prod.mk.injEq, oSort, oSortSet, oLenSet, oTuple_l, oAdd_sl, dD0, cutL_to _ hd1, cutL_from _ hd1, cutL_from _ dd1, List.length_append, List.length_take, List.length_drop, List.length_map]
  have r400 : (-2 ^ 63 : Int) ≤ 400 := by decide
  have r401 : (400 : Int) < 2 ^ 63 := by decide
  have t400 : Int.toNat 400 = 400 := rfl
  refine ⟨by omega, by omega, by omega, by omega, by omega, by omega, by omega, by omega, by omega, by omega, r400, r401, by rw [t400]; omega, by omega, by omega, [(s, _)], [], .refl _, _, _, _, _, rfl, rfl, hs3, by omega, by omega, by omega, fun d4 ys4 hs4 hd4 he4 => ?_⟩
  simp only [sRet, sIf, sSeq, sAsg, sDrop, sNext, sNever, sCt, sPar, sFor, sWhile, dAnd, dOr, dNot, dCB, dCons, dNil, dVar, dC, dOp, dTst, dAndT, dOrT, dNotT, dIf, dLst, dTup, dCl, dLc, dYes, dSl, dNoPart, dPart, dRev, dNeg, dChain, dM, dCall, tName, tTupG, tConss, tNils, tSub, iL, iE, iZ, iR1, iR2, startG, wipeG, List.map_cons, List.map_nil, List.length_cons, List.length_nil, List.cons_append, List.nil_append, List.append_nil, List.getD_cons_zero, List.getD_cons_succ, List.set_cons_zero, List.set_cons_succ, List.replicate_succ, List.replicate_zero, Nat.reduceAdd, Nat.reduceSub, Nat.reduceLeDiff, Nat.zero_add, Nat.sub_zero, oB_bl, true_and, and_true, Bool.not_true, Bool.not_false, if_true, if_false, Bool.false_eq_true, reduceIte, mkD_f, oSub_i, oMod_i, oDiv_i, oPow_i, oAdd_i, oAdd_s, oAdd_t, oAdd_l, oMul_i, oMul_l, oLt_i, oLe_i, oGt_i, oGe_i, oMax2_i, oMin2_i, oAbs_i, oInt1_i, oInt1_b, oEq_i, oNe_i, oEq_b, oNe_b, oIsi_x, oIsN_d, oNotN_d, lsOf_l, lstOf_ob, seqOf_ob, lstOf_l, lstOf_s, seqOf_l, seqOf_s, seqOf_t, srcOf_l, srcOf_s, srcOf_ob, isL_ob, isL_l, lk_self, lk_ne, put_ne, del_ne, ne_eq, not_false_eq_true, put_nil, put_self, del_nil, del_self, oLen_l, oLen_t, oLen_sc, oLen_s, oLen_ob, oIx_l, oIx_t, oIx_ob, at_0, at_1, at_2, ix_30, ix_31, ix_32, oSl_l, oSl_ob, oAll_l, mApp_ob, mPop_ob, mClear_ob, Option.some.injEq, Cl.lst.injEq, Option.bind_some, Option.map_some, exists_eq_left', exists_eq_left, Option.isSome_some, exists_eq_right, and_assoc, exists_and_left, Prod.mk.injEq, oSort, oSortSet, oLenSet, oTuple_l, oAdd_sl, dD0]
  refine ⟨by omega, [(s, _)], [], .refl _, _, _, _, _, rfl, rfl, hs4, by omega, by omega, by omega, fun d5 ys5 hs5 hd5 he5 => ?_⟩
  obtain ⟨y, hy, hy0, hy1⟩ : ∃ y, L2.atI [D.int 0, D.int 1, D.int 2, D.int d4] d5 = some (.int y) ∧ 0 ≤ y ∧ y < 13 := by
    rcases (show d5 = 0 ∨ d5 = 1 ∨ d5 = 2 ∨ d5 = 3 by omega) with rfl | rfl | rfl | rfl
    · exact ⟨0, rfl, by omega, by omega⟩
    · exact ⟨1, rfl, by omega, by omega⟩
    · exact ⟨2, rfl, by omega, by omega⟩
    · exact ⟨d4, rfl, hd4, he4⟩
  simp only [sRet, sIf, sSeq, sAsg, sDrop, sNext, sNever, sCt, sPar, sFor, sWhile, dAnd, dOr, dNot, dCB, dCons, dNil, dVar, dC, dOp, dTst, dAndT, dOrT, dNotT, dIf, dLst, dTup, dCl, dLc, dYes, dSl, dNoPart, dPart, dRev, dNeg, dChain, dM, dCall, tName, tTupG, tConss, tNils, tSub, iL, iE, iZ, iR1, iR2, startG, wipeG, List.map_cons, List.map_nil, List.length_cons, List.length_nil, List.cons_append, List.nil_append, List.append_nil, List.getD_cons_zero, List.getD_cons_succ, List.set_cons_zero, List.set_cons_succ, List.replicate_succ, List.replicate_zero, Nat.reduceAdd, Nat.reduceSub, Nat.reduceLeDiff, Nat.zero_add, Nat.sub_zero, oB_bl, true_and, and_true, Bool.not_true, Bool.not_false, if_true, if_false, Bool.false_eq_true, reduceIte, mkD_f, oSub_i, oMod_i, oDiv_i, oPow_i, oAdd_i, oAdd_s, oAdd_t, oAdd_l, oMul_i, oMul_l, oLt_i, oLe_i, oGt_i, oGe_i, oMax2_i, oMin2_i, oAbs_i, oInt1_i, oInt1_b, oEq_i, oNe_i, oEq_b, oNe_b, oIsi_x, oIsN_d, oNotN_d, lsOf_l, lstOf_ob, seqOf_ob, lstOf_l, lstOf_s, seqOf_l, seqOf_s, seqOf_t, srcOf_l, srcOf_s, srcOf_ob, isL_ob, isL_l, lk_self, lk_ne, put_ne, del_ne, ne_eq, not_false_eq_true, put_nil, put_self, del_nil, del_self, oLen_l, oLen_t, oLen_sc, oLen_s, oLen_ob, oIx_l, oIx_t, oIx_ob, at_0, at_1, at_2, ix_30, ix_31, ix_32, oSl_l, oSl_ob, oAll_l, mApp_ob, mPop_ob, mClear_ob, Option.some.injEq, Cl.lst.injEq, Option.bind_some, Option.map_some, exists_eq_left', exists_eq_left, Option.isSome_some, exists_eq_right, and_assoc, exists_and_left, Prod.mk.injEq, oSort, oSortSet, oLenSet, oTuple_l, oAdd_sl, dD0]
  refine ⟨_, hy, ?_⟩
  simp only [sRet, sIf, sSeq, sAsg, sDrop, sNext, sNever, sCt, sPar, sFor, sWhile, dAnd, dOr, dNot, dCB, dCons, dNil, dVar, dC, dOp, dTst, dAndT, dOrT, dNotT, dIf, dLst, dTup, dCl, dLc, dYes, dSl, dNoPart, dPart, dRev, dNeg, dChain, dM, dCall, tName, tTupG, tConss, tNils, tSub, iL, iE, iZ, iR1, iR2, startG, wipeG, List.map_cons, List.map_nil, List.length_cons, List.length_nil, List.cons_append, List.nil_append, List.append_nil, List.getD_cons_zero, List.getD_cons_succ, List.set_cons_zero, List.set_cons_succ, List.replicate_succ, List.replicate_zero, Nat.reduceAdd, Nat.reduceSub, Nat.reduceLeDiff, Nat.zero_add, Nat.sub_zero, oB_bl, true_and, and_true, Bool.not_true, Bool.not_false, if_true, if_false, Bool.false_eq_true, reduceIte, mkD_f, oSub_i, oMod_i, oDiv_i, oPow_i, oAdd_i, oAdd_s, oAdd_t, oAdd_l, oMul_i, oMul_l, oLt_i, oLe_i, oGt_i, oGe_i, oMax2_i, oMin2_i, oAbs_i, oInt1_i, oInt1_b, oEq_i, oNe_i, oEq_b, oNe_b, oIsi_x, oIsN_d, oNotN_d, lsOf_l, lstOf_ob, seqOf_ob, lstOf_l, lstOf_s, seqOf_l, seqOf_s, seqOf_t, srcOf_l, srcOf_s, srcOf_ob, isL_ob, isL_l, lk_self, lk_ne, put_ne, del_ne, ne_eq, not_false_eq_true, put_nil, put_self, del_nil, del_self, oLen_l, oLen_t, oLen_sc, oLen_s, oLen_ob, oIx_l, oIx_t, oIx_ob, at_0, at_1, at_2, ix_30, ix_31, ix_32, oSl_l, oSl_ob, oAll_l, mApp_ob, mPop_ob, mClear_ob, Option.some.injEq, Cl.lst.injEq, Option.bind_some, Option.map_some, exists_eq_left', exists_eq_left, Option.isSome_some, exists_eq_right, and_assoc, exists_and_left, Prod.mk.injEq, oSort, oSortSet, oLenSet, oTuple_l, oAdd_sl, dD0]
  have hap : ∀ (A B : List D), (∀ x ∈ A, PV x) → (∀ x ∈ B, PV x) → ∀ x ∈ A ++ B, PV x := fun A B h1 h2 x hx => (List.mem_append.mp hx).elim (h1 x) (h2 x)
  have htk : ∀ k, ∀ x ∈ (row.map D.int).take k, PV x := fun k x hx => hpv x (List.mem_of_mem_take hx)
  have hdr : ∀ k, ∀ x ∈ (row.map D.int).drop k, PV x := fun k x hx => hpv x (List.mem_of_mem_drop hx)
  have hon : ∀ x ∈ [x1], PV x := fun x hx => by rw [List.mem_singleton] at hx; exact hx ▸ hx1
  have hlr : (row.map D.int).length ≤ 62 := by rw [List.length_map]; exact hl
  have hlt : ∀ k, ((row.map D.int).take k).length ≤ 62 := fun k => by rw [List.length_take]; omega
  have hld : ∀ k, ((row.map D.int).drop k).length ≤ 62 := fun k => by rw [List.length_drop]; omega
  have srow : Sm 1 90000 (.tup (row.map D.int)) := (Sm.tup (d := 0) (Sms.ints fun x hx => by have := hrow.rg x hx; omega)).mono (Nat.le_refl _) (by omega)
  have srow2 : Sm 1 800 (.lst (row.map D.int)) := (Sm.lst (d := 0) (Sms.ints fun x hx => by have := hrow.rg x hx; omega)).mono (Nat.le_refl _) (by omega)
  have h400 : ∀ x ∈ cutL (List.replicate (Int.toNat 400) (row.map D.int)).flatten none (some 400), PV x := by
    intro x hx
    rw [cutL_to _ (by decide)] at hx
    obtain ⟨l, hl1, hl2⟩ := List.mem_flatten.mp (List.mem_of_mem_take hx)
    rw [(List.mem_replicate.mp hl1).2] at hl2
    exact hpv x hl2
  have h401 : (cutL (List.replicate (Int.toNat 400) (row.map D.int)).flatten none (some 400)).length ≤ 400 := by
    rw [cutL_to _ (by decide), List.length_take]
    have : Int.toNat 400 = 400 := rfl
    omega
  obtain ⟨v, hat2, hv1, hv2⟩ := pickP (xs := [D.lst ((row.map D.int).take d1.toNat ++ [x1] ++ (row.map D.int).drop (d1 + 1).toNat), D.lst ((row.map D.int).take d1.toNat ++ [x1] ++ (row.map D.int).drop d1.toNat), D.lst ((row.map D.int).take d1.toNat ++ (row.map D.int).drop (d1 + 1).toNat),
      D.lst (row.map D.int).reverse, D.tup (row.map D.int), D.lst [], D.non, D.int 0, D.str "", D.dct [], D.lst [D.lst (row.map D.int)], D.lst (cutL (List.replicate (Int.toNat 400) (row.map D.int)).flatten none (some 400)), D.bl true]) hy0 (by simpa using hy1) (P := fun v => valOk v ∧ Sm 3 90000 v) (by
    intro x hx
    simp only [List.mem_cons, List.not_mem_nil, or_false] at hx
    rcases hx with rfl | rfl | rfl | rfl | rfl | rfl | rfl | rfl | rfl | rfl | rfl | rfl | rfl
    · exact valOk_pv (by have := hlt d1.toNat; have := hld (d1 + 1).toNat; simp only [List.length_append, List.length_singleton]; omega) (hap _ _ (hap _ _ (htk _) hon) (hdr _))
    · exact valOk_pv (by have := hlt d1.toNat; have := hld d1.toNat; simp only [List.length_append, List.length_singleton]; omega) (hap _ _ (hap _ _ (htk _) hon) (hdr _))
    · exact valOk_pv (by have := hlt d1.toNat; have := hld (d1 + 1).toNat; simp only [List.length_append]; omega) (hap _ _ (htk _) (hdr _))
    · exact valOk_pv (by rw [List.length_reverse]; omega) (fun x hx => hpv x (List.mem_reverse.mp hx))
    · exact ⟨valOk_flat rfl (by decide), srow.mono (by decide) (by decide)⟩
    · exact valOk_pv (by simp) (by simp)
    · exact ⟨valOk_flat rfl (by decide), Sm.non⟩
    · exact ⟨valOk_flat rfl (by decide), Sm.int (by decide) (by decide) (by decide)⟩
    · exact ⟨valOk_flat rfl (by decide), Sm.str (by decide +kernel) (by decide +kernel)⟩
    · exact ⟨valOk_flat rfl (by decide), Sm.d0.mono (by decide) (Nat.le_refl _)⟩
    · refine ⟨⟨rfl, fun ys e => ?_⟩, (Sm.lst (Sms.cons srow2 Sms.nil)).mono (b := 800 + 1 + 0) (by decide) (by decide)⟩
      cases e
      refine ⟨by simp, fun x hx => by rw [List.mem_singleton] at hx; subst hx; rfl, .list [.list (row.map PyData.int)], by simp [toP, toPs, toPs_ints], ?_⟩
      simp [SeqAt.shaped, PyData.canLay0, PyData.canLayAll0, canLay_ints, PyData.depth, PyData.depthAll, depth_ints]
    · exact valOk_pv h401 h400
    · exact ⟨valOk_flat rfl (by decide), Sm.bl⟩)
  exact ⟨v, hat2, _, .refl _, q v ys5 (hs5.mono (by omega)) hv1 hv2⟩
end K02

set_option Elab.async false
set_option linter.all false
set_option maxRecDepth 100000
set_option maxHeartbeats 4000000
namespace K02
open PySem DL CM
theorem netOk_of {net : List (List Int)} (h : (decide (1 ≤ net.length) && decide (net.length ≤ 12) && (List.range net.length).all fun i => decide ((net.getD i []).Pairwise (· < ·)) && ((net.getD i []).all fun x => decide (0 ≤ x) && decide (x < net.length)) && decide ((i : Int) ∉ net.getD i [])) = true) : NetOk net := by
  simp only [Bool.and_eq_true, decide_eq_true_eq, List.all_eq_true, List.mem_range] at h
  have k : ∀ (i : Nat) (row : List Int), net[i]? = some row → i < net.length ∧ net.getD i [] = row := fun i row e => by
    refine ⟨?_, by rw [List.getD_eq_getElem?_getD, e]; rfl⟩
    by_cases z : i < net.length
    · exact z
    · rw [List.getElem?_eq_none (by omega)] at e; cases e
  refine ⟨h.1.1, h.1.2, fun i row e => ?_, fun i row e x hx => ?_, fun i row e => ?_⟩
  · obtain ⟨k1, k2⟩ := k i row e
    exact k2 ▸ (h.2 i k1).1.1
  · obtain ⟨k1, k2⟩ := k i row e
    exact (h.2 i k1).1.2 x (k2 ▸ hx)
  · obtain ⟨k1, k2⟩ := k i row e
    exact k2 ▸ (h.2 i k1).2
structure HoI (s : Addr) (most : Int) (net : List (List Int)) (i : Nat) (r : R) (g : G) : Prop where
  ex : ∃ (ys : List D) (o3 o4 o5 o6 o7 o8 o9 o10 : Option D), r = [(s, .lst ys)] ∧ SrcB (1000 + 1000 * i) ys ∧ g = [some (.ob s), some (.int most), some (netD net), o3, o4, o5, o6, o7, o8, o9, o10, none]
structure HoJ (s : Addr) (most : Int) (net : List (List Int)) (i : Nat) (v3 v4 v5 : D) (ys : List D) (r : R) (g : G) : Prop where
  ex : ∃ (o6 o7 o8 o9 o10 : Option D), r = [(s, .lst ys)] ∧ g = [some (.ob s), some (.int most), some (netD net), some v3, some v4, some v5, o6, o7, o8, o9, o10, none]
theorem valOk_list {xs : List D} {v : D} (h : valOk v) (e : v = .lst xs) : xs.length ≤ 4000 := (h.2 xs e).1
theorem sm_bls (a b : Bool) : Sm 1 10 (.lst [.bl a, .bl b]) := (Sm.lst (d := 0) (Sms.cons (a := 0) Sm.bl (Sms.cons (a := 0) Sm.bl Sms.nil))).mono (b := 0 + 1 + (0 + 1 + 0)) (Nat.le_refl _) (by decide)
theorem alone_len {ns ks : List Int} (h : ks.Pairwise (· < ·)) (hm : ∀ k, k ∈ ks ↔ k ∈ ns) : decide ((ks.length : Int) = ns.length) = decide ns.Nodup := by
  have hk : ks.Nodup := h.imp (fun hab => by omega)
  rw [← nodup_len hk hm]
  refine decide_eq_decide.mpr ?_
  omega
theorem linked_rg {net : List (List Int)} {ns : List Int} (h : linkedI net ns = true) : ∀ x ∈ ns, 0 ≤ x ∧ x ≤ net.length - 1 := by
  intro x hx
  simp only [linkedI, Bool.and_eq_true] at h
  have := List.all_eq_true.mp h.1.2 x hx
  simp at this
  omega
theorem d__law_holds : Does b__law_holds N__law_holds sp__law_holds := by
  rintro r ds Q ⟨s, xs, most, rfl, rfl, hs, hm1, hm2, q⟩
  simp only [sRet, sIf, sSeq, sAsg, sDrop, sNext, sNever, sCt, sPar, sFor, sWhile, dAnd, dOr, dNot, dCB, dCons, dNil, dVar, dC, dOp, dTst, dAndT, dOrT, dNotT, dIf, dLst, dTup, dCl, dLc, dYes, dSl, dNoPart, dPart, dRev, dNeg, dChain, dM, dCall, tName, tTupG, tConss, tNils, tSub, iL, iE, iZ, iR1, iR2, startG, wipeG, List.map_cons, List.map_nil, List.length_cons, List.length_nil, List.cons_append, List.nil_append, List.append_nil, List.getD_cons_zero, List.getD_cons_succ, List.set_cons_zero, List.set_cons_succ, List.replicate_succ, List.replicate_zero, Nat.reduceAdd, Nat.reduceSub, Nat.reduceLeDiff, Nat.zero_add, Nat.sub_zero, oB_bl, true_and, and_true, Bool.not_true, Bool.not_false, if_true, if_false, Bool.false_eq_true, reduceIte, mkD_f, oSub_i, oMod_i, oDiv_i, oPow_i, oAdd_i, oAdd_s, oAdd_t, oAdd_l, oMul_i, oMul_l, oLt_i, oLe_i, oGt_i, oGe_i, oMax2_i, oMin2_i, oAbs_i, oInt1_i, oInt1_b, oEq_i, oNe_i, oEq_b, oNe_b, oIsi_x, oIsN_d, oNotN_d, lsOf_l, lstOf_ob, seqOf_ob, lstOf_l, lstOf_s, seqOf_l, seqOf_s, seqOf_t, srcOf_l, srcOf_s, srcOf_ob, isL_ob, isL_l, lk_self, lk_ne, put_ne, del_ne, ne_eq, not_false_eq_true, put_nil, put_self, del_nil, del_self, oLen_l, oLen_t, oLen_sc, oLen_s, oLen_ob, oIx_l, oIx_t, oIx_ob, at_0, at_1, at_2, ix_30, ix_31, ix_32, oSl_l, oSl_ob, oAll_l, mApp_ob, mPop_ob, mClear_ob, Option.some.injEq, Cl.lst.injEq, Option.bind_some, Option.map_some, exists_eq_left', exists_eq_left, Option.isSome_some, exists_eq_right, and_assoc, exists_and_left, Prod.mk.injEq, oSort, oSortSet, oLenSet, oTuple_l, oAdd_sl, dD0, b__law_holds, N__law_holds]
  refine ⟨[(s, _)], [], .refl _, _, _, _, _, rfl, rfl, hs, by omega, by omega, by omega, fun net ys1 hs1 hn => ?_⟩
  have n1 := hn.l1
  have n2 := hn.l2
  simp only [sRet, sIf, sSeq, sAsg, sDrop, sNext, sNever, sCt, sPar, sFor, sWhile, dAnd, dOr, dNot, dCB, dCons, dNil, dVar, dC, dOp, dTst, dAndT, dOrT, dNotT, dIf, dLst, dTup, dCl, dLc, dYes, dSl, dNoPart, dPart, dRev, dNeg, dChain, dM, dCall, tName, tTupG, tConss, tNils, tSub, iL, iE, iZ, iR1, iR2, startG, wipeG, List.map_cons, List.map_nil, List.length_cons, List.length_nil, List.cons_append, List.nil_append, List.append_nil, List.getD_cons_zero, List.getD_cons_succ, List.set_cons_zero, List.set_cons_succ, List.replicate_succ, List.replicate_zero, Nat.reduceAdd, Nat.reduceSub, Nat.reduceLeDiff, Nat.zero_add, Nat.sub_zero, oB_bl, true_and, and_true, Bool.not_true, Bool.not_false, if_true, if_false, Bool.false_eq_true, reduceIte, mkD_f, oSub_i, oMod_i, oDiv_i, oPow_i, oAdd_i, oAdd_s, oAdd_t, oAdd_l, oMul_i, oMul_l, oLt_i, oLe_i, oGt_i, oGe_i, oMax2_i, oMin2_i, oAbs_i, oInt1_i, oInt1_b, oEq_i, oNe_i, oEq_b, oNe_b, oIsi_x, oIsN_d, oNotN_d, lsOf_l, lstOf_ob, seqOf_ob, lstOf_l, lstOf_s, seqOf_l, seqOf_s, seqOf_t, srcOf_l, srcOf_s, srcOf_ob, isL_ob, isL_l, lk_self, lk_ne, put_ne, del_ne, ne_eq, not_false_eq_true, put_nil, put_self, del_nil, del_self, oLen_l, oLen_t, oLen_sc, oLen_s, oLen_ob, oIx_l, oIx_t, oIx_ob, at_0, at_1, at_2, ix_30, ix_31, ix_32, oSl_l, oSl_ob, oAll_l, mApp_ob, mPop_ob, mClear_ob, Option.some.injEq, Cl.lst.injEq, Option.bind_some, Option.map_some, exists_eq_left', exists_eq_left, Option.isSome_some, exists_eq_right, and_assoc, exists_and_left, Prod.mk.injEq, oSort, oSortSet, oLenSet, oTuple_l, oAdd_sl, dD0]
  refine ⟨by decide, by decide, ?_⟩
  refine ⟨HoI s most net, ⟨_, .refl _, ⟨ys1, none, none, none, none, none, none, none, none, rfl, hs1.mono (by omega), rfl⟩⟩, ?_, ?_⟩
  · rintro i d r g hd ⟨ys, o3, o4, o5, o6, o7, o8, o9, o10, rfl, hsr, rfl⟩
    obtain ⟨hi, rfl⟩ := rangeD_at hd
    refine ⟨keptN _, ?_⟩
    have hi8 : i < 8 := hi
    simp only [sRet, sIf, sSeq, sAsg, sDrop, sNext, sNever, sCt, sPar, sFor, sWhile, dAnd, dOr, dNot, dCB, dCons, dNil, dVar, dC, dOp, dTst, dAndT, dOrT, dNotT, dIf, dLst, dTup, dCl, dLc, dYes, dSl, dNoPart, dPart, dRev, dNeg, dChain, dM, dCall, tName, tTupG, tConss, tNils, tSub, iL, iE, iZ, iR1, iR2, startG, wipeG, List.map_cons, List.map_nil, List.length_cons, List.length_nil, List.cons_append, List.nil_append, List.append_nil, List.getD_cons_zero, List.getD_cons_succ, List.set_cons_zero, List.set_cons_succ, List.replicate_succ, List.replicate_zero, Nat.reduceAdd, Nat.reduceSub, Nat.reduceLeDiff, Nat.zero_add, Nat.sub_zero, oB_bl, true_and, and_true, Bool.not_true, Bool.not_false, if_true, if_false, Bool.false_eq_true, reduceIte, mkD_f, oSub_i, oMod_i, oDiv_i, oPow_i, oAdd_i, oAdd_s, oAdd_t, oAdd_l, oMul_i, oMul_l, oLt_i, oLe_i, oGt_i, oGe_i, oMax2_i, oMin2_i, oAbs_i, oInt1_i, oInt1_b, oEq_i, oNe_i, oEq_b, oNe_b, oIsi_x, oIsN_d, oNotN_d, lsOf_l, lstOf_ob, seqOf_ob, lstOf_l, lstOf_s, seqOf_l, seqOf_s, seqOf_t, srcOf_l, srcOf_s, srcOf_ob, isL_ob, isL_l, lk_self, lk_ne, put_ne, del_ne, ne_eq, not_false_eq_true, put_nil, put_self, del_nil, del_self, oLen_l, oLen_t, oLen_sc, oLen_s, oLen_ob, oIx_l, oIx_t, oIx_ob, at_0, at_1, at_2, ix_30, ix_31, ix_32, oSl_l, oSl_ob, oAll_l, mApp_ob, mPop_ob, mClear_ob, Option.some.injEq, Cl.lst.injEq, Option.bind_some, Option.map_some, exists_eq_left', exists_eq_left, Option.isSome_some, exists_eq_right, and_assoc, exists_and_left, Prod.mk.injEq, oSort, oSortSet, oLenSet, oTuple_l, oAdd_sl, dD0]
    refine ⟨[(s, _)], [], .refl _, _, _, _, _, rfl, rfl, hsr, by omega, by omega, by omega, fun d1 ys2 hs2 hd1 he1 => ?_⟩
    simp only [sRet, sIf, sSeq, sAsg, sDrop, sNext, sNever, sCt, sPar, sFor, sWhile, dAnd, dOr, dNot, dCB, dCons, dNil, dVar, dC, dOp, dTst, dAndT, dOrT, dNotT, dIf, dLst, dTup, dCl, dLc, dYes, dSl, dNoPart, dPart, dRev, dNeg, dChain, dM, dCall, tName, tTupG, tConss, tNils, tSub, iL, iE, iZ, iR1, iR2, startG, wipeG, List.map_cons, List.map_nil, List.length_cons, List.length_nil, List.cons_append, List.nil_append, List.append_nil, List.getD_cons_zero, List.getD_cons_succ, List.set_cons_zero, List.set_cons_succ, List.replicate_succ, List.replicate_zero, Nat.reduceAdd, Nat.reduceSub, Nat.reduceLeDiff, Nat.zero_add, Nat.sub_zero, oB_bl, true_and, and_true, Bool.not_true, Bool.not_false, if_true, if_false, Bool.false_eq_true, reduceIte, mkD_f, oSub_i, oMod_i, oDiv_i, oPow_i, oAdd_i, oAdd_s, oAdd_t, oAdd_l, oMul_i, oMul_l, oLt_i, oLe_i, oGt_i, oGe_i, oMax2_i, oMin2_i, oAbs_i, oInt1_i, oInt1_b, oEq_i, oNe_i, oEq_b, oNe_b, oIsi_x, oIsN_d, oNotN_d, lsOf_l, lstOf_ob, seqOf_ob, lstOf_l, lstOf_s, seqOf_l, seqOf_s, seqOf_t, srcOf_l, srcOf_s, srcOf_ob, isL_ob, isL_l, lk_self, lk_ne, put_ne, del_ne, ne_eq, not_false_eq_true, put_nil, put_self, del_nil, del_self, oLen_l, oLen_t, oLen_sc, oLen_s, oLen_ob, oIx_l, oIx_t, oIx_ob, at_0, at_1, at_2, ix_30, ix_31, ix_32, oSl_l, oSl_ob, oAll_l, mApp_ob, mPop_ob, mClear_ob, Option.some.injEq, Cl.lst.injEq, Option.bind_some, Option.map_some, exists_eq_left', exists_eq_left, Option.isSome_some, exists_eq_right, and_assoc, exists_and_left, Prod.mk.injEq, oSort, oSortSet, oLenSet, oTuple_l, oAdd_sl, dD0]
    refine ⟨by decide, [(s, _)], [], .refl _, _, _, _, _, rfl, rfl, hs2, by omega, by omega, by omega, fun d2 ys3 hs3 hd2 he2 => ?_⟩
    obtain ⟨k, hk, hk1, hk2⟩ := pick3 (a := 1 + d1) (b := 61) (c := 62) (P := fun y => 1 ≤ y ∧ y ≤ 62) hd2 he2 (by omega) (by omega) (by omega)
    simp only [sRet, sIf, sSeq, sAsg, sDrop, sNext, sNever, sCt, sPar, sFor, sWhile, dAnd, dOr, dNot, dCB, dCons, dNil, dVar, dC, dOp, dTst, dAndT, dOrT, dNotT, dIf, dLst, dTup, dCl, dLc, dYes, dSl, dNoPart, dPart, dRev, dNeg, dChain, dM, dCall, tName, tTupG, tConss, tNils, tSub, iL, iE, iZ, iR1, iR2, startG, wipeG, List.map_cons, List.map_nil, List.length_cons, List.length_nil, List.cons_append, List.nil_append, List.append_nil, List.getD_cons_zero, List.getD_cons_succ, List.set_cons_zero, List.set_cons_succ, List.replicate_succ, List.replicate_zero, Nat.reduceAdd, Nat.reduceSub, Nat.reduceLeDiff, Nat.zero_add, Nat.sub_zero, oB_bl, true_and, and_true, Bool.not_true, Bool.not_false, if_true, if_false, Bool.false_eq_true, reduceIte, mkD_f, oSub_i, oMod_i, oDiv_i, oPow_i, oAdd_i, oAdd_s, oAdd_t, oAdd_l, oMul_i, oMul_l, oLt_i, oLe_i, oGt_i, oGe_i, oMax2_i, oMin2_i, oAbs_i, oInt1_i, oInt1_b, oEq_i, oNe_i, oEq_b, oNe_b, oIsi_x, oIsN_d, oNotN_d, lsOf_l, lstOf_ob, seqOf_ob, lstOf_l, lstOf_s, seqOf_l, seqOf_s, seqOf_t, srcOf_l, srcOf_s, srcOf_ob, isL_ob, isL_l, lk_self, lk_ne, put_ne, del_ne, ne_eq, not_false_eq_true, put_nil, put_self, del_nil, del_self, oLen_l, oLen_t, oLen_sc, oLen_s, oLen_ob, oIx_l, oIx_t, oIx_ob, at_0, at_1, at_2, ix_30, ix_31, ix_32, oSl_l, oSl_ob, oAll_l, mApp_ob, mPop_ob, mClear_ob, Option.some.injEq, Cl.lst.injEq, Option.bind_some, Option.map_some, exists_eq_left', exists_eq_left, Option.isSome_some, exists_eq_right, and_assoc, exists_and_left, Prod.mk.injEq, oSort, oSortSet, oLenSet, oTuple_l, oAdd_sl, dD0]
    refine ⟨_, hk, ?_⟩
    refine ⟨[(s, _)], [], .refl _, _, _, _, _, _, rfl, rfl, hs3, by omega, hn, by omega, by omega, fun row ys4 hs4 hrow hlen => ?_⟩
    have htr := trailI_in hrow
    simp only [sRet, sIf, sSeq, sAsg, sDrop, sNext, sNever, sCt, sPar, sFor, sWhile, dAnd, dOr, dNot, dCB, dCons, dNil, dVar, dC, dOp, dTst, dAndT, dOrT, dNotT, dIf, dLst, dTup, dCl, dLc, dYes, dSl, dNoPart, dPart, dRev, dNeg, dChain, dM, dCall, tName, tTupG, tConss, tNils, tSub, iL, iE, iZ, iR1, iR2, startG, wipeG, List.map_cons, List.map_nil, List.length_cons, List.length_nil, List.cons_append, List.nil_append, List.append_nil, List.getD_cons_zero, List.getD_cons_succ, List.set_cons_zero, List.set_cons_succ, List.replicate_succ, List.replicate_zero, Nat.reduceAdd, Nat.reduceSub, Nat.reduceLeDiff, Nat.zero_add, Nat.sub_zero, oB_bl, true_and, and_true, Bool.not_true, Bool.not_false, if_true, if_false, Bool.false_eq_true, reduceIte, mkD_f, oSub_i, oMod_i, oDiv_i, oPow_i, oAdd_i, oAdd_s, oAdd_t, oAdd_l, oMul_i, oMul_l, oLt_i, oLe_i, oGt_i, oGe_i, oMax2_i, oMin2_i, oAbs_i, oInt1_i, oInt1_b, oEq_i, oNe_i, oEq_b, oNe_b, oIsi_x, oIsN_d, oNotN_d, lsOf_l, lstOf_ob, seqOf_ob, lstOf_l, lstOf_s, seqOf_l, seqOf_s, seqOf_t, srcOf_l, srcOf_s, srcOf_ob, isL_ob, isL_l, lk_self, lk_ne, put_ne, del_ne, ne_eq, not_false_eq_true, put_nil, put_self, del_nil, del_self, oLen_l, oLen_t, oLen_sc, oLen_s, oLen_ob, oIx_l, oIx_t, oIx_ob, at_0, at_1, at_2, ix_30, ix_31, ix_32, oSl_l, oSl_ob, oAll_l, mApp_ob, mPop_ob, mClear_ob, Option.some.injEq, Cl.lst.injEq, Option.bind_some, Option.map_some, exists_eq_left', exists_eq_left, Option.isSome_some, exists_eq_right, and_assoc, exists_and_left, Prod.mk.injEq, oSort, oSortSet, oLenSet, oTuple_l, oAdd_sl, dD0]
    refine ⟨[], [(s, _)], .refl _, row, rfl, by omega, ?_⟩
    simp only [sRet, sIf, sSeq, sAsg, sDrop, sNext, sNever, sCt, sPar, sFor, sWhile, dAnd, dOr, dNot, dCB, dCons, dNil, dVar, dC, dOp, dTst, dAndT, dOrT, dNotT, dIf, dLst, dTup, dCl, dLc, dYes, dSl, dNoPart, dPart, dRev, dNeg, dChain, dM, dCall, tName, tTupG, tConss, tNils, tSub, iL, iE, iZ, iR1, iR2, startG, wipeG, List.map_cons, List.map_nil, List.length_cons, List.length_nil, List.cons_append, List.nil_append, List.append_nil, List.getD_cons_zero, List.getD_cons_succ, List.set_cons_zero, List.set_cons_succ, List.replicate_succ, List.replicate_zero, Nat.reduceAdd, Nat.reduceSub, Nat.reduceLeDiff, Nat.zero_add, Nat.sub_zero, oB_bl, true_and, and_true, Bool.not_true, Bool.not_false, if_true, if_false, Bool.false_eq_true, reduceIte, mkD_f, oSub_i, oMod_i, oDiv_i, oPow_i, oAdd_i, oAdd_s, oAdd_t, oAdd_l, oMul_i, oMul_l, oLt_i, oLe_i, oGt_i, oGe_i, oMax2_i, oMin2_i, oAbs_i, oInt1_i, oInt1_b, oEq_i, oNe_i, oEq_b, oNe_b, oIsi_x, oIsN_d, oNotN_d, lsOf_l, lstOf_ob, seqOf_ob, lstOf_l, lstOf_s, seqOf_l, seqOf_s, seqOf_t, srcOf_l, srcOf_s, srcOf_ob, isL_ob, isL_l, lk_self, lk_ne, put_ne, del_ne, ne_eq, not_false_eq_true, put_nil, put_self, del_nil, del_self, oLen_l, oLen_t, oLen_sc, oLen_s, oLen_ob, oIx_l, oIx_t, oIx_ob, at_0, at_1, at_2, ix_30, ix_31, ix_32, oSl_l, oSl_ob, oAll_l, mApp_ob, mPop_ob, mClear_ob, Option.some.injEq, Cl.lst.injEq, Option.bind_some, Option.map_some, exists_eq_left', exists_eq_left, Option.isSome_some, exists_eq_right, and_assoc, exists_and_left, Prod.mk.injEq, oSort, oSortSet, oLenSet, oTuple_l, oAdd_sl, dD0]
    refine ⟨[(s, _)], [], .refl _, _, _, _, _, _, rfl, rfl, hs4, by omega, hn, hrow, by omega, fun v1 ys5 hs5 hv1 hw1 => ?_⟩
    simp only [sRet, sIf, sSeq, sAsg, sDrop, sNext, sNever, sCt, sPar, sFor, sWhile, dAnd, dOr, dNot, dCB, dCons, dNil, dVar, dC, dOp, dTst, dAndT, dOrT, dNotT, dIf, dLst, dTup, dCl, dLc, dYes, dSl, dNoPart, dPart, dRev, dNeg, dChain, dM, dCall, tName, tTupG, tConss, tNils, tSub, iL, iE, iZ, iR1, iR2, startG, wipeG, List.map_cons, List.map_nil, List.length_cons, List.length_nil, List.cons_append, List.nil_append, List.append_nil, List.getD_cons_zero, List.getD_cons_succ, List.set_cons_zero, List.set_cons_succ, List.replicate_succ, List.replicate_zero, Nat.reduceAdd, Nat.reduceSub, Nat.reduceLeDiff, Nat.zero_add, Nat.sub_zero, oB_bl, true_and, and_true, Bool.not_true, Bool.not_false, if_true, if_false, Bool.false_eq_true, reduceIte, mkD_f, oSub_i, oMod_i, oDiv_i, oPow_i, oAdd_i, oAdd_s, oAdd_t, oAdd_l, oMul_i, oMul_l, oLt_i, oLe_i, oGt_i, oGe_i, oMax2_i, oMin2_i, oAbs_i, oInt1_i, oInt1_b, oEq_i, oNe_i, oEq_b, oNe_b, oIsi_x, oIsN_d, oNotN_d, lsOf_l, lstOf_ob, seqOf_ob, lstOf_l, lstOf_s, seqOf_l, seqOf_s, seqOf_t, srcOf_l, srcOf_s, srcOf_ob, isL_ob, isL_l, lk_self, lk_ne, put_ne, del_ne, ne_eq, not_false_eq_true, put_nil, put_self, del_nil, del_self, oLen_l, oLen_t, oLen_sc, oLen_s, oLen_ob, oIx_l, oIx_t, oIx_ob, at_0, at_1, at_2, ix_30, ix_31, ix_32, oSl_l, oSl_ob, oAll_l, mApp_ob, mPop_ob, mClear_ob, Option.some.injEq, Cl.lst.injEq, Option.bind_some, Option.map_some, exists_eq_left', exists_eq_left, Option.isSome_some, exists_eq_right, and_assoc, exists_and_left, Prod.mk.injEq, oSort, oSortSet, oLenSet, oTuple_l, oAdd_sl, dD0]
    refine ⟨[(s, _)], [], .refl _, _, _, _, _, _, rfl, rfl, hs5, by omega, hn, htr.1, by omega, fun v2 ys6 hs6 hv2 hw2 => ?_⟩
    simp only [sRet, sIf, sSeq, sAsg, sDrop, sNext, sNever, sCt, sPar, sFor, sWhile, dAnd, dOr, dNot, dCB, dCons, dNil, dVar, dC, dOp, dTst, dAndT, dOrT, dNotT, dIf, dLst, dTup, dCl, dLc, dYes, dSl, dNoPart, dPart, dRev, dNeg, dChain, dM, dCall, tName, tTupG, tConss, tNils, tSub, iL, iE, iZ, iR1, iR2, startG, wipeG, List.map_cons, List.map_nil, List.length_cons, List.length_nil, List.cons_append, List.nil_append, List.append_nil, List.getD_cons_zero, List.getD_cons_succ, List.set_cons_zero, List.set_cons_succ, List.replicate_succ, List.replicate_zero, Nat.reduceAdd, Nat.reduceSub, Nat.reduceLeDiff, Nat.zero_add, Nat.sub_zero, oB_bl, true_and, and_true, Bool.not_true, Bool.not_false, if_true, if_false, Bool.false_eq_true, reduceIte, mkD_f, oSub_i, oMod_i, oDiv_i, oPow_i, oAdd_i, oAdd_s, oAdd_t, oAdd_l, oMul_i, oMul_l, oLt_i, oLe_i, oGt_i, oGe_i, oMax2_i, oMin2_i, oAbs_i, oInt1_i, oInt1_b, oEq_i, oNe_i, oEq_b, oNe_b, oIsi_x, oIsN_d, oNotN_d, lsOf_l, lstOf_ob, seqOf_ob, lstOf_l, lstOf_s, seqOf_l, seqOf_s, seqOf_t, srcOf_l, srcOf_s, srcOf_ob, isL_ob, isL_l, lk_self, lk_ne, put_ne, del_ne, ne_eq, not_false_eq_true, put_nil, put_self, del_nil, del_self, oLen_l, oLen_t, oLen_sc, oLen_s, oLen_ob, oIx_l, oIx_t, oIx_ob, at_0, at_1, at_2, ix_30, ix_31, ix_32, oSl_l, oSl_ob, oAll_l, mApp_ob, mPop_ob, mClear_ob, Option.some.injEq, Cl.lst.injEq, Option.bind_some, Option.map_some, exists_eq_left', exists_eq_left, Option.isSome_some, exists_eq_right, and_assoc, exists_and_left, Prod.mk.injEq, oSort, oSortSet, oLenSet, oTuple_l, oAdd_sl, dD0]
    refine ⟨by decide, ?_⟩
    have hall : ∀ v ∈ [D.lst (row.map .int), .lst ((trailI row).map .int), v1, v2], valOk v ∧ Sm 3 90000 v := by
      intro v hv
      simp only [List.mem_cons, List.not_mem_nil, or_false] at hv
      rcases hv with rfl | rfl | rfl | rfl
      · exact valOk_pv (by rw [List.length_map]; omega) (PV.ofInts hrow n2)
      · exact valOk_pv (by rw [List.length_map]; omega) (PV.ofInts htr.1 n2)
      · exact ⟨hv1, hw1⟩
      · exact ⟨hv2, hw2⟩
    refine ⟨fun _ => HoJ s most net i (.int (0 + i)) (.lst (row.map .int)) (.lst ((trailI row).map .int)) ys6, ⟨_, .refl _, ⟨o6, o7, o8, o9, o10, rfl, rfl⟩⟩, ?_, ?_⟩
    · rintro j v r g hj ⟨p6, p7, p8, p9, p10, rfl, rfl⟩
      obtain ⟨hok, hsm⟩ := hall v (List.mem_of_getElem? hj)
      refine ⟨keptN _, ?_⟩
      simp only [sRet, sIf, sSeq, sAsg, sDrop, sNext, sNever, sCt, sPar, sFor, sWhile, dAnd, dOr, dNot, dCB, dCons, dNil, dVar, dC, dOp, dTst, dAndT, dOrT, dNotT, dIf, dLst, dTup, dCl, dLc, dYes, dSl, dNoPart, dPart, dRev, dNeg, dChain, dM, dCall, tName, tTupG, tConss, tNils, tSub, iL, iE, iZ, iR1, iR2, startG, wipeG, List.map_cons, List.map_nil, List.length_cons, List.length_nil, List.cons_append, List.nil_append, List.append_nil, List.getD_cons_zero, List.getD_cons_succ, List.set_cons_zero, List.set_cons_succ, List.replicate_succ, List.replicate_zero, Nat.reduceAdd, Nat.reduceSub, Nat.reduceLeDiff, Nat.zero_add, Nat.sub_zero, oB_bl, true_and, and_true, Bool.not_true, Bool.not_false, if_true, if_false, Bool.false_eq_true, reduceIte, mkD_f, oSub_i, oMod_i, oDiv_i, oPow_i, oAdd_i, oAdd_s, oAdd_t, oAdd_l, oMul_i, oMul_l, oLt_i, oLe_i, oGt_i, oGe_i, oMax2_i, oMin2_i, oAbs_i, oInt1_i, oInt1_b, oEq_i, oNe_i, oEq_b, oNe_b, oIsi_x, oIsN_d, oNotN_d, lsOf_l, lstOf_ob, seqOf_ob, lstOf_l, lstOf_s, seqOf_l, seqOf_s, seqOf_t, srcOf_l, srcOf_s, srcOf_ob, isL_ob, isL_l, lk_self, lk_ne, put_ne, del_ne, ne_eq, not_false_eq_true, put_nil, put_self, del_nil, del_self, oLen_l, oLen_t, oLen_sc, oLen_s, oLen_ob, oIx_l, oIx_t, oIx_ob, at_0, at_1, at_2, ix_30, ix_31, ix_32, oSl_l, oSl_ob, oAll_l, mApp_ob, mPop_ob, mClear_ob, Option.some.injEq, Cl.lst.injEq, Option.bind_some, Option.map_some, exists_eq_left', exists_eq_left, Option.isSome_some, exists_eq_right, and_assoc, exists_and_left, Prod.mk.injEq, oSort, oSortSet, oLenSet, oTuple_l, oAdd_sl, dD0]
      refine ⟨by decide, ?_⟩
      have hrep : Sm 4 100000 (.lst [netD net, v]) := (Sm.lst (d := 3) (Sms.cons (hn.sm.mono (c := 3) (by decide) (Nat.le_refl _)) (Sms.cons hsm Sms.nil))).mono (b := 2000 + 1 + (90000 + 1 + 0)) (by decide) (by decide)
      refine repr_ok hrep (by decide) (by decide) rfl ?_
      refine ⟨[], [(s, _)], .refl _, net, v, rfl, hn, hok, ?_⟩
      simp only [sRet, sIf, sSeq, sAsg, sDrop, sNext, sNever, sCt, sPar, sFor, sWhile, dAnd, dOr, dNot, dCB, dCons, dNil, dVar, dC, dOp, dTst, dAndT, dOrT, dNotT, dIf, dLst, dTup, dCl, dLc, dYes, dSl, dNoPart, dPart, dRev, dNeg, dChain, dM, dCall, tName, tTupG, tConss, tNils, tSub, iL, iE, iZ, iR1, iR2, startG, wipeG, List.map_cons, List.map_nil, List.length_cons, List.length_nil, List.cons_append, List.nil_append, List.append_nil, List.getD_cons_zero, List.getD_cons_succ, List.set_cons_zero, List.set_cons_succ, List.replicate_succ, List.replicate_zero, Nat.reduceAdd, Nat.reduceSub, Nat.reduceLeDiff, Nat.zero_add, Nat.sub_zero, oB_bl, true_and, and_true, Bool.not_true, Bool.not_false, if_true, if_false, Bool.false_eq_true, reduceIte, mkD_f, oSub_i, oMod_i, oDiv_i, oPow_i, oAdd_i, oAdd_s, oAdd_t, oAdd_l, oMul_i, oMul_l, oLt_i, oLe_i, oGt_i, oGe_i, oMax2_i, oMin2_i, oAbs_i, oInt1_i, oInt1_b, oEq_i, oNe_i, oEq_b, oNe_b, oIsi_x, oIsN_d, oNotN_d, lsOf_l, lstOf_ob, seqOf_ob, lstOf_l, lstOf_s, seqOf_l, seqOf_s, seqOf_t, srcOf_l, srcOf_s, srcOf_ob, isL_ob, isL_l, lk_self, lk_ne, put_ne, del_ne, ne_eq, not_false_eq_true, put_nil, put_self, del_nil, del_self, oLen_l, oLen_t, oLen_sc, oLen_s, oLen_ob, oIx_l, oIx_t, oIx_ob, at_0, at_1, at_2, ix_30, ix_31, ix_32, oSl_l, oSl_ob, oAll_l, mApp_ob, mPop_ob, mClear_ob, Option.some.injEq, Cl.lst.injEq, Option.bind_some, Option.map_some, exists_eq_left', exists_eq_left, Option.isSome_some, exists_eq_right, and_assoc, exists_and_left, Prod.mk.injEq, oSort, oSortSet, oLenSet, oTuple_l, oAdd_sl, dD0]
      refine ⟨[], [(s, _)], .refl _, net, v, rfl, hn, hok, ?_⟩
      simp only [sRet, sIf, sSeq, sAsg, sDrop, sNext, sNever, sCt, sPar, sFor, sWhile, dAnd, dOr, dNot, dCB, dCons, dNil, dVar, dC, dOp, dTst, dAndT, dOrT, dNotT, dIf, dLst, dTup, dCl, dLc, dYes, dSl, dNoPart, dPart, dRev, dNeg, dChain, dM, dCall, tName, tTupG, tConss, tNils, tSub, iL, iE, iZ, iR1, iR2, startG, wipeG, List.map_cons, List.map_nil, List.length_cons, List.length_nil, List.cons_append, List.nil_append, List.append_nil, List.getD_cons_zero, List.getD_cons_succ, List.set_cons_zero, List.set_cons_succ, List.replicate_succ, List.replicate_zero, Nat.reduceAdd, Nat.reduceSub, Nat.reduceLeDiff, Nat.zero_add, Nat.sub_zero, oB_bl, true_and, and_true, Bool.not_true, Bool.not_false, if_true, if_false, Bool.false_eq_true, reduceIte, mkD_f, oSub_i, oMod_i, oDiv_i, oPow_i, oAdd_i, oAdd_s, oAdd_t, oAdd_l, oMul_i, oMul_l, oLt_i, oLe_i, oGt_i, oGe_i, oMax2_i, oMin2_i, oAbs_i, oInt1_i, oInt1_b, oEq_i, oNe_i, oEq_b, oNe_b, oIsi_x, oIsN_d, oNotN_d, lsOf_l, lstOf_ob, seqOf_ob, lstOf_l, lstOf_s, seqOf_l, seqOf_s, seqOf_t, srcOf_l, srcOf_s, srcOf_ob, isL_ob, isL_l, lk_self, lk_ne, put_ne, del_ne, ne_eq, not_false_eq_true, put_nil, put_self, del_nil, del_self, oLen_l, oLen_t, oLen_sc, oLen_s, oLen_ob, oIx_l, oIx_t, oIx_ob, at_0, at_1, at_2, ix_30, ix_31, ix_32, oSl_l, oSl_ob, oAll_l, mApp_ob, mPop_ob, mClear_ob, Option.some.injEq, Cl.lst.injEq, Option.bind_some, Option.map_some, exists_eq_left', exists_eq_left, Option.isSome_some, exists_eq_right, and_assoc, exists_and_left, Prod.mk.injEq, oSort, oSortSet, oLenSet, oTuple_l, oAdd_sl, dD0]
      refine ⟨[], [(s, _)], .refl _, net, v, rfl, hn, hok, ?_⟩
      simp only [sRet, sIf, sSeq, sAsg, sDrop, sNext, sNever, sCt, sPar, sFor, sWhile, dAnd, dOr, dNot, dCB, dCons, dNil, dVar, dC, dOp, dTst, dAndT, dOrT, dNotT, dIf, dLst, dTup, dCl, dLc, dYes, dSl, dNoPart, dPart, dRev, dNeg, dChain, dM, dCall, tName, tTupG, tConss, tNils, tSub, iL, iE, iZ, iR1, iR2, startG, wipeG, List.map_cons, List.map_nil, List.length_cons, List.length_nil, List.cons_append, List.nil_append, List.append_nil, List.getD_cons_zero, List.getD_cons_succ, List.set_cons_zero, List.set_cons_succ, List.replicate_succ, List.replicate_zero, Nat.reduceAdd, Nat.reduceSub, Nat.reduceLeDiff, Nat.zero_add, Nat.sub_zero, oB_bl, true_and, and_true, Bool.not_true, Bool.not_false, if_true, if_false, Bool.false_eq_true, reduceIte, mkD_f, oSub_i, oMod_i, oDiv_i, oPow_i, oAdd_i, oAdd_s, oAdd_t, oAdd_l, oMul_i, oMul_l, oLt_i, oLe_i, oGt_i, oGe_i, oMax2_i, oMin2_i, oAbs_i, oInt1_i, oInt1_b, oEq_i, oNe_i, oEq_b, oNe_b, oIsi_x, oIsN_d, oNotN_d, lsOf_l, lstOf_ob, seqOf_ob, lstOf_l, lstOf_s, seqOf_l, seqOf_s, seqOf_t, srcOf_l, srcOf_s, srcOf_ob, isL_ob, isL_l, lk_self, lk_ne, put_ne, del_ne, ne_eq, not_false_eq_true, put_nil, put_self, del_nil, del_self, oLen_l, oLen_t, oLen_sc, oLen_s, oLen_ob, oIx_l, oIx_t, oIx_ob, at_0, at_1, at_2, ix_30, ix_31, ix_32, oSl_l, oSl_ob, oAll_l, mApp_ob, mPop_ob, mClear_ob, Option.some.injEq, Cl.lst.injEq, Option.bind_some, Option.map_some, exists_eq_left', exists_eq_left, Option.isSome_some, exists_eq_right, and_assoc, exists_and_left, Prod.mk.injEq, oSort, oSortSet, oLenSet, oTuple_l, oAdd_sl, dD0]
      refine ⟨by decide, ?_⟩
      have fin : ∀ (b9 : D) (p10' : Option D), HoJ s most net i (.int (0 + i)) (.lst (row.map .int)) (.lst ((trailI row).map .int)) ys6 [(s, .lst ys6)] [some (.ob s), some (.int most), some (netD net), some (.int (0 + i)), some (.lst (row.map .int)), some (.lst ((trailI row).map .int)), some v, some (.str (shw (D.lst [netD net, v]))), some (.bl (linkedB net v)), some b9, p10', none] :=
        fun _ _ => ⟨_, _, _, _, _, rfl, rfl⟩
      have two : (2 : Nat) ≤ sizeLine := by decide
      cases hb : linkedB net v with
      | false =>
        rw [hb] at fin
        simp only [sRet, sIf, sSeq, sAsg, sDrop, sNext, sNever, sCt, sPar, sFor, sWhile, dAnd, dOr, dNot, dCB, dCons, dNil, dVar, dC, dOp, dTst, dAndT, dOrT, dNotT, dIf, dLst, dTup, dCl, dLc, dYes, dSl, dNoPart, dPart, dRev, dNeg, dChain, dM, dCall, tName, tTupG, tConss, tNils, tSub, iL, iE, iZ, iR1, iR2, startG, wipeG, List.map_cons, List.map_nil, List.length_cons, List.length_nil, List.cons_append, List.nil_append, List.append_nil, List.getD_cons_zero, List.getD_cons_succ, List.set_cons_zero, List.set_cons_succ, List.replicate_succ, List.replicate_zero, Nat.reduceAdd, Nat.reduceSub, Nat.reduceLeDiff, Nat.zero_add, Nat.sub_zero, oB_bl, true_and, and_true, Bool.not_true, Bool.not_false, if_true, if_false, Bool.false_eq_true, reduceIte, mkD_f, oSub_i, oMod_i, oDiv_i, oPow_i, oAdd_i, oAdd_s, oAdd_t, oAdd_l, oMul_i, oMul_l, oLt_i, oLe_i, oGt_i, oGe_i, oMax2_i, oMin2_i, oAbs_i, oInt1_i, oInt1_b, oEq_i, oNe_i, oEq_b, oNe_b, oIsi_x, oIsN_d, oNotN_d, lsOf_l, lstOf_ob, seqOf_ob, lstOf_l, lstOf_s, seqOf_l, seqOf_s, seqOf_t, srcOf_l, srcOf_s, srcOf_ob, isL_ob, isL_l, lk_self, lk_ne, put_ne, del_ne, ne_eq, not_false_eq_true, put_nil, put_self, del_nil, del_self, oLen_l, oLen_t, oLen_sc, oLen_s, oLen_ob, oIx_l, oIx_t, oIx_ob, at_0, at_1, at_2, ix_30, ix_31, ix_32, oSl_l, oSl_ob, oAll_l, mApp_ob, mPop_ob, mClear_ob, Option.some.injEq, Cl.lst.injEq, Option.bind_some, Option.map_some, exists_eq_left', exists_eq_left, Option.isSome_some, exists_eq_right, and_assoc, exists_and_left, Prod.mk.injEq, oSort, oSortSet, oLenSet, oTuple_l, oAdd_sl, dD0, Bool.false_and]
        refine repr_ok (sm_bls _ _) (by decide) (by decide) rfl ?_
        refine ⟨two, repr_ok (sm_bls _ _) (by decide) (by decide) rfl (oEqS_s ?_)⟩
        simp only [sRet, sIf, sSeq, sAsg, sDrop, sNext, sNever, sCt, sPar, sFor, sWhile, dAnd, dOr, dNot, dCB, dCons, dNil, dVar, dC, dOp, dTst, dAndT, dOrT, dNotT, dIf, dLst, dTup, dCl, dLc, dYes, dSl, dNoPart, dPart, dRev, dNeg, dChain, dM, dCall, tName, tTupG, tConss, tNils, tSub, iL, iE, iZ, iR1, iR2, startG, wipeG, List.map_cons, List.map_nil, List.length_cons, List.length_nil, List.cons_append, List.nil_append, List.append_nil, List.getD_cons_zero, List.getD_cons_succ, List.set_cons_zero, List.set_cons_succ, List.replicate_succ, List.replicate_zero, Nat.reduceAdd, Nat.reduceSub, Nat.reduceLeDiff, Nat.zero_add, Nat.sub_zero, oB_bl, true_and, and_true, Bool.not_true, Bool.not_false, if_true, if_false, Bool.false_eq_true, reduceIte, mkD_f, oSub_i, oMod_i, oDiv_i, oPow_i, oAdd_i, oAdd_s, oAdd_t, oAdd_l, oMul_i, oMul_l, oLt_i, oLe_i, oGt_i, oGe_i, oMax2_i, oMin2_i, oAbs_i, oInt1_i, oInt1_b, oEq_i, oNe_i, oEq_b, oNe_b, oIsi_x, oIsN_d, oNotN_d, lsOf_l, lstOf_ob, seqOf_ob, lstOf_l, lstOf_s, seqOf_l, seqOf_s, seqOf_t, srcOf_l, srcOf_s, srcOf_ob, isL_ob, isL_l, lk_self, lk_ne, put_ne, del_ne, ne_eq, not_false_eq_true, put_nil, put_self, del_nil, del_self, oLen_l, oLen_t, oLen_sc, oLen_s, oLen_ob, oIx_l, oIx_t, oIx_ob, at_0, at_1, at_2, ix_30, ix_31, ix_32, oSl_l, oSl_ob, oAll_l, mApp_ob, mPop_ob, mClear_ob, Option.some.injEq, Cl.lst.injEq, Option.bind_some, Option.map_some, exists_eq_left', exists_eq_left, Option.isSome_some, exists_eq_right, and_assoc, exists_and_left, Prod.mk.injEq, oSort, oSortSet, oLenSet, oTuple_l, oAdd_sl, dD0, decide_true]
        refine ⟨two, repr_ok hrep (by decide) (by decide) rfl (oEqS_s ?_)⟩
        simp only [sRet, sIf, sSeq, sAsg, sDrop, sNext, sNever, sCt, sPar, sFor, sWhile, dAnd, dOr, dNot, dCB, dCons, dNil, dVar, dC, dOp, dTst, dAndT, dOrT, dNotT, dIf, dLst, dTup, dCl, dLc, dYes, dSl, dNoPart, dPart, dRev, dNeg, dChain, dM, dCall, tName, tTupG, tConss, tNils, tSub, iL, iE, iZ, iR1, iR2, startG, wipeG, List.map_cons, List.map_nil, List.length_cons, List.length_nil, List.cons_append, List.nil_append, List.append_nil, List.getD_cons_zero, List.getD_cons_succ, List.set_cons_zero, List.set_cons_succ, List.replicate_succ, List.replicate_zero, Nat.reduceAdd, Nat.reduceSub, Nat.reduceLeDiff, Nat.zero_add, Nat.sub_zero, oB_bl, true_and, and_true, Bool.not_true, Bool.not_false, if_true, if_false, Bool.false_eq_true, reduceIte, mkD_f, oSub_i, oMod_i, oDiv_i, oPow_i, oAdd_i, oAdd_s, oAdd_t, oAdd_l, oMul_i, oMul_l, oLt_i, oLe_i, oGt_i, oGe_i, oMax2_i, oMin2_i, oAbs_i, oInt1_i, oInt1_b, oEq_i, oNe_i, oEq_b, oNe_b, oIsi_x, oIsN_d, oNotN_d, lsOf_l, lstOf_ob, seqOf_ob, lstOf_l, lstOf_s, seqOf_l, seqOf_s, seqOf_t, srcOf_l, srcOf_s, srcOf_ob, isL_ob, isL_l, lk_self, lk_ne, put_ne, del_ne, ne_eq, not_false_eq_true, put_nil, put_self, del_nil, del_self, oLen_l, oLen_t, oLen_sc, oLen_s, oLen_ob, oIx_l, oIx_t, oIx_ob, at_0, at_1, at_2, ix_30, ix_31, ix_32, oSl_l, oSl_ob, oAll_l, mApp_ob, mPop_ob, mClear_ob, Option.some.injEq, Cl.lst.injEq, Option.bind_some, Option.map_some, exists_eq_left', exists_eq_left, Option.isSome_some, exists_eq_right, and_assoc, exists_and_left, Prod.mk.injEq, oSort, oSortSet, oLenSet, oTuple_l, oAdd_sl, dD0, decide_true]
        exact ⟨_, .refl _, fin _ _⟩
      | true =>
        rw [hb] at fin
        obtain ⟨ns, rfl, hli⟩ := linkedB_list hb
        have hl4 := valOk_list hok rfl
        rw [List.length_map] at hl4
        simp only [sRet, sIf, sSeq, sAsg, sDrop, sNext, sNever, sCt, sPar, sFor, sWhile, dAnd, dOr, dNot, dCB, dCons, dNil, dVar, dC, dOp, dTst, dAndT, dOrT, dNotT, dIf, dLst, dTup, dCl, dLc, dYes, dSl, dNoPart, dPart, dRev, dNeg, dChain, dM, dCall, tName, tTupG, tConss, tNils, tSub, iL, iE, iZ, iR1, iR2, startG, wipeG, List.map_cons, List.map_nil, List.length_cons, List.length_nil, List.cons_append, List.nil_append, List.append_nil, List.getD_cons_zero, List.getD_cons_succ, List.set_cons_zero, List.set_cons_succ, List.replicate_succ, List.replicate_zero, Nat.reduceAdd, Nat.reduceSub, Nat.reduceLeDiff, Nat.zero_add, Nat.sub_zero, oB_bl, true_and, and_true, Bool.not_true, Bool.not_false, if_true, if_false, Bool.false_eq_true, reduceIte, mkD_f, oSub_i, oMod_i, oDiv_i, oPow_i, oAdd_i, oAdd_s, oAdd_t, oAdd_l, oMul_i, oMul_l, oLt_i, oLe_i, oGt_i, oGe_i, oMax2_i, oMin2_i, oAbs_i, oInt1_i, oInt1_b, oEq_i, oNe_i, oEq_b, oNe_b, oIsi_x, oIsN_d, oNotN_d, lsOf_l, lstOf_ob, seqOf_ob, lstOf_l, lstOf_s, seqOf_l, seqOf_s, seqOf_t, srcOf_l, srcOf_s, srcOf_ob, isL_ob, isL_l, lk_self, lk_ne, put_ne, del_ne, ne_eq, not_false_eq_true, put_nil, put_self, del_nil, del_self, oLen_l, oLen_t, oLen_sc, oLen_s, oLen_ob, oIx_l, oIx_t, oIx_ob, at_0, at_1, at_2, ix_30, ix_31, ix_32, oSl_l, oSl_ob, oAll_l, mApp_ob, mPop_ob, mClear_ob, Option.some.injEq, Cl.lst.injEq, Option.bind_some, Option.map_some, exists_eq_left', exists_eq_left, Option.isSome_some, exists_eq_right, and_assoc, exists_and_left, Prod.mk.injEq, oSort, oSortSet, oLenSet, oTuple_l, oAdd_sl, dD0, Bool.true_and, aloneB, intsOf_map, lenD, List.length_map]
        refine ⟨ns, rfl, hl4, fun ks hk hm => ?_, fun ns' h1 h2 => ?_⟩
        · have := few_range (linked_rg hli) hk hm
          omega
        · rw [alone_len h1 h2]
          refine repr_ok (sm_bls _ _) (by decide) (by decide) rfl ?_
          have e : decide ((ns.length : Int) ≤ 61) = decide (ns.length ≤ 61) := decide_eq_decide.mpr (by omega)
          rw [e]
          refine ⟨two, repr_ok (sm_bls _ _) (by decide) (by decide) rfl (oEqS_s ?_)⟩
          simp only [sRet, sIf, sSeq, sAsg, sDrop, sNext, sNever, sCt, sPar, sFor, sWhile, dAnd, dOr, dNot, dCB, dCons, dNil, dVar, dC, dOp, dTst, dAndT, dOrT, dNotT, dIf, dLst, dTup, dCl, dLc, dYes, dSl, dNoPart, dPart, dRev, dNeg, dChain, dM, dCall, tName, tTupG, tConss, tNils, tSub, iL, iE, iZ, iR1, iR2, startG, wipeG, List.map_cons, List.map_nil, List.length_cons, List.length_nil, List.cons_append, List.nil_append, List.append_nil, List.getD_cons_zero, List.getD_cons_succ, List.set_cons_zero, List.set_cons_succ, List.replicate_succ, List.replicate_zero, Nat.reduceAdd, Nat.reduceSub, Nat.reduceLeDiff, Nat.zero_add, Nat.sub_zero, oB_bl, true_and, and_true, Bool.not_true, Bool.not_false, if_true, if_false, Bool.false_eq_true, reduceIte, mkD_f, oSub_i, oMod_i, oDiv_i, oPow_i, oAdd_i, oAdd_s, oAdd_t, oAdd_l, oMul_i, oMul_l, oLt_i, oLe_i, oGt_i, oGe_i, oMax2_i, oMin2_i, oAbs_i, oInt1_i, oInt1_b, oEq_i, oNe_i, oEq_b, oNe_b, oIsi_x, oIsN_d, oNotN_d, lsOf_l, lstOf_ob, seqOf_ob, lstOf_l, lstOf_s, seqOf_l, seqOf_s, seqOf_t, srcOf_l, srcOf_s, srcOf_ob, isL_ob, isL_l, lk_self, lk_ne, put_ne, del_ne, ne_eq, not_false_eq_true, put_nil, put_self, del_nil, del_self, oLen_l, oLen_t, oLen_sc, oLen_s, oLen_ob, oIx_l, oIx_t, oIx_ob, at_0, at_1, at_2, ix_30, ix_31, ix_32, oSl_l, oSl_ob, oAll_l, mApp_ob, mPop_ob, mClear_ob, Option.some.injEq, Cl.lst.injEq, Option.bind_some, Option.map_some, exists_eq_left', exists_eq_left, Option.isSome_some, exists_eq_right, and_assoc, exists_and_left, Prod.mk.injEq, oSort, oSortSet, oLenSet, oTuple_l, oAdd_sl, dD0, decide_true]
          refine ⟨two, repr_ok hrep (by decide) (by decide) rfl (oEqS_s ?_)⟩
          simp only [sRet, sIf, sSeq, sAsg, sDrop, sNext, sNever, sCt, sPar, sFor, sWhile, dAnd, dOr, dNot, dCB, dCons, dNil, dVar, dC, dOp, dTst, dAndT, dOrT, dNotT, dIf, dLst, dTup, dCl, dLc, dYes, dSl, dNoPart, dPart, dRev, dNeg, dChain, dM, dCall, tName, tTupG, tConss, tNils, tSub, iL, iE, iZ, iR1, iR2, startG, wipeG, List.map_cons, List.map_nil, List.length_cons, List.length_nil, List.cons_append, List.nil_append, List.append_nil, List.getD_cons_zero, List.getD_cons_succ, List.set_cons_zero, List.set_cons_succ, List.replicate_succ, List.replicate_zero, Nat.reduceAdd, Nat.reduceSub, Nat.reduceLeDiff, Nat.zero_add, Nat.sub_zero, oB_bl, true_and, and_true, Bool.not_true, Bool.not_false, if_true, if_false, Bool.false_eq_true, reduceIte, mkD_f, oSub_i, oMod_i, oDiv_i, oPow_i, oAdd_i, oAdd_s, oAdd_t, oAdd_l, oMul_i, oMul_l, oLt_i, oLe_i, oGt_i, oGe_i, oMax2_i, oMin2_i, oAbs_i, oInt1_i, oInt1_b, oEq_i, oNe_i, oEq_b, oNe_b, oIsi_x, oIsN_d, oNotN_d, lsOf_l, lstOf_ob, seqOf_ob, lstOf_l, lstOf_s, seqOf_l, seqOf_s, seqOf_t, srcOf_l, srcOf_s, srcOf_ob, isL_ob, isL_l, lk_self, lk_ne, put_ne, del_ne, ne_eq, not_false_eq_true, put_nil, put_self, del_nil, del_self, oLen_l, oLen_t, oLen_sc, oLen_s, oLen_ob, oIx_l, oIx_t, oIx_ob, at_0, at_1, at_2, ix_30, ix_31, ix_32, oSl_l, oSl_ob, oAll_l, mApp_ob, mPop_ob, mClear_ob, Option.some.injEq, Cl.lst.injEq, Option.bind_some, Option.map_some, exists_eq_left', exists_eq_left, Option.isSome_some, exists_eq_right, and_assoc, exists_and_left, Prod.mk.injEq, oSort, oSortSet, oLenSet, oTuple_l, oAdd_sl, dD0, decide_true]
          exact ⟨_, .refl _, fin _ _⟩
    · rintro r g ⟨p6, p7, p8, p9, p10, rfl, rfl⟩
      exact ⟨keptN _, _, .refl _, ⟨ys6, _, _, _, _, _, _, _, _, rfl, hs6.mono (by omega), rfl⟩⟩
  · rintro r g ⟨ys, o3, o4, o5, o6, o7, o8, o9, o10, rfl, hsr, rfl⟩
    refine ⟨keptN _, ?_⟩
    simp only [sRet, sIf, sSeq, sAsg, sDrop, sNext, sNever, sCt, sPar, sFor, sWhile, dAnd, dOr, dNot, dCB, dCons, dNil, dVar, dC, dOp, dTst, dAndT, dOrT, dNotT, dIf, dLst, dTup, dCl, dLc, dYes, dSl, dNoPart, dPart, dRev, dNeg, dChain, dM, dCall, tName, tTupG, tConss, tNils, tSub, iL, iE, iZ, iR1, iR2, startG, wipeG, List.map_cons, List.map_nil, List.length_cons, List.length_nil, List.cons_append, List.nil_append, List.append_nil, List.getD_cons_zero, List.getD_cons_succ, List.set_cons_zero, List.set_cons_succ, List.replicate_succ, List.replicate_zero, Nat.reduceAdd, Nat.reduceSub, Nat.reduceLeDiff, Nat.zero_add, Nat.sub_zero, oB_bl, true_and, and_true, Bool.not_true, Bool.not_false, if_true, if_false, Bool.false_eq_true, reduceIte, mkD_f, oSub_i, oMod_i, oDiv_i, oPow_i, oAdd_i, oAdd_s, oAdd_t, oAdd_l, oMul_i, oMul_l, oLt_i, oLe_i, oGt_i, oGe_i, oMax2_i, oMin2_i, oAbs_i, oInt1_i, oInt1_b, oEq_i, oNe_i, oEq_b, oNe_b, oIsi_x, oIsN_d, oNotN_d, lsOf_l, lstOf_ob, seqOf_ob, lstOf_l, lstOf_s, seqOf_l, seqOf_s, seqOf_t, srcOf_l, srcOf_s, srcOf_ob, isL_ob, isL_l, lk_self, lk_ne, put_ne, del_ne, ne_eq, not_false_eq_true, put_nil, put_self, del_nil, del_self, oLen_l, oLen_t, oLen_sc, oLen_s, oLen_ob, oIx_l, oIx_t, oIx_ob, at_0, at_1, at_2, ix_30, ix_31, ix_32, oSl_l, oSl_ob, oAll_l, mApp_ob, mPop_ob, mClear_ob, Option.some.injEq, Cl.lst.injEq, Option.bind_some, Option.map_some, exists_eq_left', exists_eq_left, Option.isSome_some, exists_eq_right, and_assoc, exists_and_left, Prod.mk.injEq, oSort, oSortSet, oLenSet, oTuple_l, oAdd_sl, dD0]
    have ok2 : NetOk [[1], [0]] := netOk_of (by decide +kernel)
    have ok1 : NetOk [[]] := netOk_of (by decide +kernel)
    have e1 : (List.replicate (Int.toNat 30) [D.int 0, D.int 1]).flatten ++ [D.int 0] = (((List.replicate 30 [(0 : Int), 1]).flatten ++ [0]).map D.int) := by rfl
    have e2 : (List.replicate (Int.toNat 31) [D.int 0, D.int 1]).flatten = (((List.replicate 31 [(0 : Int), 1]).flatten).map D.int) := by rfl
    have sz : ∀ n : Nat, n ≤ 1000000 → n ≤ sizeLine := fun n h => Nat.le_trans h sizeBig
    have v0 : ∀ ns : List Int, ns.length ≤ 100 → (∀ x ∈ ns, 0 ≤ x ∧ x < 12) → valOk (.lst (ns.map .int)) := fun ns hl h => (valOk_pv (by rw [List.length_map]; omega) fun x hx => by
      obtain ⟨i, hi, rfl⟩ := List.mem_map.mp hx
      have := h i hi
      exact PV.int (by omega) (by omega)).1
    rw [e1, e2]
    refine ⟨sz _ (by decide), sz _ (by decide), sz _ (by decide), sz _ (by decide), by decide, by decide, sz _ (by decide), sz _ (by decide), sz _ (by decide +kernel), [], [(s, _)], .refl _, [[1], [0]], _, rfl, ok2, v0 _ (by decide +kernel) (by decide +kernel), ?_⟩
    refine ⟨sz _ (by decide), by decide, by decide, sz _ (by decide), [], [(s, _)], .refl _, [[1], [0]], _, rfl, ok2, v0 _ (by decide +kernel) (by decide +kernel), ?_⟩
    refine ⟨sz _ (by decide), [], [(s, _)], .refl _, [[1], [0]], .lst ([0, 1].map D.int), rfl, ok2, v0 _ (by decide +kernel) (by decide +kernel), ?_⟩
    refine ⟨sz _ (by decide), sz _ (by decide), sz _ (by decide), [], [(s, _)], .refl _, [[]], .lst ([0].map D.int), rfl, ok1, v0 _ (by decide +kernel) (by decide +kernel), ?_⟩
    have w1 : (linkedB [[1], [0]] (.lst (((List.replicate 30 [(0 : Int), 1]).flatten ++ [0]).map D.int)) && decide (lenD (.lst (((List.replicate 30 [(0 : Int), 1]).flatten ++ [0]).map D.int)) ≤ 61)) = true := by
      simp only [linkedB, intsOf_map, lenD, List.length_map]
      decide +kernel
    have w2 : (linkedB [[1], [0]] (.lst (((List.replicate 31 [(0 : Int), 1]).flatten).map D.int)) && decide (lenD (.lst (((List.replicate 31 [(0 : Int), 1]).flatten).map D.int)) ≤ 61)) = false := by
      simp only [linkedB, intsOf_map, lenD, List.length_map]
      decide +kernel
    have w3 : (linkedB [[1], [0]] (.lst ([0, 1].map D.int)) && aloneB (.lst ([0, 1].map D.int))) = true := by
      simp only [linkedB, intsOf_map, aloneB]
      decide +kernel
    have w4 : (linkedB [[]] (.lst ([0].map D.int)) && decide (lenD (.lst ([0].map D.int)) ≤ 61)) = true := by
      simp only [linkedB, intsOf_map, lenD, List.length_map]
      decide +kernel
    rw [w1, w2, w3, w4]
    refine ⟨sz _ (by decide), sz _ (by decide), _, _, rfl, rfl, by decide +kernel, by decide +kernel, ?_⟩
    exact ⟨_, .refl _, q _⟩
end K02

set_option Elab.async false
set_option linter.all false
set_option maxRecDepth 100000
set_option maxHeartbeats 4000000
namespace K02
open PySem DL CM
theorem d_law : Does b_law N_law sp_law := by
  rintro r ds Q ⟨ns, rfl, hl, q⟩
  have sz : ∀ n : Nat, n ≤ 1000000 → n ≤ sizeLine := fun n h => Nat.le_trans h sizeBig
  simp only [sRet, sIf, sSeq, sAsg, sDrop, sNext, sNever, sCt, sPar, sFor, sWhile, dAnd, dOr, dNot, dCB, dCons, dNil, dVar, dC, dOp, dTst, dAndT, dOrT, dNotT, dIf, dLst, dTup, dCl, dLc, dYes, dSl, dNoPart, dPart, dRev, dNeg, dChain, dM, dCall, tName, tTupG, tConss, tNils, tSub, iL, iE, iZ, iR1, iR2, startG, wipeG, List.map_cons, List.map_nil, List.length_cons, List.length_nil, List.cons_append, List.nil_append, List.append_nil, List.getD_cons_zero, List.getD_cons_succ, List.set_cons_zero, List.set_cons_succ, List.replicate_succ, List.replicate_zero, Nat.reduceAdd, Nat.reduceSub, Nat.reduceLeDiff, Nat.zero_add, Nat.sub_zero, oB_bl, true_and, and_true, Bool.not_true, Bool.not_false, if_true, if_false, Bool.false_eq_true, reduceIte, mkD_f, oSub_i, oMod_i, oDiv_i, oPow_i, oAdd_i, oAdd_s, oAdd_t, oAdd_l, oMul_i, oMul_l, oLt_i, oLe_i, oGt_i, oGe_i, oMax2_i, oMin2_i, oAbs_i, oInt1_i, oInt1_b, oEq_i, oNe_i, oEq_b, oNe_b, oIsi_x, oIsN_d, oNotN_d, lsOf_l, lstOf_ob, seqOf_ob, lstOf_l, lstOf_s, seqOf_l, seqOf_s, seqOf_t, srcOf_l, srcOf_s, srcOf_ob, isL_ob, isL_l, lk_self, lk_ne, put_ne, del_ne, ne_eq, not_false_eq_true, put_nil, put_self, del_nil, del_self, oLen_l, oLen_t, oLen_sc, oLen_s, oLen_ob, oIx_l, oIx_t, oIx_ob, at_0, at_1, at_2, ix_30, ix_31, ix_32, oSl_l, oSl_ob, oAll_l, mApp_ob, mPop_ob, mClear_ob, Option.some.injEq, Cl.lst.injEq, Option.bind_some, Option.map_some, exists_eq_left', exists_eq_left, Option.isSome_some, exists_eq_right, and_assoc, exists_and_left, Prod.mk.injEq, oSort, oSortSet, oLenSet, oTuple_l, oAdd_sl, dD0, b_law, N_law]
  refine ⟨sz _ (by decide), sz _ (by rw [List.length_map]; omega), ?_⟩
  generalize hsel : cutL (ns.map D.int ++ [D.int 0]) none (some (if (if (20 : Int) < ns.length then 20 else (ns.length : Int)) > 1 then if (20 : Int) < ns.length then 20 else (ns.length : Int) else 1)) = sel
  have hsel2 : ∀ x ∈ sel, ∃ c, x = .int c := by
    intro x hx
    rw [← hsel, cutL_to _ (by split <;> omega)] at hx
    rcases List.mem_append.mp (List.mem_of_mem_take hx) with h | h
    · obtain ⟨c, _, rfl⟩ := List.mem_map.mp h; exact ⟨c, rfl⟩
    · exact ⟨0, List.mem_singleton.mp h⟩
  have hlen : sel.length ≤ 64 := by
    rw [← hsel, cutL_to _ (by split <;> omega), List.length_take, List.length_append, List.length_map]
    simp; omega
  refine ⟨fun _ r' g => r' = r ∧ ∃ o1 o2, g = [some (.scr ns), o1, o2], ⟨r, .refl r, rfl, none, none, rfl⟩, ?_, ?_⟩
  · rintro i d r' g hd ⟨rfl, o1, o2, rfl⟩
    obtain ⟨x, hx, rfl⟩ := enumD_at hd
    obtain ⟨c, rfl⟩ := hsel2 x (List.mem_of_getElem? hx)
    have hi : i < sel.length := by
      by_cases z : i < sel.length
      · exact z
      · rw [List.getElem?_eq_none (by omega)] at hx; cases hx
    refine ⟨keptN _, ?_⟩
    simp only [sRet, sIf, sSeq, sAsg, sDrop, sNext, sNever, sCt, sPar, sFor, sWhile, dAnd, dOr, dNot, dCB, dCons, dNil, dVar, dC, dOp, dTst, dAndT, dOrT, dNotT, dIf, dLst, dTup, dCl, dLc, dYes, dSl, dNoPart, dPart, dRev, dNeg, dChain, dM, dCall, tName, tTupG, tConss, tNils, tSub, iL, iE, iZ, iR1, iR2, startG, wipeG, List.map_cons, List.map_nil, List.length_cons, List.length_nil, List.cons_append, List.nil_append, List.append_nil, List.getD_cons_zero, List.getD_cons_succ, List.set_cons_zero, List.set_cons_succ, List.replicate_succ, List.replicate_zero, Nat.reduceAdd, Nat.reduceSub, Nat.reduceLeDiff, Nat.zero_add, Nat.sub_zero, oB_bl, true_and, and_true, Bool.not_true, Bool.not_false, if_true, if_false, Bool.false_eq_true, reduceIte, mkD_f, oSub_i, oMod_i, oDiv_i, oPow_i, oAdd_i, oAdd_s, oAdd_t, oAdd_l, oMul_i, oMul_l, oLt_i, oLe_i, oGt_i, oGe_i, oMax2_i, oMin2_i, oAbs_i, oInt1_i, oInt1_b, oEq_i, oNe_i, oEq_b, oNe_b, oIsi_x, oIsN_d, oNotN_d, lsOf_l, lstOf_ob, seqOf_ob, lstOf_l, lstOf_s, seqOf_l, seqOf_s, seqOf_t, srcOf_l, srcOf_s, srcOf_ob, isL_ob, isL_l, lk_self, lk_ne, put_ne, del_ne, ne_eq, not_false_eq_true, put_nil, put_self, del_nil, del_self, oLen_l, oLen_t, oLen_sc, oLen_s, oLen_ob, oIx_l, oIx_t, oIx_ob, at_0, at_1, at_2, ix_30, ix_31, ix_32, oSl_l, oSl_ob, oAll_l, mApp_ob, mPop_ob, mClear_ob, Option.some.injEq, Cl.lst.injEq, Option.bind_some, Option.map_some, exists_eq_left', exists_eq_left, Option.isSome_some, exists_eq_right, and_assoc, exists_and_left, Prod.mk.injEq, oSort, oSortSet, oLenSet, oTuple_l, oAdd_sl, dD0]
    refine ⟨[], r', .refl _, c, (i : Int), rfl, by omega, by omega, fun xs p hs hp => ?_⟩
    simp only [sRet, sIf, sSeq, sAsg, sDrop, sNext, sNever, sCt, sPar, sFor, sWhile, dAnd, dOr, dNot, dCB, dCons, dNil, dVar, dC, dOp, dTst, dAndT, dOrT, dNotT, dIf, dLst, dTup, dCl, dLc, dYes, dSl, dNoPart, dPart, dRev, dNeg, dChain, dM, dCall, tName, tTupG, tConss, tNils, tSub, iL, iE, iZ, iR1, iR2, startG, wipeG, List.map_cons, List.map_nil, List.length_cons, List.length_nil, List.cons_append, List.nil_append, List.append_nil, List.getD_cons_zero, List.getD_cons_succ, List.set_cons_zero, List.set_cons_succ, List.replicate_succ, List.replicate_zero, Nat.reduceAdd, Nat.reduceSub, Nat.reduceLeDiff, Nat.zero_add, Nat.sub_zero, oB_bl, true_and, and_true, Bool.not_true, Bool.not_false, if_true, if_false, Bool.false_eq_true, reduceIte, mkD_f, oSub_i, oMod_i, oDiv_i, oPow_i, oAdd_i, oAdd_s, oAdd_t, oAdd_l, oMul_i, oMul_l, oLt_i, oLe_i, oGt_i, oGe_i, oMax2_i, oMin2_i, oAbs_i, oInt1_i, oInt1_b, oEq_i, oNe_i, oEq_b, oNe_b, oIsi_x, oIsN_d, oNotN_d, lsOf_l, lstOf_ob, seqOf_ob, lstOf_l, lstOf_s, seqOf_l, seqOf_s, seqOf_t, srcOf_l, srcOf_s, srcOf_ob, isL_ob, isL_l, lk_self, lk_ne, put_ne, del_ne, ne_eq, not_false_eq_true, put_nil, put_self, del_nil, del_self, oLen_l, oLen_t, oLen_sc, oLen_s, oLen_ob, oIx_l, oIx_t, oIx_ob, at_0, at_1, at_2, ix_30, ix_31, ix_32, oSl_l, oSl_ob, oAll_l, mApp_ob, mPop_ob, mClear_ob, Option.some.injEq, Cl.lst.injEq, Option.bind_some, Option.map_some, exists_eq_left', exists_eq_left, Option.isSome_some, exists_eq_right, and_assoc, exists_and_left, Prod.mk.injEq, oSort, oSortSet, oLenSet, oTuple_l, oAdd_sl, dD0]
    refine ⟨sz _ (by decide), ⟨_, _, by simp only [toPR, toP], by simp [toPR, toP, toPs], shaped_ints ns, shaped_nil, ?_⟩⟩
    have e : PyData.eqv (.list (ns.map PyData.int)) (.list []) = decide (ns = []) := by
      have := eqvAll_ints ns []
      simpa [PyData.eqv] using this
    rw [e]
    by_cases h0 : ns = []
    · simp only [sRet, sIf, sSeq, sAsg, sDrop, sNext, sNever, sCt, sPar, sFor, sWhile, dAnd, dOr, dNot, dCB, dCons, dNil, dVar, dC, dOp, dTst, dAndT, dOrT, dNotT, dIf, dLst, dTup, dCl, dLc, dYes, dSl, dNoPart, dPart, dRev, dNeg, dChain, dM, dCall, tName, tTupG, tConss, tNils, tSub, iL, iE, iZ, iR1, iR2, startG, wipeG, List.map_cons, List.map_nil, List.length_cons, List.length_nil, List.cons_append, List.nil_append, List.append_nil, List.getD_cons_zero, List.getD_cons_succ, List.set_cons_zero, List.set_cons_succ, List.replicate_succ, List.replicate_zero, Nat.reduceAdd, Nat.reduceSub, Nat.reduceLeDiff, Nat.zero_add, Nat.sub_zero, oB_bl, true_and, and_true, Bool.not_true, Bool.not_false, if_true, if_false, Bool.false_eq_true, reduceIte, mkD_f, oSub_i, oMod_i, oDiv_i, oPow_i, oAdd_i, oAdd_s, oAdd_t, oAdd_l, oMul_i, oMul_l, oLt_i, oLe_i, oGt_i, oGe_i, oMax2_i, oMin2_i, oAbs_i, oInt1_i, oInt1_b, oEq_i, oNe_i, oEq_b, oNe_b, oIsi_x, oIsN_d, oNotN_d, lsOf_l, lstOf_ob, seqOf_ob, lstOf_l, lstOf_s, seqOf_l, seqOf_s, seqOf_t, srcOf_l, srcOf_s, srcOf_ob, isL_ob, isL_l, lk_self, lk_ne, put_ne, del_ne, ne_eq, not_false_eq_true, put_nil, put_self, del_nil, del_self, oLen_l, oLen_t, oLen_sc, oLen_s, oLen_ob, oIx_l, oIx_t, oIx_ob, at_0, at_1, at_2, ix_30, ix_31, ix_32, oSl_l, oSl_ob, oAll_l, mApp_ob, mPop_ob, mClear_ob, Option.some.injEq, Cl.lst.injEq, Option.bind_some, Option.map_some, exists_eq_left', exists_eq_left, Option.isSome_some, exists_eq_right, and_assoc, exists_and_left, Prod.mk.injEq, oSort, oSortSet, oLenSet, oTuple_l, oAdd_sl, dD0, h0, decide_true]
      refine ⟨[(p, .lst xs)], r', .refl _, p, xs, 4, rfl, rfl, hs, by decide, by decide, fun r3 => ?_⟩
      simp only [sRet, sIf, sSeq, sAsg, sDrop, sNext, sNever, sCt, sPar, sFor, sWhile, dAnd, dOr, dNot, dCB, dCons, dNil, dVar, dC, dOp, dTst, dAndT, dOrT, dNotT, dIf, dLst, dTup, dCl, dLc, dYes, dSl, dNoPart, dPart, dRev, dNeg, dChain, dM, dCall, tName, tTupG, tConss, tNils, tSub, iL, iE, iZ, iR1, iR2, startG, wipeG, List.map_cons, List.map_nil, List.length_cons, List.length_nil, List.cons_append, List.nil_append, List.append_nil, List.getD_cons_zero, List.getD_cons_succ, List.set_cons_zero, List.set_cons_succ, List.replicate_succ, List.replicate_zero, Nat.reduceAdd, Nat.reduceSub, Nat.reduceLeDiff, Nat.zero_add, Nat.sub_zero, oB_bl, true_and, and_true, Bool.not_true, Bool.not_false, if_true, if_false, Bool.false_eq_true, reduceIte, mkD_f, oSub_i, oMod_i, oDiv_i, oPow_i, oAdd_i, oAdd_s, oAdd_t, oAdd_l, oMul_i, oMul_l, oLt_i, oLe_i, oGt_i, oGe_i, oMax2_i, oMin2_i, oAbs_i, oInt1_i, oInt1_b, oEq_i, oNe_i, oEq_b, oNe_b, oIsi_x, oIsN_d, oNotN_d, lsOf_l, lstOf_ob, seqOf_ob, lstOf_l, lstOf_s, seqOf_l, seqOf_s, seqOf_t, srcOf_l, srcOf_s, srcOf_ob, isL_ob, isL_l, lk_self, lk_ne, put_ne, del_ne, ne_eq, not_false_eq_true, put_nil, put_self, del_nil, del_self, oLen_l, oLen_t, oLen_sc, oLen_s, oLen_ob, oIx_l, oIx_t, oIx_ob, at_0, at_1, at_2, ix_30, ix_31, ix_32, oSl_l, oSl_ob, oAll_l, mApp_ob, mPop_ob, mClear_ob, Option.some.injEq, Cl.lst.injEq, Option.bind_some, Option.map_some, exists_eq_left', exists_eq_left, Option.isSome_some, exists_eq_right, and_assoc, exists_and_left, Prod.mk.injEq, oSort, oSortSet, oLenSet, oTuple_l, oAdd_sl, dD0]
      exact ⟨r', .of (List.sublist_append_right _ _), rfl, _, _, rfl⟩
    · simp only [sRet, sIf, sSeq, sAsg, sDrop, sNext, sNever, sCt, sPar, sFor, sWhile, dAnd, dOr, dNot, dCB, dCons, dNil, dVar, dC, dOp, dTst, dAndT, dOrT, dNotT, dIf, dLst, dTup, dCl, dLc, dYes, dSl, dNoPart, dPart, dRev, dNeg, dChain, dM, dCall, tName, tTupG, tConss, tNils, tSub, iL, iE, iZ, iR1, iR2, startG, wipeG, List.map_cons, List.map_nil, List.length_cons, List.length_nil, List.cons_append, List.nil_append, List.append_nil, List.getD_cons_zero, List.getD_cons_succ, List.set_cons_zero, List.set_cons_succ, List.replicate_succ, List.replicate_zero, Nat.reduceAdd, Nat.reduceSub, Nat.reduceLeDiff, Nat.zero_add, Nat.sub_zero, oB_bl, true_and, and_true, Bool.not_true, Bool.not_false, if_true, if_false, Bool.false_eq_true, reduceIte, mkD_f, oSub_i, oMod_i, oDiv_i, oPow_i, oAdd_i, oAdd_s, oAdd_t, oAdd_l, oMul_i, oMul_l, oLt_i, oLe_i, oGt_i, oGe_i, oMax2_i, oMin2_i, oAbs_i, oInt1_i, oInt1_b, oEq_i, oNe_i, oEq_b, oNe_b, oIsi_x, oIsN_d, oNotN_d, lsOf_l, lstOf_ob, seqOf_ob, lstOf_l, lstOf_s, seqOf_l, seqOf_s, seqOf_t, srcOf_l, srcOf_s, srcOf_ob, isL_ob, isL_l, lk_self, lk_ne, put_ne, del_ne, ne_eq, not_false_eq_true, put_nil, put_self, del_nil, del_self, oLen_l, oLen_t, oLen_sc, oLen_s, oLen_ob, oIx_l, oIx_t, oIx_ob, at_0, at_1, at_2, ix_30, ix_31, ix_32, oSl_l, oSl_ob, oAll_l, mApp_ob, mPop_ob, mClear_ob, Option.some.injEq, Cl.lst.injEq, Option.bind_some, Option.map_some, exists_eq_left', exists_eq_left, Option.isSome_some, exists_eq_right, and_assoc, exists_and_left, Prod.mk.injEq, oSort, oSortSet, oLenSet, oTuple_l, oAdd_sl, dD0, h0, decide_false]
      refine ⟨[(p, .lst xs)], r', .refl _, p, xs, 12, rfl, rfl, hs, by decide, by decide, fun r3 => ?_⟩
      simp only [sRet, sIf, sSeq, sAsg, sDrop, sNext, sNever, sCt, sPar, sFor, sWhile, dAnd, dOr, dNot, dCB, dCons, dNil, dVar, dC, dOp, dTst, dAndT, dOrT, dNotT, dIf, dLst, dTup, dCl, dLc, dYes, dSl, dNoPart, dPart, dRev, dNeg, dChain, dM, dCall, tName, tTupG, tConss, tNils, tSub, iL, iE, iZ, iR1, iR2, startG, wipeG, List.map_cons, List.map_nil, List.length_cons, List.length_nil, List.cons_append, List.nil_append, List.append_nil, List.getD_cons_zero, List.getD_cons_succ, List.set_cons_zero, List.set_cons_succ, List.replicate_succ, List.replicate_zero, Nat.reduceAdd, Nat.reduceSub, Nat.reduceLeDiff, Nat.zero_add, Nat.sub_zero, oB_bl, true_and, and_true, Bool.not_true, Bool.not_false, if_true, if_false, Bool.false_eq_true, reduceIte, mkD_f, oSub_i, oMod_i, oDiv_i, oPow_i, oAdd_i, oAdd_s, oAdd_t, oAdd_l, oMul_i, oMul_l, oLt_i, oLe_i, oGt_i, oGe_i, oMax2_i, oMin2_i, oAbs_i, oInt1_i, oInt1_b, oEq_i, oNe_i, oEq_b, oNe_b, oIsi_x, oIsN_d, oNotN_d, lsOf_l, lstOf_ob, seqOf_ob, lstOf_l, lstOf_s, seqOf_l, seqOf_s, seqOf_t, srcOf_l, srcOf_s, srcOf_ob, isL_ob, isL_l, lk_self, lk_ne, put_ne, del_ne, ne_eq, not_false_eq_true, put_nil, put_self, del_nil, del_self, oLen_l, oLen_t, oLen_sc, oLen_s, oLen_ob, oIx_l, oIx_t, oIx_ob, at_0, at_1, at_2, ix_30, ix_31, ix_32, oSl_l, oSl_ob, oAll_l, mApp_ob, mPop_ob, mClear_ob, Option.some.injEq, Cl.lst.injEq, Option.bind_some, Option.map_some, exists_eq_left', exists_eq_left, Option.isSome_some, exists_eq_right, and_assoc, exists_and_left, Prod.mk.injEq, oSort, oSortSet, oLenSet, oTuple_l, oAdd_sl, dD0]
      exact ⟨r', .of (List.sublist_append_right _ _), rfl, _, _, rfl⟩
  · rintro r' g ⟨rfl, o1, o2, rfl⟩
    refine ⟨keptN _, ?_⟩
    simp only [sRet, sIf, sSeq, sAsg, sDrop, sNext, sNever, sCt, sPar, sFor, sWhile, dAnd, dOr, dNot, dCB, dCons, dNil, dVar, dC, dOp, dTst, dAndT, dOrT, dNotT, dIf, dLst, dTup, dCl, dLc, dYes, dSl, dNoPart, dPart, dRev, dNeg, dChain, dM, dCall, tName, tTupG, tConss, tNils, tSub, iL, iE, iZ, iR1, iR2, startG, wipeG, List.map_cons, List.map_nil, List.length_cons, List.length_nil, List.cons_append, List.nil_append, List.append_nil, List.getD_cons_zero, List.getD_cons_succ, List.set_cons_zero, List.set_cons_succ, List.replicate_succ, List.replicate_zero, Nat.reduceAdd, Nat.reduceSub, Nat.reduceLeDiff, Nat.zero_add, Nat.sub_zero, oB_bl, true_and, and_true, Bool.not_true, Bool.not_false, if_true, if_false, Bool.false_eq_true, reduceIte, mkD_f, oSub_i, oMod_i, oDiv_i, oPow_i, oAdd_i, oAdd_s, oAdd_t, oAdd_l, oMul_i, oMul_l, oLt_i, oLe_i, oGt_i, oGe_i, oMax2_i, oMin2_i, oAbs_i, oInt1_i, oInt1_b, oEq_i, oNe_i, oEq_b, oNe_b, oIsi_x, oIsN_d, oNotN_d, lsOf_l, lstOf_ob, seqOf_ob, lstOf_l, lstOf_s, seqOf_l, seqOf_s, seqOf_t, srcOf_l, srcOf_s, srcOf_ob, isL_ob, isL_l, lk_self, lk_ne, put_ne, del_ne, ne_eq, not_false_eq_true, put_nil, put_self, del_nil, del_self, oLen_l, oLen_t, oLen_sc, oLen_s, oLen_ob, oIx_l, oIx_t, oIx_ob, at_0, at_1, at_2, ix_30, ix_31, ix_32, oSl_l, oSl_ob, oAll_l, mApp_ob, mPop_ob, mClear_ob, Option.some.injEq, Cl.lst.injEq, Option.bind_some, Option.map_some, exists_eq_left', exists_eq_left, Option.isSome_some, exists_eq_right, and_assoc, exists_and_left, Prod.mk.injEq, oSort, oSortSet, oLenSet, oTuple_l, oAdd_sl, dD0]
    exact ⟨_, .refl _, q⟩
end K02

set_option Elab.async false
set_option linter.all false
set_option maxRecDepth 100000
set_option maxHeartbeats 4000000
namespace K02
open PySem L2 DL CM PyProof.Rows
structure Txt (mg : Str → Option Value) : Prop where
  b_abs : mg "abs" = none
  b_all : mg "all" = none
  b_bool : mg "bool" = none
  b_enumerate : mg "enumerate" = none
  b_int : mg "int" = none
  b_isinstance : mg "isinstance" = none
  b_len : mg "len" = none
  b_list : mg "list" = none
  b_max : mg "max" = none
  b_min : mg "min" = none
  b_range : mg "range" = none
  b_repr : mg "repr" = none
  b_set : mg "set" = none
  b_sorted : mg "sorted" = none
  b_tuple : mg "tuple" = none
  b_zip : mg "zip" = none
  MOST_PAGES : ∃ t, mg "MOST_PAGES" = some (.int 12 t)
  MOST_STEPS : ∃ t, mg "MOST_STEPS" = some (.int 60 t)
section
variable {P : Program} {w : World} {K : PySem.W.Frag} {mg : Str → Option Value} {base : Heap}
abbrev s_is_integer : Stmt := PySem.Challenge.pw_breadcrumbs_k02_walks_and_trails_of_site.main.body.getD 6 (.Pass ⟨0, 0, 0, 0⟩)
theorem sc_is_integer : FnScope N_is_integer ["value", "least", "most"] (defScope s_is_integer) := ⟨rfl, rfl, rfl, by decide +kernel, rfl, by decide +kernel, by decide +kernel⟩
theorem c_is_integer {fa : Addr} (F : ∃ fd, FunD K "is_integer" "is_integer" (defArgs s_is_integer) (defBody s_is_integer) (defScope s_is_integer) [] [] fa fd) (hm : mg "is_integer" = some (.ref fa)) (T : Txt mg)  (hd : Does b_is_integer N_is_integer sp_is_integer) (hlen : ∀ r ds Q, sp_is_integer r ds Q → ds.length = 3) :
    Cal P w K mg base "is_integer" 1 ["value", "least", "most"] sp_is_integer := by
  exact cal_of (k := 0) F hm sc_is_integer hlen hd (fun _ _ _ _ _ _ us hl => match us, hl with | [_, _, _], _ => rfl) fun cdv A outer s H E hG hr => ⟨_, (ss_one (ss_ret (pd_and (pd_isi (K := K) T.b_isinstance (pa_c (pd_var 0) (pa_c (pd_gty T.b_int) pa_n))) (pd_and (pd_not (pd_isi (K := K) T.b_isinstance (pa_c (pd_var 0) (pa_c (pd_gty T.b_bool) pa_n)))) (pd_one (pd_leLe (pd_var 1) (pd_var 0) (pd_var 2)))))))⟩
abbrev s_is_row : Stmt := PySem.Challenge.pw_breadcrumbs_k02_walks_and_trails_of_site.main.body.getD 7 (.Pass ⟨0, 0, 0, 0⟩)
theorem sc_is_row : FnScope N_is_row ["value", "page", "many"] (defScope s_is_row) := ⟨rfl, rfl, rfl, by decide +kernel, rfl, by decide +kernel, by decide +kernel⟩
theorem c_is_row {fa : Addr} (F : ∃ fd, FunD K "is_row" "is_row" (defArgs s_is_row) (defBody s_is_row) (defScope s_is_row) [] [] fa fd) (hm : mg "is_row" = some (.ref fa)) (T : Txt mg) (C_is_integer : Cal P w K mg base "is_integer" 1 ["value", "least", "most"] sp_is_integer) (hd : Does b_is_row N_is_row sp_is_row) (hlen : ∀ r ds Q, sp_is_row r ds Q → ds.length = 3) :
    Cal P w K mg base "is_row" 2 ["value", "page", "many"] sp_is_row := by
  exact cal_of (k := 1) F hm sc_is_row hlen hd (fun _ _ _ _ _ _ us hl => match us, hl with | [_, _, _], _ => rfl) fun cdv A outer s H E hG hr => ⟨_, (ss_cons
  (ss_if (PDW.pt (pw_o (pt_n (pt_v (pd_isi (K := K) T.b_isinstance (pa_c (pd_var 0) (pa_c (pd_gty T.b_list) pa_n))))) (pw_o1 (pt_n (pt_v (pd_all (K := K) rfl T.b_all (pa_c (pd_lc false rfl sc_is_row.nd (di_list (K := K) (pd_var 0)) (blkOk_by (N := N_is_row) (sc := defScope s_is_row) (own := [(("other" : Str), 3)]) (by decide +kernel)) (fun _ _ _ _ _ => (tg_name sc_is_row.nd)) (fun _ _ _ _ _ => pts_n) (fun _ _ _ _ _ => (pd_cal C_is_integer hG hr (by decide) (pa_c (pd_var 3) (pa_c pd_int (pa_c (pd_sub (pd_var 2) pd_int) pa_n)))))) pa_n)))))))
  (ss_one (ss_ret pd_bl))
  ss_nil)
  (ss_one (ss_ret (pd_and (pd_nin (K := K) (pd_var 1) (pd_var 0)) (pd_one (pd_eq (K := K) hr.units (pd_var 0) (pd_sortset (K := K) (w := w) false rfl T.b_sorted T.b_set (pa_c (pd_var 0) pa_n))))))))⟩
abbrev s_is_site : Stmt := PySem.Challenge.pw_breadcrumbs_k02_walks_and_trails_of_site.main.body.getD 8 (.Pass ⟨0, 0, 0, 0⟩)
theorem sc_is_site : FnScope N_is_site ["value"] (defScope s_is_site) := ⟨rfl, rfl, rfl, by decide +kernel, rfl, by decide +kernel, by decide +kernel⟩
theorem c_is_site {fa : Addr} (F : ∃ fd, FunD K "is_site" "is_site" (defArgs s_is_site) (defBody s_is_site) (defScope s_is_site) [] [] fa fd) (hm : mg "is_site" = some (.ref fa)) (T : Txt mg) (C_is_row : Cal P w K mg base "is_row" 2 ["value", "page", "many"] sp_is_row) (hd : Does b_is_site N_is_site sp_is_site) (hlen : ∀ r ds Q, sp_is_site r ds Q → ds.length = 1) :
    Cal P w K mg base "is_site" 3 ["value"] sp_is_site := by
  exact cal_of (k := 2) F hm sc_is_site hlen hd (fun _ _ _ _ _ _ us hl => match us, hl with | [_], _ => rfl) fun cdv A outer s H E hG hr => ⟨_, (ss_cons
  (ss_if (PDW.pt (pw_o (pt_n (pt_v (pd_isi (K := K) T.b_isinstance (pa_c (pd_var 0) (pa_c (pd_gty T.b_list) pa_n))))) (pw_o1 (pt_n (pt_leLe pd_int (pd_len (K := K) T.b_len (pa_c (pd_var 0) pa_n)) (pd_gint T.MOST_PAGES))))))
  (ss_one (ss_ret pd_bl))
  ss_nil)
  (ss_one (ss_ret (pd_all (K := K) rfl T.b_all (pa_c (pd_lc false rfl sc_is_site.nd (di_enum (K := K) T.b_enumerate (pa_c (pd_var 0) pa_n)) (blkOk_by (N := N_is_site) (sc := defScope s_is_site) (own := [(("page" : Str), 1), (("row" : Str), 2)]) (by decide +kernel)) (fun _ _ _ _ _ => (tg_tup (K := K) rfl (tg_cons (tg_name sc_is_site.nd) (tg_cons (tg_name sc_is_site.nd) tg_nil)))) (fun _ _ _ _ _ => pts_n) (fun _ _ _ _ _ => (pd_cal C_is_row hG hr (by decide) (pa_c (pd_var 2) (pa_c (pd_var 1) (pa_c (pd_len (K := K) T.b_len (pa_c (pd_var 0) pa_n)) pa_n)))))) pa_n)))))⟩
abbrev s_check_site : Stmt := PySem.Challenge.pw_breadcrumbs_k02_walks_and_trails_of_site.main.body.getD 9 (.Pass ⟨0, 0, 0, 0⟩)
theorem sc_check_site : FnScope N_check_site ["site"] (defScope s_check_site) := ⟨rfl, rfl, rfl, by decide +kernel, rfl, by decide +kernel, by decide +kernel⟩
theorem c_check_site {fa : Addr} (F : ∃ fd, FunD K "check_site" "check_site" (defArgs s_check_site) (defBody s_check_site) (defScope s_check_site) [] [] fa fd) (hm : mg "check_site" = some (.ref fa)) (T : Txt mg) (C_is_site : Cal P w K mg base "is_site" 3 ["value"] sp_is_site) (hd : Does b_check_site N_check_site sp_check_site) (hlen : ∀ r ds Q, sp_check_site r ds Q → ds.length = 1) :
    Cal P w K mg base "check_site" 4 ["site"] sp_check_site := by
  exact cal_of (k := 3) F hm sc_check_site hlen hd (fun _ _ _ _ _ _ us hl => match us, hl with | [_], _ => rfl) fun cdv A outer s H E hG hr => ⟨_, (ss_one (ss_if (pt_n (pt_v (pd_cal C_is_site hG hr (by decide) (pa_c (pd_var 0) pa_n)))) ss_never ss_nil))⟩
abbrev s_is_linked_on : Stmt := PySem.Challenge.pw_breadcrumbs_k02_walks_and_trails_of_site.main.body.getD 10 (.Pass ⟨0, 0, 0, 0⟩)
theorem sc_is_linked_on : FnScope N_is_linked_on ["site", "value"] (defScope s_is_linked_on) := ⟨rfl, rfl, rfl, by decide +kernel, rfl, by decide +kernel, by decide +kernel⟩
theorem c_is_linked_on {fa : Addr} (F : ∃ fd, FunD K "is_linked_on" "is_linked_on" (defArgs s_is_linked_on) (defBody s_is_linked_on) (defScope s_is_linked_on) [] [] fa fd) (hm : mg "is_linked_on" = some (.ref fa)) (T : Txt mg) (C_is_integer : Cal P w K mg base "is_integer" 1 ["value", "least", "most"] sp_is_integer) (hd : Does b_is_linked_on N_is_linked_on sp_is_linked_on) (hlen : ∀ r ds Q, sp_is_linked_on r ds Q → ds.length = 2) :
    Cal P w K mg base "is_linked_on" 2 ["site", "value"] sp_is_linked_on := by
  exact cal_of (k := 1) F hm sc_is_linked_on hlen hd (fun _ _ _ _ _ _ us hl => match us, hl with | [_, _], _ => rfl) fun cdv A outer s H E hG hr => ⟨_, (ss_cons
  (ss_if (PDW.pt (pw_o (pt_n (pt_v (pd_isi (K := K) T.b_isinstance (pa_c (pd_var 1) (pa_c (pd_gty T.b_list) pa_n))))) (pw_o1 (pt_eq (K := K) hr.units (pd_var 1) (pd_lst false pa_n)))))
  (ss_one (ss_ret pd_bl))
  ss_nil)
  (ss_cons
  (ss_if (pt_n (pt_v (pd_all (K := K) rfl T.b_all (pa_c (pd_lc false rfl sc_is_linked_on.nd (di_list (K := K) (pd_var 1)) (blkOk_by (N := N_is_linked_on) (sc := defScope s_is_linked_on) (own := [(("page" : Str), 2)]) (by decide +kernel)) (fun _ _ _ _ _ => (tg_name sc_is_linked_on.nd)) (fun _ _ _ _ _ => pts_n) (fun _ _ _ _ _ => (pd_cal C_is_integer hG hr (by decide) (pa_c (pd_var 2) (pa_c pd_int (pa_c (pd_sub (pd_len (K := K) T.b_len (pa_c (pd_var 0) pa_n)) pd_int) pa_n)))))) pa_n))))
  (ss_one (ss_ret pd_bl))
  ss_nil)
  (ss_one (ss_ret (pd_all (K := K) rfl T.b_all (pa_c (pd_lc false rfl sc_is_linked_on.nd (di_zip (K := K) T.b_zip (pa_c (pd_var 1) (pa_c (pd_slice (K := K) false (pd_var 1) (pdo_some pd_int) pdo_none) pa_n)) rfl (pi_zip rfl T.b_zip (PDA.pa (pa_c (pd_var 1) (pa_c (pd_slice (K := K) false (pd_var 1) (pdo_some pd_int) pdo_none) pa_n))))) (blkOk_by (N := N_is_linked_on) (sc := defScope s_is_linked_on) (own := [(("page" : Str), 2), (("other" : Str), 3)]) (by decide +kernel)) (fun _ _ _ _ _ => (tg_tup (K := K) rfl (tg_cons (tg_name sc_is_linked_on.nd) (tg_cons (tg_name sc_is_linked_on.nd) tg_nil)))) (fun _ _ _ _ _ => pts_n) (fun _ _ _ _ _ => (pd_in (K := K) (pd_var 3) (pd_ix (K := K) (pd_var 0) (pd_var 2))))) pa_n))))))⟩
abbrev s_is_walk_on : Stmt := PySem.Challenge.pw_breadcrumbs_k02_walks_and_trails_of_site.main.body.getD 11 (.Pass ⟨0, 0, 0, 0⟩)
theorem sc_is_walk_on : FnScope N_is_walk_on ["site", "value"] (defScope s_is_walk_on) := ⟨rfl, rfl, rfl, by decide +kernel, rfl, by decide +kernel, by decide +kernel⟩
theorem c_is_walk_on {fa : Addr} (F : ∃ fd, FunD K "is_walk_on" "is_walk_on" (defArgs s_is_walk_on) (defBody s_is_walk_on) (defScope s_is_walk_on) [] [] fa fd) (hm : mg "is_walk_on" = some (.ref fa)) (T : Txt mg) (C_is_linked_on : Cal P w K mg base "is_linked_on" 2 ["site", "value"] sp_is_linked_on) (hd : Does b_is_walk_on N_is_walk_on sp_is_walk_on) (hlen : ∀ r ds Q, sp_is_walk_on r ds Q → ds.length = 2) :
    Cal P w K mg base "is_walk_on" 3 ["site", "value"] sp_is_walk_on := by
  exact cal_of (k := 2) F hm sc_is_walk_on hlen hd (fun _ _ _ _ _ _ us hl => match us, hl with | [_, _], _ => rfl) fun cdv A outer s H E hG hr => ⟨_, (ss_one (ss_ret (pd_and (pd_cal C_is_linked_on hG hr (by decide) (pa_c (pd_var 0) (pa_c (pd_var 1) pa_n))) (pd_one (pd_le (pd_len (K := K) T.b_len (pa_c (pd_var 1) pa_n)) (pd_add (K := K) false (pd_gint T.MOST_STEPS) pd_int))))))⟩
abbrev s_is_trail_on : Stmt := PySem.Challenge.pw_breadcrumbs_k02_walks_and_trails_of_site.main.body.getD 12 (.Pass ⟨0, 0, 0, 0⟩)
theorem sc_is_trail_on : FnScope N_is_trail_on ["site", "value"] (defScope s_is_trail_on) := ⟨rfl, rfl, rfl, by decide +kernel, rfl, by decide +kernel, by decide +kernel⟩
theorem c_is_trail_on {fa : Addr} (F : ∃ fd, FunD K "is_trail_on" "is_trail_on" (defArgs s_is_trail_on) (defBody s_is_trail_on) (defScope s_is_trail_on) [] [] fa fd) (hm : mg "is_trail_on" = some (.ref fa)) (T : Txt mg) (C_is_linked_on : Cal P w K mg base "is_linked_on" 2 ["site", "value"] sp_is_linked_on) (hd : Does b_is_trail_on N_is_trail_on sp_is_trail_on) (hlen : ∀ r ds Q, sp_is_trail_on r ds Q → ds.length = 2) :
    Cal P w K mg base "is_trail_on" 3 ["site", "value"] sp_is_trail_on := by
  exact cal_of (k := 2) F hm sc_is_trail_on hlen hd (fun _ _ _ _ _ _ us hl => match us, hl with | [_, _], _ => rfl) fun cdv A outer s H E hG hr => ⟨_, (ss_one (ss_ret (pd_and (pd_cal C_is_linked_on hG hr (by decide) (pa_c (pd_var 0) (pa_c (pd_var 1) pa_n))) (pd_one (pd_eq (K := K) hr.units (pd_lenset (K := K) (w := w) rfl T.b_len T.b_set (pa_c (pd_var 1) pa_n)) (pd_len (K := K) T.b_len (pa_c (pd_var 1) pa_n)))))))⟩
abbrev s_is_walk : Stmt := PySem.Challenge.pw_breadcrumbs_k02_walks_and_trails_of_site.main.body.getD 13 (.Pass ⟨0, 0, 0, 0⟩)
theorem sc_is_walk : FnScope N_is_walk ["site", "value"] (defScope s_is_walk) := ⟨rfl, rfl, rfl, by decide +kernel, rfl, by decide +kernel, by decide +kernel⟩
theorem c_is_walk {fa : Addr} (F : ∃ fd, FunD K "is_walk" "is_walk" (defArgs s_is_walk) (defBody s_is_walk) (defScope s_is_walk) [] [] fa fd) (hm : mg "is_walk" = some (.ref fa)) (T : Txt mg) (C_check_site : Cal P w K mg base "check_site" 4 ["site"] sp_check_site) (C_is_walk_on : Cal P w K mg base "is_walk_on" 3 ["site", "value"] sp_is_walk_on) (hd : Does b_is_walk N_is_walk sp_is_walk) (hlen : ∀ r ds Q, sp_is_walk r ds Q → ds.length = 2) :
    Cal P w K mg base "is_walk" 5 ["site", "value"] sp_is_walk := by
  exact cal_of (k := 4) F hm sc_is_walk hlen hd (fun _ _ _ _ _ _ us hl => match us, hl with | [_, _], _ => rfl) fun cdv A outer s H E hG hr => ⟨_, (ss_cons
  (ss_drop (pd_cal C_check_site hG hr (by decide) (pa_c (pd_var 0) pa_n)))
  (ss_one (ss_ret (pd_cal C_is_walk_on hG hr (by decide) (pa_c (pd_var 0) (pa_c (pd_var 1) pa_n))))))⟩
abbrev s_is_trail_of : Stmt := PySem.Challenge.pw_breadcrumbs_k02_walks_and_trails_of_site.main.body.getD 14 (.Pass ⟨0, 0, 0, 0⟩)
theorem sc_is_trail_of : FnScope N_is_trail_of ["site", "value"] (defScope s_is_trail_of) := ⟨rfl, rfl, rfl, by decide +kernel, rfl, by decide +kernel, by decide +kernel⟩
theorem c_is_trail_of {fa : Addr} (F : ∃ fd, FunD K "is_trail_of" "is_trail_of" (defArgs s_is_trail_of) (defBody s_is_trail_of) (defScope s_is_trail_of) [] [] fa fd) (hm : mg "is_trail_of" = some (.ref fa)) (T : Txt mg) (C_check_site : Cal P w K mg base "check_site" 4 ["site"] sp_check_site) (C_is_trail_on : Cal P w K mg base "is_trail_on" 3 ["site", "value"] sp_is_trail_on) (hd : Does b_is_trail_of N_is_trail_of sp_is_trail_of) (hlen : ∀ r ds Q, sp_is_trail_of r ds Q → ds.length = 2) :
    Cal P w K mg base "is_trail_of" 5 ["site", "value"] sp_is_trail_of := by
  exact cal_of (k := 4) F hm sc_is_trail_of hlen hd (fun _ _ _ _ _ _ us hl => match us, hl with | [_, _], _ => rfl) fun cdv A outer s H E hG hr => ⟨_, (ss_cons
  (ss_drop (pd_cal C_check_site hG hr (by decide) (pa_c (pd_var 0) pa_n)))
  (ss_one (ss_ret (pd_cal C_is_trail_on hG hr (by decide) (pa_c (pd_var 0) (pa_c (pd_var 1) pa_n))))))⟩
abbrev s__law_source : Stmt := PySem.Challenge.pw_breadcrumbs_k02_walks_and_trails_of_site.main.body.getD 16 (.Pass ⟨0, 0, 0, 0⟩)
theorem sc__law_source : FnScope N__law_source ["_law_cell", "_law_k"] (defScope s__law_source) := ⟨rfl, rfl, rfl, by decide +kernel, rfl, by decide +kernel, by decide +kernel⟩
theorem c__law_source {fa : Addr} (F : ∃ fd, FunD K "_law_source" "_law_source" (defArgs s__law_source) (defBody s__law_source) (defScope s__law_source) [] [] fa fd) (hm : mg "_law_source" = some (.ref fa)) (T : Txt mg)  (hd : Does b__law_source N__law_source sp__law_source) (hlen : ∀ r ds Q, sp__law_source r ds Q → ds.length = 2) :
    Cal P w K mg base "_law_source" 1 ["_law_cell", "_law_k"] sp__law_source := by
  exact cal_of (k := 0) F hm sc__law_source hlen hd (fun _ _ _ _ _ _ us hl => match us, hl with | [_, _], _ => rfl) fun cdv A outer s H E hG hr => ⟨_, (ss_one (ss_ret (pd_lst true (pa_c (pd_max2 rfl T.b_max (pa_c pd_int (pa_c (pd_sub (pd_var 0) (pd_pow pd_int pd_int)) pa_n))) (pa_c (pd_add (K := K) false (pd_mul false (pd_mod (pd_var 0) (pd_add (K := K) false (pd_pow pd_int pd_int) pd_int)) pd_int) (pd_var 1)) (pa_c pd_int pa_n))))))⟩
abbrev s__law_draw : Stmt := PySem.Challenge.pw_breadcrumbs_k02_walks_and_trails_of_site.main.body.getD 17 (.Pass ⟨0, 0, 0, 0⟩)
theorem sc__law_draw : FnScope N__law_draw ["_law_source_here", "_law_count"] (defScope s__law_draw) := ⟨rfl, rfl, rfl, by decide +kernel, rfl, by decide +kernel, by decide +kernel⟩
theorem c__law_draw {fa : Addr} (F : ∃ fd, FunD K "_law_draw" "_law_draw" (defArgs s__law_draw) (defBody s__law_draw) (defScope s__law_draw) [] [] fa fd) (hm : mg "_law_draw" = some (.ref fa)) (T : Txt mg)  (hd : Does b__law_draw N__law_draw sp__law_draw) (hlen : ∀ r ds Q, sp__law_draw r ds Q → ds.length = 2) :
    Cal P w K mg base "_law_draw" 1 ["_law_source_here", "_law_count"] sp__law_draw := by
  exact cal_of (k := 0) F hm sc__law_draw hlen hd (fun _ _ _ _ _ _ us hl => match us, hl with | [_, _], _ => rfl) fun cdv A outer s H E hG hr => ⟨_, (ss_cons
  (ss_if (pt_gt (pd_ix (K := K) (pd_var 0) pd_int) pd_int)
  (ss_cons
  (ss_set (i := 2) sc__law_draw.nd (pd_mod (pd_ix (K := K) (pd_var 0) pd_int) (pd_var 1)))
  (ss_cons
  (ss_asg (pd_div (pd_ix (K := K) (pd_var 0) pd_int) (pd_var 1)) (tg_sub (pd_var 0) pd_int))
  (ss_one (ss_ret (pd_var 2)))))
  ss_nil)
  (ss_cons
  (ss_asg (pd_add (K := K) false (pd_ix (K := K) (pd_var 0) pd_int) pd_int) (tg_sub (pd_var 0) pd_int))
  (ss_cons
  (ss_set (i := 3) sc__law_draw.nd (pd_mod (pd_pow (pd_add (K := K) false (pd_ix (K := K) (pd_var 0) pd_int) (pd_mul false pd_int (pd_ix (K := K) (pd_var 0) pd_int))) pd_int) (pd_add (K := K) false (pd_pow pd_int pd_int) pd_int)))
  (ss_cons
  (ss_set (i := 3) sc__law_draw.nd (pd_mod (pd_pow (pd_add (K := K) false (pd_var 3) (pd_mul false pd_int (pd_ix (K := K) (pd_var 0) pd_int))) pd_int) (pd_add (K := K) false (pd_pow pd_int pd_int) pd_int)))
  (ss_one (ss_ret (pd_mod (pd_div (pd_var 3) pd_int) (pd_var 1))))))))⟩
abbrev s__law_net : Stmt := PySem.Challenge.pw_breadcrumbs_k02_walks_and_trails_of_site.main.body.getD 18 (.Pass ⟨0, 0, 0, 0⟩)
theorem sc__law_net : FnScope N__law_net ["_law_source_here", "_law_most"] (defScope s__law_net) := ⟨rfl, rfl, rfl, by decide +kernel, rfl, by decide +kernel, by decide +kernel⟩
theorem c__law_net {fa : Addr} (F : ∃ fd, FunD K "_law_net" "_law_net" (defArgs s__law_net) (defBody s__law_net) (defScope s__law_net) [] [] fa fd) (hm : mg "_law_net" = some (.ref fa)) (T : Txt mg) (C__law_draw : Cal P w K mg base "_law_draw" 1 ["_law_source_here", "_law_count"] sp__law_draw) (hd : Does b__law_net N__law_net sp__law_net) (hlen : ∀ r ds Q, sp__law_net r ds Q → ds.length = 2) :
    Cal P w K mg base "_law_net" 2 ["_law_source_here", "_law_most"] sp__law_net := by
  exact cal_of (k := 1) F hm sc__law_net hlen hd (fun _ _ _ _ _ _ us hl => match us, hl with | [_, _], _ => rfl) fun cdv A outer s H E hG hr => ⟨_, (ss_cons
  (ss_set (i := 2) sc__law_net.nd (pd_ix (K := K) (pd_lst false (pa_c (pd_add (K := K) false pd_int (pd_cal C__law_draw hG hr (by decide) (pa_c (pd_var 0) (pa_c (pd_var 1) pa_n)))) (pa_c (pd_add (K := K) false pd_int (pd_cal C__law_draw hG hr (by decide) (pa_c (pd_var 0) (pa_c (pd_min2 rfl T.b_min (pa_c (pd_var 1) (pa_c pd_int pa_n))) pa_n)))) (pa_c (pd_var 1) pa_n)))) (pd_cal C__law_draw hG hr (by decide) (pa_c (pd_var 0) (pa_c pd_int pa_n)))))
  (ss_cons
  (ss_par (i := 3) (j := 4) sc__law_net.nd (pa_c (pd_cal C__law_draw hG hr (by decide) (pa_c (pd_var 0) (pa_c pd_int pa_n))) (pa_c (pd_lst true pa_n) pa_n)) (by rfl))
  (ss_cons
  (ss_for PassesOwn.never rfl (di_range1 T.b_range (pa_c (pd_var 2) pa_n)) (tg_name sc__law_net.nd)
  (ss_cons
  (ss_set (i := 6) sc__law_net.nd (pd_lst true pa_n))
  (ss_cons
  (ss_for PassesOwn.never rfl (di_range1 T.b_range (pa_c (pd_var 2) pa_n)) (tg_name sc__law_net.nd)
  (ss_cons
  (ss_set (i := 8) sc__law_net.nd (pd_lst true (pa_c pd_int (pa_c (pd_int1 T.b_int (pa_c (pd_eq (K := K) hr.units (pd_var 7) (pd_mod (pd_add (K := K) false (pd_var 5) pd_int) (pd_var 2))) pa_n)) (pa_c (pd_int1 T.b_int (pa_c (pd_eq (K := K) hr.units (pd_abs T.b_abs (pa_c (pd_sub (pd_var 5) (pd_var 7)) pa_n)) pd_int) pa_n)) (pa_c (pd_cal C__law_draw hG hr (by decide) (pa_c (pd_var 0) (pa_c pd_int pa_n))) pa_n))))))
  (ss_cons
  (ss_drop (md_app (K := K) (pd_var 8) (pa_c (pd_int1 T.b_int (pa_c (pd_eq (K := K) hr.units (pd_cal C__law_draw hG hr (by decide) (pa_c (pd_var 0) (pa_c pd_int pa_n))) pd_int) pa_n)) pa_n)))
  (ss_one (ss_if (PDW.pt (pw_a (pt_ne (K := K) hr.units (pd_var 7) (pd_var 5)) (pw_a1 (pt_eq (K := K) hr.units (pd_ix (K := K) (pd_var 8) (pd_var 3)) pd_int))))
  (ss_one (ss_drop (md_app (K := K) (pd_var 6) (pa_c (pd_var 7) pa_n))))
  ss_nil)))))
  (ss_one (ss_drop (md_app (K := K) (pd_var 4) (pa_c (pd_close (pd_var 6)) pa_n)))))))
  (ss_one (ss_ret (pd_close (pd_var 4)))))))⟩
abbrev s__law_stroll : Stmt := PySem.Challenge.pw_breadcrumbs_k02_walks_and_trails_of_site.main.body.getD 19 (.Pass ⟨0, 0, 0, 0⟩)
theorem sc__law_stroll : FnScope N__law_stroll ["_law_source_here", "_law_net_here", "_law_most"] (defScope s__law_stroll) := ⟨rfl, rfl, rfl, by decide +kernel, rfl, by decide +kernel, by decide +kernel⟩
theorem c__law_stroll {fa : Addr} (F : ∃ fd, FunD K "_law_stroll" "_law_stroll" (defArgs s__law_stroll) (defBody s__law_stroll) (defScope s__law_stroll) [] [] fa fd) (hm : mg "_law_stroll" = some (.ref fa)) (T : Txt mg) (C__law_draw : Cal P w K mg base "_law_draw" 1 ["_law_source_here", "_law_count"] sp__law_draw) (hd : Does b__law_stroll N__law_stroll sp__law_stroll) (hlen : ∀ r ds Q, sp__law_stroll r ds Q → ds.length = 3) :
    Cal P w K mg base "_law_stroll" 2 ["_law_source_here", "_law_net_here", "_law_most"] sp__law_stroll := by
  exact cal_of (k := 1) F hm sc__law_stroll hlen hd (fun _ _ _ _ _ _ us hl => match us, hl with | [_, _, _], _ => rfl) fun cdv A outer s H E hG hr => ⟨_, (ss_cons
  (ss_set (i := 3) sc__law_stroll.nd (pd_lst true (pa_c (pd_cal C__law_draw hG hr (by decide) (pa_c (pd_var 0) (pa_c (pd_len (K := K) T.b_len (pa_c (pd_var 1) pa_n)) pa_n))) pa_n)))
  (ss_cons
  (ss_for PassesOwn.never rfl (di_range1 T.b_range (pa_c (pd_sub (pd_var 2) pd_int) pa_n)) (tg_name sc__law_stroll.nd)
  (ss_cons
  (ss_set (i := 5) sc__law_stroll.nd (pd_ix (K := K) (pd_var 1) (pd_ix (K := K) (pd_var 3) (pd_neg pd_int))))
  (ss_one (ss_if (pt_ne (K := K) hr.units (pd_var 5) (pd_lst false pa_n))
  (ss_one (ss_drop (md_app (K := K) (pd_var 3) (pa_c (pd_ix (K := K) (pd_var 5) (pd_cal C__law_draw hG hr (by decide) (pa_c (pd_var 0) (pa_c (pd_len (K := K) T.b_len (pa_c (pd_var 5) pa_n)) pa_n)))) pa_n))))
  ss_nil))))
  (ss_one (ss_ret (pd_slice (K := K) false (pd_var 3) pdo_none (pdo_some (pd_var 2)))))))⟩
abbrev s__law_trail : Stmt := PySem.Challenge.pw_breadcrumbs_k02_walks_and_trails_of_site.main.body.getD 20 (.Pass ⟨0, 0, 0, 0⟩)
theorem sc__law_trail : FnScope N__law_trail ["_law_row"] (defScope s__law_trail) := ⟨rfl, rfl, rfl, by decide +kernel, rfl, by decide +kernel, by decide +kernel⟩
theorem c__law_trail {fa : Addr} (F : ∃ fd, FunD K "_law_trail" "_law_trail" (defArgs s__law_trail) (defBody s__law_trail) (defScope s__law_trail) [] [] fa fd) (hm : mg "_law_trail" = some (.ref fa)) (T : Txt mg)  (hd : Does b__law_trail N__law_trail sp__law_trail) (hlen : ∀ r ds Q, sp__law_trail r ds Q → ds.length = 1) :
    Cal P w K mg base "_law_trail" 1 ["_law_row"] sp__law_trail := by
  exact cal_of (k := 0) F hm sc__law_trail hlen hd (fun _ _ _ _ _ _ us hl => match us, hl with | [_], _ => rfl) fun cdv A outer s H E hG hr => ⟨_, (ss_cons
  (ss_set (i := 1) sc__law_trail.nd (pd_lst false pa_n))
  (ss_cons
  (ss_for PassesOwn.never rfl (di_list (K := K) (pd_var 0)) (tg_name sc__law_trail.nd)
  (ss_one (ss_set (i := 1) sc__law_trail.nd (pd_if (pt_in (K := K) (pd_var 2) (pd_var 1)) (pd_slice (K := K) false (pd_var 1) pdo_none (pdo_some (pd_add (K := K) false (md_index (K := K) (pd_var 1) (pa_c (pd_var 2) pa_n)) pd_int))) (pd_add (K := K) false (pd_var 1) (pd_lst false (pa_c (pd_var 2) pa_n)))))))
  (ss_one (ss_ret (pd_var 1)))))⟩
abbrev s__law_linked : Stmt := PySem.Challenge.pw_breadcrumbs_k02_walks_and_trails_of_site.main.body.getD 21 (.Pass ⟨0, 0, 0, 0⟩)
theorem sc__law_linked : FnScope N__law_linked ["_law_net_here", "_law_value"] (defScope s__law_linked) := ⟨rfl, rfl, rfl, by decide +kernel, rfl, by decide +kernel, by decide +kernel⟩
theorem c__law_linked {fa : Addr} (F : ∃ fd, FunD K "_law_linked" "_law_linked" (defArgs s__law_linked) (defBody s__law_linked) (defScope s__law_linked) [] [] fa fd) (hm : mg "_law_linked" = some (.ref fa)) (T : Txt mg)  (hd : Does b__law_linked N__law_linked sp__law_linked) (hlen : ∀ r ds Q, sp__law_linked r ds Q → ds.length = 2) :
    Cal P w K mg base "_law_linked" 1 ["_law_net_here", "_law_value"] sp__law_linked := by
  exact cal_of (k := 0) F hm sc__law_linked hlen hd (fun _ _ _ _ _ _ us hl => match us, hl with | [_, _], _ => rfl) fun cdv A outer s H E hG hr => ⟨_, (ss_cons
  (ss_if (PDW.pt (pw_o (pt_n (pt_v (pd_isi (K := K) T.b_isinstance (pa_c (pd_var 1) (pa_c (pd_gty T.b_list) pa_n))))) (pw_o1 (pt_eq (K := K) hr.units (pd_var 1) (pd_lst false pa_n)))))
  (ss_one (ss_ret pd_bl))
  ss_nil)
  (ss_cons
  (ss_for PassesOwn.never rfl (di_list (K := K) (pd_var 1)) (tg_name sc__law_linked.nd)
  (ss_one (ss_if (PDW.pt (pw_o (pt_v (pd_isi (K := K) T.b_isinstance (pa_c (pd_var 2) (pa_c (pd_gty T.b_bool) pa_n)))) (pw_o (pt_n (pt_v (pd_isi (K := K) T.b_isinstance (pa_c (pd_var 2) (pa_c (pd_gty T.b_int) pa_n))))) (pw_o (pt_lt (pd_var 2) pd_int) (pw_o1 (pt_ge (pd_var 2) (pd_len (K := K) T.b_len (pa_c (pd_var 0) pa_n))))))))
  (ss_one (ss_ret pd_bl))
  ss_nil)))
  (ss_one (ss_ret (pd_eq (K := K) hr.units (pd_lc false rfl sc__law_linked.nd (di_zip (K := K) T.b_zip (pa_c (pd_var 1) (pa_c (pd_slice (K := K) false (pd_var 1) (pdo_some pd_int) pdo_none) pa_n)) rfl (pi_zip rfl T.b_zip (PDA.pa (pa_c (pd_var 1) (pa_c (pd_slice (K := K) false (pd_var 1) (pdo_some pd_int) pdo_none) pa_n))))) (blkOk_by (N := N__law_linked) (sc := defScope s__law_linked) (own := [(("_law_spot" : Str), 2), (("_law_other" : Str), 3)]) (by decide +kernel)) (fun _ _ _ _ _ => (tg_tup (K := K) rfl (tg_cons (tg_name sc__law_linked.nd) (tg_cons (tg_name sc__law_linked.nd) tg_nil)))) (fun _ _ _ _ _ => (pts_o (pt_nin (K := K) (pd_var 3) (pd_ix (K := K) (pd_var 0) (pd_var 2))))) (fun _ _ _ _ _ => (pd_var 2))) (pd_lst false pa_n))))))⟩
abbrev s__law_changed : Stmt := PySem.Challenge.pw_breadcrumbs_k02_walks_and_trails_of_site.main.body.getD 22 (.Pass ⟨0, 0, 0, 0⟩)
theorem sc__law_changed : FnScope N__law_changed ["_law_source_here", "_law_net_here", "_law_row"] (defScope s__law_changed) := ⟨rfl, rfl, rfl, by decide +kernel, rfl, by decide +kernel, by decide +kernel⟩
theorem c__law_changed {fa : Addr} (F : ∃ fd, FunD K "_law_changed" "_law_changed" (defArgs s__law_changed) (defBody s__law_changed) (defScope s__law_changed) [] [] fa fd) (hm : mg "_law_changed" = some (.ref fa)) (T : Txt mg) (C__law_draw : Cal P w K mg base "_law_draw" 1 ["_law_source_here", "_law_count"] sp__law_draw) (hd : Does b__law_changed N__law_changed sp__law_changed) (hlen : ∀ r ds Q, sp__law_changed r ds Q → ds.length = 3) :
    Cal P w K mg base "_law_changed" 2 ["_law_source_here", "_law_net_here", "_law_row"] sp__law_changed := by
  exact cal_of (k := 1) F hm sc__law_changed hlen hd (fun _ _ _ _ _ _ us hl => match us, hl with | [_, _, _], _ => rfl) fun cdv A outer s H E hG hr => ⟨_, (ss_cons
  (ss_par (i := 3) (j := 4) sc__law_changed.nd (pa_c (pd_cal C__law_draw hG hr (by decide) (pa_c (pd_var 0) (pa_c (pd_len (K := K) T.b_len (pa_c (pd_var 2) pa_n)) pa_n))) (pa_c (pd_len (K := K) T.b_len (pa_c (pd_var 1) pa_n)) pa_n)) (by rfl))
  (ss_cons
  (ss_set (i := 5) sc__law_changed.nd (pd_lst false (pa_c (pd_var 4) (pa_c (pd_add (K := K) false (pd_var 4) pd_int) (pa_c (pd_neg pd_int) (pa_c (pd_neg pd_int) (pa_c (pd_sub pd_int (pd_var 4)) (pa_c pd_bl (pa_c pd_bl (pa_c pd_non (pa_c pd_str (pa_c (pd_lst false (pa_c pd_int pa_n)) (pa_c (pd_pow pd_int pd_int) (pa_c (pd_ix (K := K) (pd_var 2) (pd_var 3)) (pa_c (pd_cal C__law_draw hG hr (by decide) (pa_c (pd_var 0) (pa_c (pd_var 4) pa_n))) pa_n)))))))))))))))
  (ss_cons
  (ss_set (i := 6) sc__law_changed.nd (pd_ix (K := K) (pd_var 5) (pd_cal C__law_draw hG hr (by decide) (pa_c (pd_var 0) (pa_c pd_int pa_n)))))
  (ss_cons
  (ss_set (i := 7) sc__law_changed.nd (pd_lst false (pa_c (pd_add (K := K) false (pd_add (K := K) false (pd_slice (K := K) false (pd_var 2) pdo_none (pdo_some (pd_var 3))) (pd_lst false (pa_c (pd_var 6) pa_n))) (pd_slice (K := K) false (pd_var 2) (pdo_some (pd_add (K := K) false (pd_var 3) pd_int)) pdo_none)) (pa_c (pd_add (K := K) false (pd_add (K := K) false (pd_slice (K := K) false (pd_var 2) pdo_none (pdo_some (pd_var 3))) (pd_lst false (pa_c (pd_var 6) pa_n))) (pd_slice (K := K) false (pd_var 2) (pdo_some (pd_var 3)) pdo_none)) (pa_c (pd_add (K := K) false (pd_slice (K := K) false (pd_var 2) pdo_none (pdo_some (pd_var 3))) (pd_slice (K := K) false (pd_var 2) (pdo_some (pd_add (K := K) false (pd_var 3) pd_int)) pdo_none)) (pa_c (pd_rev (K := K) false (pd_var 2)) pa_n))))))
  (ss_cons
  (ss_set (i := 7) sc__law_changed.nd (pd_add (K := K) false (pd_var 7) (pd_lst false (pa_c (pd_tuple (K := K) T.b_tuple (pa_c (pd_var 2) pa_n)) (pa_c (pd_lst false pa_n) (pa_c pd_non (pa_c pd_int (pa_c pd_str (pa_c pd_d0 (pa_c (pd_lst false (pa_c (pd_var 2) pa_n)) (pa_c (pd_slice (K := K) false (pd_mul false (pd_var 2) pd_int) pdo_none (pdo_some pd_int)) (pa_c pd_bl pa_n))))))))))))
  (ss_one (ss_ret (pd_ix (K := K) (pd_var 7) (pd_ix (K := K) (pd_lst false (pa_c pd_int (pa_c pd_int (pa_c pd_int (pa_c (pd_cal C__law_draw hG hr (by decide) (pa_c (pd_var 0) (pa_c pd_int pa_n))) pa_n))))) (pd_cal C__law_draw hG hr (by decide) (pa_c (pd_var 0) (pa_c pd_int pa_n))))))))))))⟩
abbrev s__law_holds : Stmt := PySem.Challenge.pw_breadcrumbs_k02_walks_and_trails_of_site.main.body.getD 23 (.Pass ⟨0, 0, 0, 0⟩)
theorem sc__law_holds : FnScope N__law_holds ["_law_source_here", "_law_most"] (defScope s__law_holds) := ⟨rfl, rfl, rfl, by decide +kernel, rfl, by decide +kernel, by decide +kernel⟩
theorem c__law_holds {fa : Addr} (F : ∃ fd, FunD K "_law_holds" "_law_holds" (defArgs s__law_holds) (defBody s__law_holds) (defScope s__law_holds) [] [] fa fd) (hm : mg "_law_holds" = some (.ref fa)) (T : Txt mg) (C__law_changed : Cal P w K mg base "_law_changed" 2 ["_law_source_here", "_law_net_here", "_law_row"] sp__law_changed) (C__law_draw : Cal P w K mg base "_law_draw" 1 ["_law_source_here", "_law_count"] sp__law_draw) (C__law_linked : Cal P w K mg base "_law_linked" 1 ["_law_net_here", "_law_value"] sp__law_linked) (C__law_net : Cal P w K mg base "_law_net" 2 ["_law_source_here", "_law_most"] sp__law_net) (C__law_stroll : Cal P w K mg base "_law_stroll" 2 ["_law_source_here", "_law_net_here", "_law_most"] sp__law_stroll) (C__law_trail : Cal P w K mg base "_law_trail" 1 ["_law_row"] sp__law_trail) (C_is_trail_of : Cal P w K mg base "is_trail_of" 5 ["site", "value"] sp_is_trail_of) (C_is_walk : Cal P w K mg base "is_walk" 5 ["site", "value"] sp_is_walk) (hd : Does b__law_holds N__law_holds sp__law_holds) (hlen : ∀ r ds Q, sp__law_holds r ds Q → ds.length = 2) :
    Cal P w K mg base "_law_holds" 6 ["_law_source_here", "_law_most"] sp__law_holds := by
  exact cal_of (k := 5) F hm sc__law_holds hlen hd (fun _ _ _ _ _ _ us hl => match us, hl with | [_, _], _ => rfl) fun cdv A outer s H E hG hr => ⟨_, (ss_cons
  (ss_set (i := 2) sc__law_holds.nd (pd_cal C__law_net hG hr (by decide) (pa_c (pd_var 0) (pa_c (pd_var 1) pa_n))))
  (ss_cons
  (ss_for PassesOwn.never rfl (di_range1 T.b_range (pa_c pd_int pa_n)) (tg_name sc__law_holds.nd)
  (ss_cons
  (ss_set (i := 4) sc__law_holds.nd (pd_cal C__law_stroll hG hr (by decide) (pa_c (pd_var 0) (pa_c (pd_var 2) (pa_c (pd_ix (K := K) (pd_lst false (pa_c (pd_add (K := K) false pd_int (pd_cal C__law_draw hG hr (by decide) (pa_c (pd_var 0) (pa_c pd_int pa_n)))) (pa_c pd_int (pa_c pd_int pa_n)))) (pd_cal C__law_draw hG hr (by decide) (pa_c (pd_var 0) (pa_c pd_int pa_n)))) pa_n)))))
  (ss_cons
  (ss_set (i := 5) sc__law_holds.nd (pd_cal C__law_trail hG hr (by decide) (pa_c (pd_var 4) pa_n)))
  (ss_one (ss_for PassesOwn.never rfl (di_list (K := K) (pd_lst false (pa_c (pd_var 4) (pa_c (pd_var 5) (pa_c (pd_cal C__law_changed hG hr (by decide) (pa_c (pd_var 0) (pa_c (pd_var 2) (pa_c (pd_var 4) pa_n)))) (pa_c (pd_cal C__law_changed hG hr (by decide) (pa_c (pd_var 0) (pa_c (pd_var 2) (pa_c (pd_var 5) pa_n)))) pa_n)))))) (tg_name sc__law_holds.nd)
  (ss_cons
  (ss_par (i := 7) (j := 8) sc__law_holds.nd (pa_c (pd_reprX (w := w) (P := P) hG hr.units T.b_repr (pa_c (pd_lst false (pa_c (pd_var 2) (pa_c (pd_var 6) pa_n))) pa_n)) (pa_c (pd_cal C__law_linked hG hr (by decide) (pa_c (pd_var 2) (pa_c (pd_var 6) pa_n))) pa_n)) (by rfl))
  (ss_cons
  (ss_set (i := 9) sc__law_holds.nd (pd_lst false (pa_c (pd_cal C_is_walk hG hr (by decide) (pa_c (pd_var 2) (pa_c (pd_var 6) pa_n))) (pa_c (pd_cal C_is_trail_of hG hr (by decide) (pa_c (pd_var 2) (pa_c (pd_var 6) pa_n))) pa_n))))
  (ss_cons
  (ss_set (i := 10) sc__law_holds.nd (pd_and (pd_var 8) (pd_one (pd_eq (K := K) hr.units (pd_len (K := K) T.b_len (pa_c (pd_sortset (K := K) (w := w) false rfl T.b_sorted T.b_set (pa_c (pd_var 6) pa_n)) pa_n)) (pd_len (K := K) T.b_len (pa_c (pd_var 6) pa_n))))))
  (ss_one (ss_if (PDW.pt (pw_o (pt_neS (K := K) hr.units (pd_reprX (w := w) (P := P) hG hr.units T.b_repr (pa_c (pd_var 9) pa_n)) (pd_reprX (w := w) (P := P) hG hr.units T.b_repr (pa_c (pd_lst false (pa_c (pd_and (pd_var 8) (pd_one (pd_le (pd_len (K := K) T.b_len (pa_c (pd_var 6) pa_n)) pd_int))) (pa_c (pd_var 10) pa_n))) pa_n))) (pw_o1 (pt_neS (K := K) hr.units (pd_reprX (w := w) (P := P) hG hr.units T.b_repr (pa_c (pd_lst false (pa_c (pd_var 2) (pa_c (pd_var 6) pa_n))) pa_n)) (pd_var 7)))))
  (ss_one (ss_ret pd_bl))
  ss_nil))))))))))
  (ss_cons
  (ss_set (i := 11) sc__law_holds.nd (pd_lst false (pa_c (pd_lst false (pa_c pd_int pa_n)) (pa_c (pd_lst false (pa_c pd_int pa_n)) pa_n))))
  (ss_cons
  (ss_set (i := 9) sc__law_holds.nd (pd_lst false (pa_c (pd_cal C_is_walk hG hr (by decide) (pa_c (pd_var 11) (pa_c (pd_add (K := K) false (pd_mul false (pd_lst false (pa_c pd_int (pa_c pd_int pa_n))) pd_int) (pd_lst false (pa_c pd_int pa_n))) pa_n))) (pa_c (pd_cal C_is_walk hG hr (by decide) (pa_c (pd_var 11) (pa_c (pd_mul false (pd_lst false (pa_c pd_int (pa_c pd_int pa_n))) pd_int) pa_n))) (pa_c (pd_cal C_is_trail_of hG hr (by decide) (pa_c (pd_var 11) (pa_c (pd_lst false (pa_c pd_int (pa_c pd_int pa_n))) pa_n))) (pa_c (pd_cal C_is_walk hG hr (by decide) (pa_c (pd_lst false (pa_c (pd_lst false pa_n) pa_n)) (pa_c (pd_lst false (pa_c pd_int pa_n)) pa_n))) pa_n))))))
  (ss_one (ss_ret (pd_eq (K := K) hr.units (pd_var 9) (pd_lst false (pa_c pd_bl (pa_c pd_bl (pa_c pd_bl (pa_c pd_bl pa_n))))))))))))⟩
abbrev s_law : Stmt := PySem.Challenge.pw_breadcrumbs_k02_walks_and_trails_of_site.main.body.getD 24 (.Pass ⟨0, 0, 0, 0⟩)
theorem sc_law : FnScope N_law ["_law_script"] (defScope s_law) := ⟨rfl, rfl, rfl, by decide +kernel, rfl, by decide +kernel, by decide +kernel⟩
theorem c_law {fa : Addr} (F : ∃ fd, FunD K "law" "law" (defArgs s_law) (defBody s_law) (defScope s_law) [] [] fa fd) (hm : mg "law" = some (.ref fa)) (T : Txt mg) (C__law_holds : Cal P w K mg base "_law_holds" 6 ["_law_source_here", "_law_most"] sp__law_holds) (C__law_source : Cal P w K mg base "_law_source" 1 ["_law_cell", "_law_k"] sp__law_source) (hd : Does b_law N_law sp_law) (hlen : ∀ r ds Q, sp_law r ds Q → ds.length = 1) :
    Cal P w K mg base "law" 7 ["_law_script"] sp_law := by
  exact cal_of (k := 6) F hm sc_law hlen hd (fun _ _ _ _ _ _ us hl => match us, hl with | [_], _ => rfl) fun cdv A outer s H E hG hr => ⟨_, (ss_cons
  (ss_for PassesOwn.never rfl (di_enum (K := K) T.b_enumerate (pa_c (pd_slice (K := K) false (pd_add (K := K) false (pd_var 0) (pd_lst false (pa_c pd_int pa_n))) pdo_none (pdo_some (pd_max2 rfl T.b_max (pa_c pd_int (pa_c (pd_min2 rfl T.b_min (pa_c (pd_len (K := K) T.b_len (pa_c (pd_var 0) pa_n)) (pa_c pd_int pa_n))) pa_n))))) pa_n)) (tg_tup (K := K) rfl (tg_cons (tg_name sc_law.nd) (tg_cons (tg_name sc_law.nd) tg_nil)))
  (ss_one (ss_if (pt_n (pt_v (pd_cal C__law_holds hG hr (by decide) (pa_c (pd_cal C__law_source hG hr (by decide) (pa_c (pd_var 2) (pa_c (pd_var 1) pa_n))) (pa_c (pd_if (pt_eq (K := K) hr.units (pd_var 0) (pd_lst false pa_n)) pd_int pd_int) pa_n)))))
  (ss_one (ss_ret pd_bl))
  ss_nil)))
  (ss_one (ss_ret pd_bl)))⟩
theorem f_law {fa : Addr} {fd : FuncData} (F : FunD K "law" "law" (defArgs s_law) (defBody s_law) (defScope s_law) [] [] fa fd) (T : Txt mg) (C__law_holds : Cal P w K mg base "_law_holds" 6 ["_law_source_here", "_law_most"] sp__law_holds) (C__law_source : Cal P w K mg base "_law_source" 1 ["_law_cell", "_law_k"] sp__law_source) (hd : Does b_law N_law sp_law) (hlen : ∀ r ds Q, sp_law r ds Q → ds.length = 1) :
    FnD P w K mg base 7 fa fd ["_law_script"] sp_law := by
  exact dD_of (k := 6) F sc_law hlen hd fun cdv A outer s H E hG hr => ⟨_, (ss_cons
  (ss_for PassesOwn.never rfl (di_enum (K := K) T.b_enumerate (pa_c (pd_slice (K := K) false (pd_add (K := K) false (pd_var 0) (pd_lst false (pa_c pd_int pa_n))) pdo_none (pdo_some (pd_max2 rfl T.b_max (pa_c pd_int (pa_c (pd_min2 rfl T.b_min (pa_c (pd_len (K := K) T.b_len (pa_c (pd_var 0) pa_n)) (pa_c pd_int pa_n))) pa_n))))) pa_n)) (tg_tup (K := K) rfl (tg_cons (tg_name sc_law.nd) (tg_cons (tg_name sc_law.nd) tg_nil)))
  (ss_one (ss_if (pt_n (pt_v (pd_cal C__law_holds hG hr (by decide) (pa_c (pd_cal C__law_source hG hr (by decide) (pa_c (pd_var 2) (pa_c (pd_var 1) pa_n))) (pa_c (pd_if (pt_eq (K := K) hr.units (pd_var 0) (pd_lst false pa_n)) pd_int pd_int) pa_n)))))
  (ss_one (ss_ret pd_bl))
  ss_nil)))
  (ss_one (ss_ret pd_bl)))⟩
end
end K02

set_option Elab.async false
set_option linter.all false
set_option maxRecDepth 100000
set_option maxHeartbeats 0
namespace K02
open PySem PySem.Spec PyProof.Rows L2 DL CM
def df_is_integer : He.DefD := ⟨("is_integer", none), "is_integer", "is_integer", defArgs s_is_integer, defBody s_is_integer, defScope s_is_integer, [], []⟩
def df_is_row : He.DefD := ⟨("is_row", none), "is_row", "is_row", defArgs s_is_row, defBody s_is_row, defScope s_is_row, [], []⟩
def df_is_site : He.DefD := ⟨("is_site", none), "is_site", "is_site", defArgs s_is_site, defBody s_is_site, defScope s_is_site, [], []⟩
def df_check_site : He.DefD := ⟨("check_site", none), "check_site", "check_site", defArgs s_check_site, defBody s_check_site, defScope s_check_site, [], []⟩
def df_is_linked_on : He.DefD := ⟨("is_linked_on", none), "is_linked_on", "is_linked_on", defArgs s_is_linked_on, defBody s_is_linked_on, defScope s_is_linked_on, [], []⟩
def df_is_walk_on : He.DefD := ⟨("is_walk_on", none), "is_walk_on", "is_walk_on", defArgs s_is_walk_on, defBody s_is_walk_on, defScope s_is_walk_on, [], []⟩
def df_is_trail_on : He.DefD := ⟨("is_trail_on", none), "is_trail_on", "is_trail_on", defArgs s_is_trail_on, defBody s_is_trail_on, defScope s_is_trail_on, [], []⟩
def df_is_walk : He.DefD := ⟨("is_walk", none), "is_walk", "is_walk", defArgs s_is_walk, defBody s_is_walk, defScope s_is_walk, [], []⟩
def df_is_trail_of : He.DefD := ⟨("is_trail_of", none), "is_trail_of", "is_trail_of", defArgs s_is_trail_of, defBody s_is_trail_of, defScope s_is_trail_of, [], []⟩
def df__law_source : He.DefD := ⟨("_law_source", none), "_law_source", "_law_source", defArgs s__law_source, defBody s__law_source, defScope s__law_source, [], []⟩
def df__law_draw : He.DefD := ⟨("_law_draw", none), "_law_draw", "_law_draw", defArgs s__law_draw, defBody s__law_draw, defScope s__law_draw, [], []⟩
def df__law_net : He.DefD := ⟨("_law_net", none), "_law_net", "_law_net", defArgs s__law_net, defBody s__law_net, defScope s__law_net, [], []⟩
def df__law_stroll : He.DefD := ⟨("_law_stroll", none), "_law_stroll", "_law_stroll", defArgs s__law_stroll, defBody s__law_stroll, defScope s__law_stroll, [], []⟩
def df__law_trail : He.DefD := ⟨("_law_trail", none), "_law_trail", "_law_trail", defArgs s__law_trail, defBody s__law_trail, defScope s__law_trail, [], []⟩
def df__law_linked : He.DefD := ⟨("_law_linked", none), "_law_linked", "_law_linked", defArgs s__law_linked, defBody s__law_linked, defScope s__law_linked, [], []⟩
def df__law_changed : He.DefD := ⟨("_law_changed", none), "_law_changed", "_law_changed", defArgs s__law_changed, defBody s__law_changed, defScope s__law_changed, [], []⟩
def df__law_holds : He.DefD := ⟨("_law_holds", none), "_law_holds", "_law_holds", defArgs s__law_holds, defBody s__law_holds, defScope s__law_holds, [], []⟩
def df_law : He.DefD := ⟨("law", none), "law", "law", defArgs s_law, defBody s_law, defScope s_law, [], []⟩
def hfn : List He.DefD := [df_is_integer, df_is_row, df_is_site, df_check_site, df_is_linked_on, df_is_walk_on, df_is_trail_on, df_is_walk, df_is_trail_of, df__law_source, df__law_draw, df__law_net, df__law_stroll, df__law_trail, df__law_linked, df__law_changed, df__law_holds, df_law]
def hfa : List He.Fa := [.glo "is_integer", .glo "is_row", .glo "is_site", .glo "check_site", .glo "is_linked_on", .glo "is_walk_on", .glo "is_trail_on", .glo "is_walk", .glo "is_trail_of", .glo "_law_source", .glo "_law_draw", .glo "_law_net", .glo "_law_stroll", .glo "_law_trail", .glo "_law_linked", .glo "_law_changed", .glo "_law_holds", .glo "law", .free "abs", .free "all", .free "bool", .free "enumerate", .free "int", .free "isinstance", .free "len", .free "list", .free "max", .free "min", .free "range", .free "repr", .free "set", .free "sorted", .free "tuple", .free "zip", .int "MOST_PAGES" (12), .int "MOST_STEPS" (60)]
abbrev hR : PySem.W.OpenRow := PySem.W.OpenLaw.row PySem.Challenge.rw_breadcrumbs_k02_walks_and_trails_of_site
abbrev hk : PySem.W.Hook := hookN 4 hfa hfn
def hob (s : PySem.W.SharedT) : AlN := obsN 4 hfa hfn (HandSHeadRun.getT s)
theorem hob_eq (s : PySem.W.SharedT) : hob s = hk.obs s.abs := obsN_eq (HandSHeadRun.getT_eq s)
def loose1 : List PySem.Str := ["BreadcrumbsError", "InvalidSiteError", "MOST_PAGES", "MOST_STEPS", "is_integer", "is_row", "is_site", "check_site", "is_linked_on", "is_walk_on", "is_trail_on", "is_walk", "is_trail_of", "_law_source", "_law_draw", "_law_net", "_law_stroll", "_law_trail", "_law_linked", "_law_changed", "_law_holds"]
def loose2 : List PySem.Str := []
theorem hrun (w : World) : HandSHeadRun.RunEq hR (PySem.W.view hR.prog [24]) hk hob 4000 (loose1 ++ loose2) w := by
  intro os
  kernel_rfl
theorem hlen_is_integer : ∀ r ds Q, sp_is_integer r ds Q → ds.length = 3 := by
  intro r ds Q h
  repeat' (obtain ⟨_, h⟩ := h)
  all_goals (subst_vars; rfl)
theorem hlen_is_row : ∀ r ds Q, sp_is_row r ds Q → ds.length = 3 := by
  intro r ds Q h
  repeat' (obtain ⟨_, h⟩ := h)
  all_goals (subst_vars; rfl)
theorem hlen_is_site : ∀ r ds Q, sp_is_site r ds Q → ds.length = 1 := by
  intro r ds Q h
  repeat' (obtain ⟨_, h⟩ := h)
  all_goals (subst_vars; rfl)
theorem hlen_check_site : ∀ r ds Q, sp_check_site r ds Q → ds.length = 1 := by
  intro r ds Q h
  repeat' (obtain ⟨_, h⟩ := h)
  all_goals (subst_vars; rfl)
theorem hlen_is_linked_on : ∀ r ds Q, sp_is_linked_on r ds Q → ds.length = 2 := by
  intro r ds Q h
  repeat' (obtain ⟨_, h⟩ := h)
  all_goals (subst_vars; rfl)
theorem hlen_is_walk_on : ∀ r ds Q, sp_is_walk_on r ds Q → ds.length = 2 := by
  intro r ds Q h
  repeat' (obtain ⟨_, h⟩ := h)
  all_goals (subst_vars; rfl)
theorem hlen_is_trail_on : ∀ r ds Q, sp_is_trail_on r ds Q → ds.length = 2 := by
  intro r ds Q h
  repeat' (obtain ⟨_, h⟩ := h)
  all_goals (subst_vars; rfl)
theorem hlen_is_walk : ∀ r ds Q, sp_is_walk r ds Q → ds.length = 2 := by
  intro r ds Q h
  repeat' (obtain ⟨_, h⟩ := h)
  all_goals (subst_vars; rfl)
theorem hlen_is_trail_of : ∀ r ds Q, sp_is_trail_of r ds Q → ds.length = 2 := by
  intro r ds Q h
  repeat' (obtain ⟨_, h⟩ := h)
  all_goals (subst_vars; rfl)
theorem hlen__law_source : ∀ r ds Q, sp__law_source r ds Q → ds.length = 2 := by
  intro r ds Q h
  repeat' (obtain ⟨_, h⟩ := h)
  all_goals (subst_vars; rfl)
theorem hlen__law_draw : ∀ r ds Q, sp__law_draw r ds Q → ds.length = 2 := by
  intro r ds Q h
  repeat' (obtain ⟨_, h⟩ := h)
  all_goals (subst_vars; rfl)
theorem hlen__law_net : ∀ r ds Q, sp__law_net r ds Q → ds.length = 2 := by
  intro r ds Q h
  repeat' (obtain ⟨_, h⟩ := h)
  all_goals (subst_vars; rfl)
theorem hlen__law_stroll : ∀ r ds Q, sp__law_stroll r ds Q → ds.length = 3 := by
  intro r ds Q h
  repeat' (obtain ⟨_, h⟩ := h)
  all_goals (subst_vars; rfl)
theorem hlen__law_trail : ∀ r ds Q, sp__law_trail r ds Q → ds.length = 1 := by
  intro r ds Q h
  repeat' (obtain ⟨_, h⟩ := h)
  all_goals (subst_vars; rfl)
theorem hlen__law_linked : ∀ r ds Q, sp__law_linked r ds Q → ds.length = 2 := by
  intro r ds Q h
  repeat' (obtain ⟨_, h⟩ := h)
  all_goals (subst_vars; rfl)
theorem hlen__law_changed : ∀ r ds Q, sp__law_changed r ds Q → ds.length = 3 := by
  intro r ds Q h
  repeat' (obtain ⟨_, h⟩ := h)
  all_goals (subst_vars; rfl)
theorem hlen__law_holds : ∀ r ds Q, sp__law_holds r ds Q → ds.length = 2 := by
  intro r ds Q h
  repeat' (obtain ⟨_, h⟩ := h)
  all_goals (subst_vars; rfl)
theorem hlen_law : ∀ r ds Q, sp_law r ds Q → ds.length = 1 := by
  intro r ds Q h
  repeat' (obtain ⟨_, h⟩ := h)
  all_goals (subst_vars; rfl)
theorem hfacts {P : Program} {w : World} {K : PySem.W.Frag} {h : Heap} {mg : Str → Option Value} {f : Addr} (X : K.In h) (G : h.Ns mainGlobals mg) (hfa0 : mg ("law" : Str) = some (.ref f)) (c : He.SaysD hfa hfn K) :
    ∃ fd : FuncData, (∀ (s : Shared) (v : Value), BindsTo s fd ⟨[v], []⟩ [("_law_script", v)]) ∧ ∀ base : Heap, K.In base → base.Ns mainGlobals mg → FnD P w K mg base 7 f fd ["_law_script"] sp_law := by
  have T : Txt mg := ⟨He.free_ok X G (c.fact 18 rfl), He.free_ok X G (c.fact 19 rfl), He.free_ok X G (c.fact 20 rfl), He.free_ok X G (c.fact 21 rfl), He.free_ok X G (c.fact 22 rfl), He.free_ok X G (c.fact 23 rfl), He.free_ok X G (c.fact 24 rfl), He.free_ok X G (c.fact 25 rfl), He.free_ok X G (c.fact 26 rfl), He.free_ok X G (c.fact 27 rfl), He.free_ok X G (c.fact 28 rfl), He.free_ok X G (c.fact 29 rfl), He.free_ok X G (c.fact 30 rfl), He.free_ok X G (c.fact 31 rfl), He.free_ok X G (c.fact 32 rfl), He.free_ok X G (c.fact 33 rfl), He.int_ok X G (c.fact 34 rfl), He.int_ok X G (c.fact 35 rfl)⟩
  obtain ⟨fd, F⟩ := c.def_ 17 (d := df_law) rfl
  have e := hfa0.symm.trans (He.glo_ok X G (c.fact 17 (f := .glo "law") rfl))
  cases e
  have b := FunD.bindsA (ps := ["_law_script"]) F fun _ _ _ _ _ _ us hl => match us, hl with | [_], _ => rfl
  refine ⟨fd, fun s v => b s [v] rfl, fun base hb hn => ?_⟩
  have C_is_integer : Cal P w K mg base "is_integer" 1 ["value", "least", "most"] sp_is_integer := c_is_integer (c.def_ 0 (d := df_is_integer) rfl) (He.glo_ok X G (c.fact 0 (f := .glo "is_integer") rfl)) T  d_is_integer hlen_is_integer
  have C_is_row : Cal P w K mg base "is_row" 2 ["value", "page", "many"] sp_is_row := c_is_row (c.def_ 1 (d := df_is_row) rfl) (He.glo_ok X G (c.fact 1 (f := .glo "is_row") rfl)) T C_is_integer d_is_row hlen_is_row
  have C_is_site : Cal P w K mg base "is_site" 3 ["value"] sp_is_site := c_is_site (c.def_ 2 (d := df_is_site) rfl) (He.glo_ok X G (c.fact 2 (f := .glo "is_site") rfl)) T C_is_row d_is_site hlen_is_site
  have C_check_site : Cal P w K mg base "check_site" 4 ["site"] sp_check_site := c_check_site (c.def_ 3 (d := df_check_site) rfl) (He.glo_ok X G (c.fact 3 (f := .glo "check_site") rfl)) T C_is_site d_check_site hlen_check_site
  have C_is_linked_on : Cal P w K mg base "is_linked_on" 2 ["site", "value"] sp_is_linked_on := c_is_linked_on (c.def_ 4 (d := df_is_linked_on) rfl) (He.glo_ok X G (c.fact 4 (f := .glo "is_linked_on") rfl)) T C_is_integer d_is_linked_on hlen_is_linked_on
  have C_is_walk_on : Cal P w K mg base "is_walk_on" 3 ["site", "value"] sp_is_walk_on := c_is_walk_on (c.def_ 5 (d := df_is_walk_on) rfl) (He.glo_ok X G (c.fact 5 (f := .glo "is_walk_on") rfl)) T C_is_linked_on d_is_walk_on hlen_is_walk_on
  have C_is_trail_on : Cal P w K mg base "is_trail_on" 3 ["site", "value"] sp_is_trail_on := c_is_trail_on (c.def_ 6 (d := df_is_trail_on) rfl) (He.glo_ok X G (c.fact 6 (f := .glo "is_trail_on") rfl)) T C_is_linked_on d_is_trail_on hlen_is_trail_on
  have C_is_walk : Cal P w K mg base "is_walk" 5 ["site", "value"] sp_is_walk := c_is_walk (c.def_ 7 (d := df_is_walk) rfl) (He.glo_ok X G (c.fact 7 (f := .glo "is_walk") rfl)) T C_check_site C_is_walk_on d_is_walk hlen_is_walk
  have C_is_trail_of : Cal P w K mg base "is_trail_of" 5 ["site", "value"] sp_is_trail_of := c_is_trail_of (c.def_ 8 (d := df_is_trail_of) rfl) (He.glo_ok X G (c.fact 8 (f := .glo "is_trail_of") rfl)) T C_check_site C_is_trail_on d_is_trail_of hlen_is_trail_of
  have C__law_source : Cal P w K mg base "_law_source" 1 ["_law_cell", "_law_k"] sp__law_source := c__law_source (c.def_ 9 (d := df__law_source) rfl) (He.glo_ok X G (c.fact 9 (f := .glo "_law_source") rfl)) T  d__law_source hlen__law_source
  have C__law_draw : Cal P w K mg base "_law_draw" 1 ["_law_source_here", "_law_count"] sp__law_draw := c__law_draw (c.def_ 10 (d := df__law_draw) rfl) (He.glo_ok X G (c.fact 10 (f := .glo "_law_draw") rfl)) T  d__law_draw hlen__law_draw
  have C__law_net : Cal P w K mg base "_law_net" 2 ["_law_source_here", "_law_most"] sp__law_net := c__law_net (c.def_ 11 (d := df__law_net) rfl) (He.glo_ok X G (c.fact 11 (f := .glo "_law_net") rfl)) T C__law_draw d__law_net hlen__law_net
  have C__law_stroll : Cal P w K mg base "_law_stroll" 2 ["_law_source_here", "_law_net_here", "_law_most"] sp__law_stroll := c__law_stroll (c.def_ 12 (d := df__law_stroll) rfl) (He.glo_ok X G (c.fact 12 (f := .glo "_law_stroll") rfl)) T C__law_draw d__law_stroll hlen__law_stroll
  have C__law_trail : Cal P w K mg base "_law_trail" 1 ["_law_row"] sp__law_trail := c__law_trail (c.def_ 13 (d := df__law_trail) rfl) (He.glo_ok X G (c.fact 13 (f := .glo "_law_trail") rfl)) T  d__law_trail hlen__law_trail
  have C__law_linked : Cal P w K mg base "_law_linked" 1 ["_law_net_here", "_law_value"] sp__law_linked := c__law_linked (c.def_ 14 (d := df__law_linked) rfl) (He.glo_ok X G (c.fact 14 (f := .glo "_law_linked") rfl)) T  d__law_linked hlen__law_linked
  have C__law_changed : Cal P w K mg base "_law_changed" 2 ["_law_source_here", "_law_net_here", "_law_row"] sp__law_changed := c__law_changed (c.def_ 15 (d := df__law_changed) rfl) (He.glo_ok X G (c.fact 15 (f := .glo "_law_changed") rfl)) T C__law_draw d__law_changed hlen__law_changed
  have C__law_holds : Cal P w K mg base "_law_holds" 6 ["_law_source_here", "_law_most"] sp__law_holds := c__law_holds (c.def_ 16 (d := df__law_holds) rfl) (He.glo_ok X G (c.fact 16 (f := .glo "_law_holds") rfl)) T C__law_changed C__law_draw C__law_linked C__law_net C__law_stroll C__law_trail C_is_trail_of C_is_walk d__law_holds hlen__law_holds
  exact f_law F T C__law_holds C__law_source d_law (hlen_law)
end K02
open PySem PySem.W PySem.Calls PyProof.Rows
theorem PySem.Challenge.cw_breadcrumbs_k02_walks_and_trails_of_site_holds : PySem.Challenge.rw_breadcrumbs_k02_walks_and_trails_of_site.Holds := by
  w_on; o_law
  refine HandSHeadRun.head_any (r := OpenLaw.row PySem.Challenge.rw_breadcrumbs_k02_walks_and_trails_of_site) (q := view (OpenLaw.row PySem.Challenge.rw_breadcrumbs_k02_walks_and_trails_of_site).prog [24]) (H := K02.hk) (ob := K02.hob) (M := 4000) (loose := K02.loose1 ++ K02.loose2) (d := HandSHeadRun.topDef (OpenLaw.row PySem.Challenge.rw_breadcrumbs_k02_walks_and_trails_of_site).prog 24) (kwd := []) K02.hob_eq
    (by kernel_rfl) (fun s => by kernel_rfl) K02.hrun (by kernel_rfl) (by kernel_rfl) (by kernel_rfl) (by rfl) (by first | assumption | decide +kernel) (by decide +kernel) ⟨rfl, rfl, rfl, rfl, rfl, by decide +kernel⟩ ?hw ?hc
  case hw => w_witness2
  case hc =>
    refine DL.walk_g (l := PySem.Challenge.rw_breadcrumbs_k02_walks_and_trails_of_site) (n := 63) (k := 7) (x := "_law_script") rfl (by decide) (by kernel_rfl) ⟨rfl, by decide, by decide⟩ ?F
    intro w mg fa h Y G hmg0
    obtain ⟨K, KX, c⟩ := Y
    have hmg : mg ("law" : PySem.Str) = some (.ref fa) := by
      have e : (HandSHeadRun.topDef (OpenLaw.row PySem.Challenge.rw_breadcrumbs_k02_walks_and_trails_of_site).prog 24).name = ("law" : PySem.Str) := by kernel_rfl
      rw [← e]
      exact hmg0
    obtain ⟨fd, hb, hF⟩ := K02.hfacts (P := (PySem.Challenge.rw_breadcrumbs_k02_walks_and_trails_of_site).prog) (w := w) KX G hmg c.sa
    exact ⟨K, fd, K02.sp_law, KX, c.nl, c.ks, c.sy, hb, fun ns hl => ⟨ns, rfl, hl, rfl⟩, hF⟩

