import PyProof.Rows.All
import Wide.All
import OpenK.AllK
import Wide.FinOn
import HandS.ForMost
import HandS.Evl
import HandS.Codes
import HandS.Defaults
import HandS.Property
import HandS.IsInst
import HandS.TupAny
import HandS.Style
import HandS.RevRange
import HandS.Conv
import HandS.Star
import HandS.NoneIn
import HandS.Deep
import KE.GoesEnum
import KE.SortData
import KE.KDictItemsList
import HandS.DictTup
import HandS.TupSets
import HandS.Strs
import HandS.HeadHook1
import HandS.HeadHook2
import KE.KStateDown
import HandS.Head0
import HandS.Head1
import HandS.Head2
import HandS.HeadEnd
import PySem.Challenge.RW_cutworths_k77_whole_all_weavings_of_two
set_option Elab.async false
set_option linter.all false
set_option maxRecDepth 100000
set_option maxHeartbeats 0
namespace DL
open PySem L2

/-! ### data -/
inductive Cl where
  | lat | tre | ask | job | pool | gro
  deriving DecidableEq
def Cl.names : Cl → List Str
  | .lat => ["table", "size", "join_rows", "meet_rows", "bottom", "top", "primes"]
  | .tre => ["shape", "nodes", "parents", "leaves", "worths"]
  | .ask => ["lattice", "tree", "asked", "worth_by_leaf", "lows", "highs", "contexts"]
  | .job => ["number", "hand", "road", "context"]
  | .pool => ["lattice", "ground", "depth", "upper", "spots", "known", "jobs", "asking"]
  | .gro => ["tree", "start"]
inductive D where
  | non | bl (b : Bool) | int (i : Int) | str (x : Str) | scr (ns : List Int)
  | lst (ds : List D) | tup (ds : List D) | obj (c : Cl) (ds : List D) | own (a : Addr) | ftp (ds : List D) | rg (n : Int)
inductive OB where
  | lst (ds : List D) | dk (kvs : List (Key × D)) | dt (kvs : List (List Key × D)) | ins (c : Cl) (ds : List D)
abbrev Sto := List (Addr × OB)
abbrev Env := List (Option D)
def Ex (H H' : Hp) : Prop := ∀ a o, H a = some o → H' a = some o
theorem Ex.refl (H : Hp) : Ex H H := fun _ _ h => h
theorem Ex.trans {H H1 H2 : Hp} (a : Ex H H1) (b : Ex H1 H2) : Ex H H2 := fun x o h => b x o (a x o h)
theorem Ex.new {H : Hp} {p : Addr} {o : HO} (h : H p = none) : Ex H (upd H p o) := fun a u e => by
  rw [upd_ne (ne_of_none e h)]; exact e

section
variable (K : PySem.W.Frag) (ca : Cl → Addr)
mutual
def Rp (B : Hp) : D → V → Prop
  | .non, v => v = .non
  | .bl b, v => v = .bl b
  | .int i, v => v = .int i
  | .str x, v => v = .str x
  | .scr ns, v => ∃ a, v = .ref a ∧ SqL K B a (ns.map V.int)
  | .lst ds, v => ∃ a xs, v = .ref a ∧ B a = some (.lst xs) ∧ RpA B ds xs
  | .tup ds, v => ∃ a xs, v = .ref a ∧ B a = some (.tup xs) ∧ RpA B ds xs
  | .obj c ds, v => ∃ a dx fs, v = .ref a ∧ B a = some (.ins (ca c) dx fs) ∧ fs.map (·.1) = c.names.take ds.length ∧ RpA B ds (fs.map (·.2))
  | .own a, v => v = .ref a
  | .ftp ds, v => ∃ a o xs, v = .ref a ∧ B a = some (.frz o (.tup xs)) ∧ o.dict = none ∧ RpA B ds xs
  | .rg n, v => ∃ a, v = .ref a ∧ B a = some (.rng 0 n)
def RpA (B : Hp) : List D → List V → Prop
  | [], xs => xs = []
  | d :: ds, xs => ∃ x r, xs = x :: r ∧ Rp B d x ∧ RpA B ds r
end
def ObR (B : Hp) : OB → HO → Prop
  | .lst ds, o => ∃ xs, o = .lst xs ∧ RpA K ca B ds xs
  | .dk kvs, o => ∃ ws, o = .dK ws ∧ ws.map (·.1) = kvs.map (·.1) ∧ RpA K ca B (kvs.map (·.2)) (ws.map (·.2))
  | .dt kvs, o => ∃ ws, o = .dT ws ∧ ws.map (·.1) = kvs.map (·.1) ∧ RpA K ca B (kvs.map (·.2)) (ws.map (·.2))
  | .ins c ds, o => ∃ dx fs, o = .ins (ca c) dx fs ∧ fs.map (·.1) = c.names.take ds.length ∧ RpA K ca B ds (fs.map (·.2))
structure Wd (B : Hp) (st : Sto) (H : Hp) : Prop where
  ex : Ex B H
  nd : (st.map (·.1)).Nodup
  fr : ∀ q ∈ st, B q.1 = none
  at_ : ∀ q ∈ st, ∃ o, H q.1 = some o ∧ ObR K ca B q.2 o
structure Go (B : Hp) (st : Sto) (H B' : Hp) (st' : Sto) (H' : Hp) : Prop where
  ex : Ex B B'
  fm : ∀ a o, H a = some o → a ∉ st.map (·.1) → H' a = some o
  nw : ∀ a, a ∈ st'.map (·.1) → a ∈ st.map (·.1) ∨ H a = none
  nb : ∀ a o, B' a = some o → B a = some o ∨ H a = none ∨ a ∈ st.map (·.1) ∨ ∃ xs, H a = some (.tup xs)
structure EnvR (B : Hp) (σ : St) (e : Env) : Prop where
  len : σ.length = e.length
  get : ∀ (i : Nat) (d : D), e[i]? = some (some d) → ∃ v, σ[i]? = some (some v) ∧ Rp K ca B d v
end

section
variable {K : PySem.W.Frag} {ca : Cl → Addr} {B B' B1 B2 H H' H1 H2 : Hp} {st st' st1 st2 : Sto}
theorem Go.refl (h : Ex B H) : Go B st H B st H := ⟨Ex.refl B, fun _ _ h _ => h, fun _ h => .inl h, fun _ _ h => .inl h⟩
theorem Go.trans (a : Go B st H B1 st1 H1) (b : Go B1 st1 H1 B2 st2 H2) : Go B st H B2 st2 H2 := by
  have key : ∀ x, H1 x = none → x ∈ st.map (·.1) ∨ H x = none := fun x h => by
    by_cases m : x ∈ st.map (·.1)
    · exact .inl m
    · cases e : H x with
      | none => exact .inr rfl
      | some o => rw [a.fm x o e m] at h; cases h
  refine ⟨a.ex.trans b.ex, fun x o h m => ?_, fun x h => ?_, fun x o h => ?_⟩
  · refine b.fm x o (a.fm x o h m) fun m1 => ?_
    rcases a.nw x m1 with q | q
    · exact m q
    · rw [q] at h; cases h
  · rcases b.nw x h with q | q
    · exact a.nw x q
    · exact key x q
  · rcases b.nb x o h with q | q | q | q
    · exact a.nb x o q
    · rcases key x q with q | q
      · exact .inr (.inr (.inl q))
      · exact .inr (.inl q)
    · rcases a.nw x q with q | q
      · exact .inr (.inr (.inl q))
      · exact .inr (.inl q)
    · obtain ⟨xs, q⟩ := q
      by_cases m : x ∈ st.map (·.1)
      · exact .inr (.inr (.inl m))
      · cases e : H x with
        | none => exact .inr (.inl rfl)
        | some o' =>
          rw [a.fm x o' e m] at q
          exact .inr (.inr (.inr ⟨xs, q⟩))
mutual
theorem Rp.mono (e : Ex B B') : ∀ (d : D) (v : V), Rp K ca B d v → Rp K ca B' d v
  | .non, v, h => h
  | .bl b, v, h => h
  | .int i, v, h => h
  | .str x, v, h => h
  | .scr ns, v, h => by
    obtain ⟨a, rfl, q⟩ := h
    exact ⟨a, rfl, Same.seq e q⟩
  | .lst ds, v, h => by
    obtain ⟨a, xs, rfl, q, r⟩ := h
    exact ⟨a, xs, rfl, e _ _ q, RpA.mono e ds xs r⟩
  | .tup ds, v, h => by
    obtain ⟨a, xs, rfl, q, r⟩ := h
    exact ⟨a, xs, rfl, e _ _ q, RpA.mono e ds xs r⟩
  | .obj c ds, v, h => by
    obtain ⟨a, dx, fs, rfl, q, f, r⟩ := h
    exact ⟨a, dx, fs, rfl, e _ _ q, f, RpA.mono e ds _ r⟩
  | .own a, v, h => h
  | .ftp ds, v, h => by
    obtain ⟨a, o, xs, rfl, q, od, r⟩ := h
    exact ⟨a, o, xs, rfl, e _ _ q, od, RpA.mono e ds xs r⟩
  | .rg n, v, h => by
    obtain ⟨a, rfl, q⟩ := h
    exact ⟨a, rfl, e _ _ q⟩
theorem RpA.mono (e : Ex B B') : ∀ (ds : List D) (xs : List V), RpA K ca B ds xs → RpA K ca B' ds xs
  | [], xs, h => h
  | d :: ds, xs, h => by
    obtain ⟨x, r, rfl, q, t⟩ := h
    exact ⟨x, r, rfl, Rp.mono e d x q, RpA.mono e ds r t⟩
end
theorem ObR.mono (e : Ex B B') : ∀ {b : OB} {o : HO}, ObR K ca B b o → ObR K ca B' b o
  | .lst ds, o, ⟨xs, h, r⟩ => ⟨xs, h, RpA.mono e _ _ r⟩
  | .dk kvs, o, ⟨xs, h, k, r⟩ => ⟨xs, h, k, RpA.mono e _ _ r⟩
  | .dt kvs, o, ⟨xs, h, k, r⟩ => ⟨xs, h, k, RpA.mono e _ _ r⟩
  | .ins c ds, o, ⟨dx, fs, h, k, r⟩ => ⟨dx, fs, h, k, RpA.mono e _ _ r⟩
theorem ObR.noTup {b : OB} {o : HO} (r : ObR K ca B b o) (xs : List V) : o ≠ .tup xs := by
  cases b with
  | lst ds => obtain ⟨ys, rfl, _⟩ := r; intro e; cases e
  | dk ds => obtain ⟨ys, rfl, _⟩ := r; intro e; cases e
  | dt ds => obtain ⟨ys, rfl, _⟩ := r; intro e; cases e
  | ins c ds => obtain ⟨dx, ys, rfl, _⟩ := r; intro e; cases e
theorem RpA.nil : RpA K ca B [] [] := rfl
theorem RpA.cons {d : D} {x : V} {ds : List D} {xs : List V} (h : Rp K ca B d x) (r : RpA K ca B ds xs) : RpA K ca B (d :: ds) (x :: xs) := ⟨x, xs, rfl, h, r⟩
theorem RpA.len : ∀ {ds : List D} {xs : List V}, RpA K ca B ds xs → xs.length = ds.length
  | [], xs, h => by cases (show xs = [] from h); rfl
  | d :: ds, xs, h => by
    obtain ⟨x, r, rfl, q, t⟩ := h
    rw [List.length_cons, List.length_cons, RpA.len t]
theorem RpA.get : ∀ {ds : List D} {xs : List V} {i : Nat} {d : D}, RpA K ca B ds xs → ds[i]? = some d → ∃ x, xs[i]? = some x ∧ Rp K ca B d x
  | [], xs, i, d, h, e => by simp at e
  | d' :: ds, xs, 0, d, h, e => by
    obtain ⟨x, r, rfl, q, t⟩ := h
    simp at e; subst e
    exact ⟨x, rfl, q⟩
  | d' :: ds, xs, i + 1, d, h, e => by
    obtain ⟨x, r, rfl, q, t⟩ := h
    exact RpA.get (i := i) t (by simpa using e)
theorem RpA.getV : ∀ {ds : List D} {xs : List V} {i : Nat} {x : V}, RpA K ca B ds xs → xs[i]? = some x → ∃ d, ds[i]? = some d ∧ Rp K ca B d x
  | [], xs, i, d, h, e => by cases (show xs = [] from h); simp at e
  | d' :: ds, xs, 0, d, h, e => by
    obtain ⟨x, r, rfl, q, t⟩ := h
    simp at e; subst e
    exact ⟨d', rfl, q⟩
  | d' :: ds, xs, i + 1, d, h, e => by
    obtain ⟨x, r, rfl, q, t⟩ := h
    exact RpA.getV (i := i) t (by simpa using e)
theorem RpA.append : ∀ {ds es : List D} {xs ys : List V}, RpA K ca B ds xs → RpA K ca B es ys → RpA K ca B (ds ++ es) (xs ++ ys)
  | [], es, xs, ys, h, g => by cases (show xs = [] from h); exact g
  | d :: ds, es, xs, ys, h, g => by
    obtain ⟨x, r, rfl, q, t⟩ := h
    exact RpA.cons q (RpA.append t g)
theorem RpA.set {d : D} {x : V} (hd : Rp K ca B d x) : ∀ {ds : List D} {xs : List V} (i : Nat), RpA K ca B ds xs → RpA K ca B (ds.set i d) (xs.set i x)
  | [], xs, i, h => by cases (show xs = [] from h); exact rfl
  | d' :: ds, xs, 0, h => by
    obtain ⟨y, r, rfl, q, t⟩ := h
    exact RpA.cons hd t
  | d' :: ds, xs, i + 1, h => by
    obtain ⟨y, r, rfl, q, t⟩ := h
    exact RpA.cons q (RpA.set hd i t)
theorem RpA.drop : ∀ {ds : List D} {xs : List V} (i : Nat), RpA K ca B ds xs → RpA K ca B (ds.drop i) (xs.drop i)
  | ds, xs, 0, h => by simpa using h
  | [], xs, i + 1, h => by cases (show xs = [] from h); exact rfl
  | d' :: ds, xs, i + 1, h => by
    obtain ⟨y, r, rfl, q, t⟩ := h
    exact RpA.drop i t
theorem RpA.take : ∀ {ds : List D} {xs : List V} (i : Nat), RpA K ca B ds xs → RpA K ca B (ds.take i) (xs.take i)
  | ds, xs, 0, h => by simp; exact rfl
  | [], xs, i + 1, h => by cases (show xs = [] from h); exact rfl
  | d' :: ds, xs, i + 1, h => by
    obtain ⟨y, r, rfl, q, t⟩ := h
    exact RpA.cons q (RpA.take i t)
theorem RpA.eraseIdx : ∀ {ds : List D} {xs : List V} (i : Nat), RpA K ca B ds xs → RpA K ca B (ds.eraseIdx i) (xs.eraseIdx i)
  | [], xs, i, h => by cases (show xs = [] from h); exact rfl
  | d' :: ds, xs, 0, h => by
    obtain ⟨y, r, rfl, q, t⟩ := h
    exact t
  | d' :: ds, xs, i + 1, h => by
    obtain ⟨y, r, rfl, q, t⟩ := h
    exact RpA.cons q (RpA.eraseIdx i t)
theorem RpA.reverse : ∀ {ds : List D} {xs : List V}, RpA K ca B ds xs → RpA K ca B ds.reverse xs.reverse
  | [], xs, h => by cases (show xs = [] from h); exact rfl
  | d' :: ds, xs, h => by
    obtain ⟨y, r, rfl, q, t⟩ := h
    rw [List.reverse_cons, List.reverse_cons]
    exact (RpA.reverse t).append (RpA.cons q rfl)
theorem EnvR.mono {σ : St} {e : Env} (x : Ex B B') (h : EnvR K ca B σ e) : EnvR K ca B' σ e := ⟨h.len, fun i d q => by
  obtain ⟨v, h1, h2⟩ := h.get i d q
  exact ⟨v, h1, Rp.mono x d v h2⟩⟩
theorem EnvR.set {σ : St} {e : Env} {d : D} {v : V} (h : EnvR K ca B σ e) (i : Nat) (r : Rp K ca B d v) : EnvR K ca B (σ.set i (some v)) (e.set i (some d)) := ⟨by rw [List.length_set, List.length_set, h.len], fun j d' q => by
  by_cases hj : i = j
  · subst hj
    by_cases hl : i < e.length
    · rw [List.getElem?_set_self hl] at q
      cases q
      exact ⟨v, List.getElem?_set_self (by rw [h.len]; exact hl), r⟩
    · rw [List.getElem?_eq_none (by simpa using hl)] at q; cases q
  · rw [List.getElem?_set_ne hj] at q
    obtain ⟨v', h1, h2⟩ := h.get j d' q
    exact ⟨v', by rw [List.getElem?_set_ne hj]; exact h1, h2⟩⟩
def wipeE (e : Env) : List Nat → Env
  | [] => e
  | v :: vs => (wipeE e vs).set v none
theorem EnvR.wipe {σ : St} {e : Env} (h : EnvR K ca B σ e) : ∀ vs : List Nat, EnvR K ca B (L2.wipe σ vs) (wipeE e vs)
  | [] => h
  | v :: vs => by
    have ih := EnvR.wipe h vs
    refine ⟨by show ((L2.wipe σ vs).set v none).length = ((wipeE e vs).set v none).length; rw [List.length_set, List.length_set, ih.len], fun j d q => ?_⟩
    have q : ((wipeE e vs).set v none)[j]? = some (some d) := q
    by_cases hj : v = j
    · subst hj
      by_cases hl : v < (wipeE e vs).length
      · rw [List.getElem?_set_self hl] at q; cases q
      · rw [List.getElem?_eq_none (by simpa using hl)] at q; cases q
    · rw [List.getElem?_set_ne hj] at q
      obtain ⟨v', h1, h2⟩ := ih.get j d q
      exact ⟨v', by show ((L2.wipe σ vs).set v none)[j]? = _; rw [List.getElem?_set_ne hj]; exact h1, h2⟩
/-- a new immutable object -/
theorem Wd.new {p : Addr} {o : HO} (w : Wd K ca B st H) (hp : H p = none) : Wd K ca (upd B p o) st (upd H p o) ∧ Go B st H (upd B p o) st (upd H p o) := by
  have bp : B p = none := by
    cases e : B p with
    | none => rfl
    | some u => rw [w.ex p u e] at hp; cases hp
  have eb : Ex B (upd B p o) := Ex.new bp
  have np : ∀ q ∈ st, q.1 ≠ p := fun q m e => by
    obtain ⟨u, h, _⟩ := w.at_ q m
    rw [e, hp] at h; cases h
  refine ⟨⟨fun a u h => ?_, w.nd, fun q m => ?_, fun q m => ?_⟩, ⟨eb, fun a u h _ => ?_, fun a m => .inl m, fun a u h => ?_⟩⟩
  · by_cases e : a = p
    · subst e; rw [upd_same] at h ⊢; exact h
    · rw [upd_ne e] at h ⊢; exact w.ex a u h
  · rw [upd_ne (np q m)]; exact w.fr q m
  · obtain ⟨u, h, r⟩ := w.at_ q m
    exact ⟨u, by rw [upd_ne (np q m)]; exact h, r.mono eb⟩
  · rw [upd_ne (ne_of_none h hp)]; exact h
  · by_cases e : a = p
    · subst e; exact .inr (.inl hp)
    · rw [upd_ne e] at h; exact .inl h
/-- a new object that may change -/
theorem Wd.alloc {p : Addr} {b : OB} {o : HO} (w : Wd K ca B st H) (hp : H p = none) (r : ObR K ca B b o) : Wd K ca B ((p, b) :: st) (upd H p o) ∧ Go B st H B ((p, b) :: st) (upd H p o) := by
  have bp : B p = none := by
    cases e : B p with
    | none => rfl
    | some u => rw [w.ex p u e] at hp; cases hp
  have np : ∀ q ∈ st, q.1 ≠ p := fun q m e => by
    obtain ⟨u, h, _⟩ := w.at_ q m
    rw [e, hp] at h; cases h
  refine ⟨⟨fun a u h => ?_, ?_, fun q m => ?_, fun q m => ?_⟩, ⟨Ex.refl B, fun a u h _ => ?_, fun a m => ?_, fun a u h => .inl h⟩⟩
  · rw [upd_ne (ne_of_none h bp)]; exact w.ex a u h
  · rw [List.map_cons, List.nodup_cons]
    refine ⟨fun m => ?_, w.nd⟩
    obtain ⟨q, m, e⟩ := List.mem_map.mp m
    exact np q m e
  · rcases List.mem_cons.mp m with rfl | m
    · exact bp
    · exact w.fr q m
  · rcases List.mem_cons.mp m with rfl | m
    · exact ⟨o, upd_same, r⟩
    · obtain ⟨u, h, r⟩ := w.at_ q m
      exact ⟨u, by rw [upd_ne (np q m)]; exact h, r⟩
  · rw [upd_ne (ne_of_none h hp)]; exact h
  · rw [List.map_cons, List.mem_cons] at m
    rcases m with rfl | m
    · exact .inr hp
    · exact .inl m
theorem map_set_fst {j : Nat} {a : Addr} {b c : OB} (h : st[j]? = some (a, b)) : (st.set j (a, c)).map (·.1) = st.map (·.1) := by
  rw [List.map_set]
  apply List.ext_getElem?
  intro i
  by_cases e : j = i
  · subst e
    have hj := (List.getElem?_eq_some_iff.mp h).1
    rw [List.getElem?_set_self (by simpa using hj), List.getElem?_map, h]; rfl
  · rw [List.getElem?_set_ne e]
theorem mem_set {α : Type} {l : List α} {j : Nat} {x y : α} (h : y ∈ l.set j x) : y = x ∨ ∃ i, i ≠ j ∧ l[i]? = some y := by
  obtain ⟨i, hi⟩ := List.mem_iff_getElem?.mp h
  by_cases e : j = i
  · subst e
    by_cases hl : j < l.length
    · rw [List.getElem?_set_self hl] at hi; cases hi; exact .inl rfl
    · rw [List.getElem?_eq_none (by simpa using hl)] at hi; cases hi
  · rw [List.getElem?_set_ne e] at hi
    exact .inr ⟨i, fun z => e z.symm, hi⟩
/-- two places of the store: two objects -/
theorem Wd.apart {i j : Nat} {a b : Addr} {x y : OB} (w : Wd K ca B st H) (h : st[i]? = some (a, x)) (g : st[j]? = some (b, y)) (n : i ≠ j) : a ≠ b := fun e => by
  subst e
  refine n (nd_ix w.nd (x := a) ?_ ?_)
  · rw [List.getElem?_map, h]; rfl
  · rw [List.getElem?_map, g]; rfl
/-- the object at place j is changed -/
theorem Wd.put {j : Nat} {a : Addr} {b c : OB} {o : HO} (w : Wd K ca B st H) (h : st[j]? = some (a, b)) (r : ObR K ca B c o) : Wd K ca B (st.set j (a, c)) (upd H a o) ∧ Go B st H B (st.set j (a, c)) (upd H a o) := by
  have ma : (a, b) ∈ st := List.mem_of_getElem? h
  have ba : B a = none := w.fr _ ma
  refine ⟨⟨fun x u hx => ?_, ?_, fun q m => ?_, fun q m => ?_⟩, ⟨Ex.refl B, fun x u hx hm => ?_, fun x m => ?_, fun x u hx => .inl hx⟩⟩
  · rw [upd_ne (ne_of_none hx ba)]; exact w.ex x u hx
  · rw [map_set_fst h]; exact w.nd
  · rcases mem_set m with rfl | ⟨i, _, hi⟩
    · exact ba
    · exact w.fr q (List.mem_of_getElem? hi)
  · rcases mem_set m with rfl | ⟨i, ni, hi⟩
    · exact ⟨o, upd_same, r⟩
    · obtain ⟨u, hu, ru⟩ := w.at_ q (List.mem_of_getElem? hi)
      have ne : q.1 ≠ a := w.apart (a := q.1) (x := q.2) hi h ni
      exact ⟨u, by rw [upd_ne ne]; exact hu, ru⟩
  · have : x ≠ a := fun e => hm (by rw [e]; exact List.mem_map.mpr ⟨_, ma, rfl⟩)
    rw [upd_ne this]; exact hx
  · rw [map_set_fst h] at m; exact .inl m
theorem Wd.at' {j : Nat} {a : Addr} {b : OB} (w : Wd K ca B st H) (h : st[j]? = some (a, b)) : ∃ o, H a = some o ∧ ObR K ca B b o := w.at_ _ (List.mem_of_getElem? h)
end
end DL

set_option Elab.async false
set_option linter.all false
set_option maxRecDepth 100000
set_option maxHeartbeats 0
namespace DL
open PySem L2
/-! ### a part of the store -/
def pick (st : Sto) : List Nat → Option Sto
  | [] => some []
  | j :: js => match st[j]?, pick st js with
    | some q, some r => some (q :: r)
    | _, _ => none
def plugA : List Nat → Sto → Sto → Sto
  | [], st, sub => st ++ sub
  | j :: js, st, sub => match sub with
    | q :: s => plugA js (st.set j q) s
    | [] => []
abbrev plug (st : Sto) (js : List Nat) (sub : Sto) : Sto := plugA js st sub
theorem pick_cons {st : Sto} {j : Nat} {js : List Nat} {sub : Sto} (h : pick st (j :: js) = some sub) : ∃ q r, sub = q :: r ∧ st[j]? = some q ∧ pick st js = some r := by
  unfold pick at h
  split at h
  · rename_i q r h1 h2
    cases h
    exact ⟨q, r, rfl, h1, h2⟩
  · cases h
theorem pick_mem : ∀ {js : List Nat} {st sub : Sto}, pick st js = some sub → ∀ q ∈ sub, ∃ j ∈ js, st[j]? = some q
  | [], st, sub, h, q, m => by cases h; cases m
  | j :: js, st, sub, h, q, m => by
    obtain ⟨q', r, rfl, h1, h2⟩ := pick_cons h
    rcases List.mem_cons.mp m with rfl | m
    · exact ⟨j, List.mem_cons_self, h1⟩
    · obtain ⟨i, hi, e⟩ := pick_mem h2 q m
      exact ⟨i, List.mem_cons_of_mem _ hi, e⟩
theorem pick_len : ∀ {js : List Nat} {st sub : Sto}, pick st js = some sub → sub.length = js.length
  | [], st, sub, h => by cases h; rfl
  | j :: js, st, sub, h => by
    obtain ⟨q', r, rfl, h1, h2⟩ := pick_cons h
    rw [List.length_cons, List.length_cons, pick_len h2]
theorem nd_pick : ∀ {js : List Nat} {st sub : Sto}, (st.map (·.1)).Nodup → js.Nodup → pick st js = some sub → (sub.map (·.1)).Nodup
  | [], st, sub, n, m, h => by cases h; exact List.nodup_nil
  | j :: js, st, sub, n, m, h => by
    obtain ⟨q, r, rfl, h1, h2⟩ := pick_cons h
    rw [List.nodup_cons] at m
    rw [List.map_cons, List.nodup_cons]
    refine ⟨fun hm => ?_, nd_pick n m.2 h2⟩
    obtain ⟨q', hq, e⟩ := List.mem_map.mp hm
    obtain ⟨i, hi, ei⟩ := pick_mem h2 q' hq
    have : i = j := nd_ix n (x := q.1) (by rw [List.getElem?_map, ei]; exact congrArg some e) (by rw [List.getElem?_map, h1]; rfl)
    exact m.1 (this ▸ hi)
section
variable {K : PySem.W.Frag} {ca : Cl → Addr} {B B' B1 B2 H H' H1 H2 : Hp} {st st' st1 st2 sub sub' : Sto} {js : List Nat}
theorem pick_sub (h : pick st js = some sub) {a : Addr} (m : a ∈ sub.map (·.1)) : a ∈ st.map (·.1) := by
  obtain ⟨q, hq, e⟩ := List.mem_map.mp m
  obtain ⟨i, _, ei⟩ := pick_mem h q hq
  exact List.mem_map.mpr ⟨q, List.mem_of_getElem? ei, e⟩
theorem Wd.pick (w : Wd K ca B st H) (n : js.Nodup) (h : pick st js = some sub) : Wd K ca B sub H := by
  have key : ∀ q ∈ sub, q ∈ st := fun q m => by
    obtain ⟨i, _, ei⟩ := pick_mem h q m
    exact List.mem_of_getElem? ei
  exact ⟨w.ex, nd_pick w.nd n h, fun q m => w.fr q (key q m), fun q m => w.at_ q (key q m)⟩
theorem Go.pick (g : Go B st H B' st' H') (h : DL.pick st' js = some sub) : Go B st H B' sub H' := ⟨g.ex, g.fm, fun a m => g.nw a (pick_sub h m), g.nb⟩
theorem plug_mem : ∀ {js : List Nat} {st sub' : Sto} {q : Addr × OB}, q ∈ plug st js sub' → q ∈ sub' ∨ ∃ i, i ∉ js ∧ st[i]? = some q
  | [], st, sub', q, h => by
    rcases List.mem_append.mp (show q ∈ st ++ sub' from h) with m | m
    · obtain ⟨i, e⟩ := List.mem_iff_getElem?.mp m
      exact .inr ⟨i, by simp, e⟩
    · exact .inl m
  | j :: js, st, q' :: s, q, h => by
    rcases plug_mem (js := js) (st := st.set j q') (sub' := s) h with m | ⟨i, ni, e⟩
    · exact .inl (List.mem_cons_of_mem _ m)
    · by_cases ij : j = i
      · subst ij
        by_cases hl : j < st.length
        · rw [List.getElem?_set_self hl] at e
          cases e
          exact .inl List.mem_cons_self
        · rw [List.getElem?_eq_none (by simpa using hl)] at e; cases e
      · rw [List.getElem?_set_ne ij] at e
        exact .inr ⟨i, by rw [List.mem_cons]; rintro (z | z); exact ij z.symm; exact ni z, e⟩
  | j :: js, st, [], q, h => by cases (show q ∈ ([] : Sto) from h)
theorem plug_fst : ∀ {js : List Nat} {st sub sub' : Sto}, pick st js = some sub → (sub'.take js.length).map (·.1) = sub.map (·.1) → js.Nodup → (plug st js sub').map (·.1) = st.map (·.1) ++ (sub'.drop js.length).map (·.1)
  | [], st, sub, sub', h, e, _ => by show (st ++ sub').map (·.1) = _; rw [List.map_append]; rfl
  | j :: js, st, sub, [], h, e, _ => by
    obtain ⟨q, r, rfl, h1, h2⟩ := pick_cons h
    cases e
  | j :: js, st, sub, q' :: s, h, e, nd => by
    obtain ⟨q, r, rfl, h1, h2⟩ := pick_cons h
    rw [List.nodup_cons] at nd
    have e1 : q'.1 :: (s.take js.length).map (·.1) = q.1 :: r.map (·.1) := e
    injection e1 with e2 e3
    have hp : pick (st.set j q') js = some r := by
      have gen : ∀ (l : List Nat) (r : Sto), j ∉ l → pick st l = some r → pick (st.set j q') l = some r := by
        intro l
        induction l with
        | nil => intro r _ z; exact z
        | cons a l ih =>
          intro r hj z
          obtain ⟨q0, r0, rfl, z1, z2⟩ := pick_cons z
          have ha : j ≠ a := fun e => hj (by rw [e]; exact List.mem_cons_self)
          unfold pick
          rw [List.getElem?_set_ne ha, z1, ih r0 (fun m => hj (List.mem_cons_of_mem _ m)) z2]
      exact gen js r nd.1 h2
    have ih := plug_fst (sub' := s) hp e3 nd.2
    show (plug (st.set j q') js s).map (·.1) = _
    rw [ih]
    have : (st.set j q').map (·.1) = st.map (·.1) := by
      obtain ⟨a', b'⟩ := q'
      obtain ⟨a, b⟩ := q
      cases e2
      exact map_set_fst h1
    rw [this]; rfl
/-- behind a call that got a part of the store -/
theorem Wd.plug (w : Wd K ca B st H) (n : js.Nodup) (h : DL.pick st js = some sub) (e : (sub'.take js.length).map (·.1) = sub.map (·.1)) (g : Go B sub H B' sub' H') (w' : Wd K ca B' sub' H') :
    Wd K ca B' (DL.plug st js sub') H' ∧ Go B st H B' (DL.plug st js sub') H' := by
  have live : ∀ a, a ∈ st.map (·.1) → ∃ o, H a = some o := fun a m => by
    obtain ⟨q, hq, rfl⟩ := List.mem_map.mp m
    obtain ⟨o, ho, _⟩ := w.at_ q hq
    exact ⟨o, ho⟩
  have lone : ∀ (i : Nat) (q : Addr × OB), i ∉ js → st[i]? = some q → q.1 ∉ sub.map (·.1) := fun i q ni ei m => by
    obtain ⟨q', hq, e'⟩ := List.mem_map.mp m
    obtain ⟨k, hk, ek⟩ := pick_mem h q' hq
    have : k = i := nd_ix w.nd (x := q.1) (by rw [List.getElem?_map, ek]; exact congrArg some e') (by rw [List.getElem?_map, ei]; rfl)
    exact ni (this ▸ hk)
  have hfst := plug_fst h e n
  have hsplit : sub'.map (·.1) = sub.map (·.1) ++ (sub'.drop js.length).map (·.1) := by
    rw [← e, ← List.map_append, List.take_append_drop]
  have nd' := w'.nd
  rw [hsplit] at nd'
  have new : ∀ a, a ∈ (sub'.drop js.length).map (·.1) → H a = none := fun a m => by
    rcases g.nw a (by rw [hsplit]; exact List.mem_append_right _ m) with z | z
    · exact absurd rfl ((List.nodup_append.mp nd').2.2 a z a m)
    · exact z
  refine ⟨⟨w'.ex, ?_, fun q m => ?_, fun q m => ?_⟩, ⟨g.ex, fun a o ha m => g.fm a o ha fun z => m (pick_sub h z), fun a m => ?_, fun a o ha => ?_⟩⟩
  · rw [hfst]
    refine List.nodup_append.mpr ⟨w.nd, (List.nodup_append.mp nd').2.1, fun a ma b mb eab => ?_⟩
    obtain ⟨o, ho⟩ := live a ma
    rw [eab, new b mb] at ho; cases ho
  · rcases plug_mem m with m | ⟨i, ni, ei⟩
    · exact w'.fr q m
    · have mq := List.mem_of_getElem? ei
      cases hb : B' q.1 with
      | none => rfl
      | some o =>
        rcases g.nb q.1 o hb with z | z | z | z
        · rw [w.fr q mq] at z; cases z
        · obtain ⟨u, hu, _⟩ := w.at_ q mq
          rw [hu] at z; cases z
        · exact absurd z (lone i q ni ei)
        · obtain ⟨u, hu, ru⟩ := w.at_ q mq
          obtain ⟨xs, z⟩ := z
          rw [hu] at z
          cases z
          exact absurd rfl (ru.noTup xs)
  · rcases plug_mem m with m | ⟨i, ni, ei⟩
    · exact w'.at_ q m
    · have mq := List.mem_of_getElem? ei
      obtain ⟨u, hu, r⟩ := w.at_ q mq
      exact ⟨u, g.fm q.1 u hu (lone i q ni ei), r.mono g.ex⟩
  · rw [hfst] at m
    rcases List.mem_append.mp m with m | m
    · exact .inl m
    · exact .inr (new a m)
  · rcases g.nb a o ha with z | z | z | z
    · exact .inl z
    · exact .inr (.inl z)
    · exact .inr (.inr (.inl (pick_sub h z)))
    · exact .inr (.inr (.inr z))
end

/-! ### readings of data -/
abbrev WE := Env → Sto → (D → Sto → Prop) → Prop
abbrev WT := Env → Sto → (Bool → Sto → Prop) → Prop
abbrev WA := Env → Sto → (List D → Sto → Prop) → Prop
abbrev WG := D → Env → Sto → (Env → Sto → Prop) → Prop
structure DEnds where
  nx : Env → Sto → Prop
  rt : D → Sto → Prop
  bk : Env → Sto → Prop := fun _ _ => False
  ct : Env → Sto → Prop := fun _ _ => False
abbrev WS := DEnds → Env → Sto → Prop
abbrev Spd := List D → Sto → (D → Sto → Prop) → Prop
section
variable (K : PySem.W.Frag) (ca : Cl → Addr)
def LE (te : TE) (w : WE) : Prop := ∀ (σ : L2.St) (e : Env) (B : Hp) (st : Sto) (H : Hp), Wd K ca B st H → EnvR K ca B σ e → ∀ (Φ : D → Sto → Prop) (Q : VK),
  (∀ B' st' H' v d, Go B st H B' st' H' → Wd K ca B' st' H' → Rp K ca B' d v → Φ d st' → Q v H') → w e st Φ → te σ H Q
def LT (tt : TT) (w : WT) : Prop := ∀ (σ : L2.St) (e : Env) (B : Hp) (st : Sto) (H : Hp), Wd K ca B st H → EnvR K ca B σ e → ∀ (Φ : Bool → Sto → Prop) (Q : Bool → Hp → Prop),
  (∀ B' st' H' b, Go B st H B' st' H' → Wd K ca B' st' H' → Φ b st' → Q b H') → w e st Φ → tt σ H Q
def LA (ta : TA) (w : WA) : Prop := ∀ (σ : L2.St) (e : Env) (B : Hp) (st : Sto) (H : Hp), Wd K ca B st H → EnvR K ca B σ e → ∀ (Φ : List D → Sto → Prop) (Q : List V → Hp → Prop),
  (∀ B' st' H' vs ds, Go B st H B' st' H' → Wd K ca B' st' H' → RpA K ca B' ds vs → Φ ds st' → Q vs H') → w e st Φ → ta σ H Q
def LG (tg : TG) (w : WG) : Prop := ∀ (σ : L2.St) (e : Env) (B : Hp) (st : Sto) (H : Hp) (v : V) (d : D), Wd K ca B st H → EnvR K ca B σ e → Rp K ca B d v → ∀ (Φ : Env → Sto → Prop) (Q : L2.St → Hp → Prop),
  (∀ σ' e' B' st' H', Go B st H B' st' H' → Wd K ca B' st' H' → EnvR K ca B' σ' e' → Φ e' st' → Q σ' H') → w d e st Φ → tg v σ H Q
structure ER (B : Hp) (st : Sto) (H : Hp) (E : Ends) (F : DEnds) : Prop where
  nx : ∀ σ' e' B' st' H', Go B st H B' st' H' → Wd K ca B' st' H' → EnvR K ca B' σ' e' → F.nx e' st' → E.nx σ' H'
  rt : ∀ B' st' H' v d, Go B st H B' st' H' → Wd K ca B' st' H' → Rp K ca B' d v → F.rt d st' → E.rt v H'
  bk : ∀ σ' e' B' st' H', Go B st H B' st' H' → Wd K ca B' st' H' → EnvR K ca B' σ' e' → F.bk e' st' → E.bk σ' H'
  ct : ∀ σ' e' B' st' H', Go B st H B' st' H' → Wd K ca B' st' H' → EnvR K ca B' σ' e' → F.ct e' st' → E.ct σ' H'
def LS (ts : TS) (w : WS) : Prop := ∀ (σ : L2.St) (e : Env) (B : Hp) (st : Sto) (H : Hp), Wd K ca B st H → EnvR K ca B σ e → ∀ (E : Ends) (F : DEnds), ER K ca B st H E F → w F e st → ts E σ H
/-- what a loop walks -/
structure Wk (J : It) (B : Hp) (ds : List D) : Prop where
  go : ∀ i H, i < ds.length → Ex B H → J.go i H
  stop : ∀ H, Ex B H → J.stop ds.length H
  yld : ∀ (i : Nat) H x H' B2 st, i < ds.length → Ex B B2 → Wd K ca B2 st H → J.yld i H x H' → ∃ B' d, Go B2 st H B' st H' ∧ Wd K ca B' st H' ∧ ds[i]? = some d ∧ Rp K ca B' d x
def LI (wi : TI) (w : WA) : Prop := ∀ (σ : L2.St) (e : Env) (B : Hp) (st : Sto) (H : Hp), Wd K ca B st H → EnvR K ca B σ e → ∀ (Φ : List D → Sto → Prop) (R : It → Hp → Prop),
  (∀ B' st' H' J ds, Go B st H B' st' H' → Wd K ca B' st' H' → Wk K ca J B' ds → Φ ds st' → R J H') → w e st Φ → wi σ H R
/-- a promise in words of data -/
def SpOf (spd : Spd) : Sp := fun vs H Q _ => ∃ (B : Hp) (st : Sto) (ds : List D) (Φ : D → Sto → Prop), Wd K ca B st H ∧ RpA K ca B ds vs ∧ spd ds st Φ ∧
  ∀ B' st' H' v d, Go B st H B' st' H' → Wd K ca B' st' H' → Rp K ca B' d v → Φ d st' → Q v H'
end
structure DE (X : Cx) (ca : Cl → Addr) (e : Expr) (te : TE) (w : WE) : Prop where
  pe : PE X e te
  le : LE X.K ca te w
structure DT (X : Cx) (ca : Cl → Addr) (e : Expr) (tt : TT) (w : WT) : Prop where
  pt : PT X e tt
  le : LT X.K ca tt w
structure DA (X : Cx) (ca : Cl → Addr) (es : List Expr) (ta : TA) (w : WA) : Prop where
  pa : PA X es ta
  le : LA X.K ca ta w
structure DG (X : Cx) (ca : Cl → Addr) (e : Expr) (tg : TG) (w : WG) : Prop where
  pg : PG X e tg
  le : LG X.K ca tg w
structure DI (X : Cx) (ca : Cl → Addr) (tg e : Expr) (wi : TI) (w : WA) : Prop where
  pi : PI X tg e wi
  le : LI X.K ca wi w
structure DS (X : Cx) (ca : Cl → Addr) (s : Stmt) (ts : TS) (w : WS) : Prop where
  ps : PS X s ts
  le : LS X.K ca ts w
structure DSs (X : Cx) (ca : Cl → Addr) (s : List Stmt) (ts : TS) (w : WS) : Prop where
  ps : PSs X s ts
  le : LS X.K ca ts w

/-! ### names, constants, arguments, displays -/
def wVar (i : Nat) : WE := fun e st Φ => ∃ d, e[i]? = some (some d) ∧ Φ d st
def wC (d : D) : WE := fun _ st Φ => Φ d st
def wNil : WA := fun _ st Φ => Φ [] st
def wCons (wa : WE) (wr : WA) : WA := fun e st Φ => wa e st fun d st1 => wr e st1 fun ds st2 => Φ (d :: ds) st2
def wTup (w : WA) : WE := fun e st Φ => w e st fun ds st1 => ds.length ≤ 100000 ∧ Φ (.tup ds) st1
def wLst (w : WA) : WE := fun e st Φ => w e st fun ds st1 => ds.length ≤ 100000 ∧ Φ (.lst ds) st1
def wLstO (w : WA) : WE := fun e st Φ => w e st fun ds st1 => ds.length ≤ 100000 ∧ ∀ p, Φ (.own p) (st1 ++ [(p, .lst ds)])
theorem sz {n : Nat} (h : n ≤ 100000) : n ≤ sizeLine := Nat.le_trans h (by decide)
section
variable {K : PySem.W.Frag} {ca : Cl → Addr} {ta tb tc te : TE} {wa wb wc we : WE} {tt tu : TT} {wt wu : WT} {t : TA} {w : WA}
/-- alloc at the end of the store -/
theorem Wd.allocE {B H : Hp} {st : Sto} {p : Addr} {b : OB} {o : HO} (w : Wd K ca B st H) (hp : H p = none) (r : ObR K ca B b o) : Wd K ca B (st ++ [(p, b)]) (upd H p o) ∧ Go B st H B (st ++ [(p, b)]) (upd H p o) := by
  obtain ⟨w1, g1⟩ := w.alloc hp r
  have pm : ∀ q, q ∈ st ++ [(p, b)] ↔ q ∈ (p, b) :: st := fun q => by
    simp only [List.mem_append, List.mem_cons, List.not_mem_nil, or_false]; exact Or.comm
  refine ⟨⟨w1.ex, ?_, fun q m => w1.fr q ((pm q).mp m), fun q m => w1.at_ q ((pm q).mp m)⟩, ⟨g1.ex, g1.fm, fun a m => ?_, g1.nb⟩⟩
  · have n := w1.nd
    rw [List.map_append]
    rw [List.map_cons] at n
    exact (List.perm_append_singleton p (st.map (·.1))).nodup_iff.mpr n
  · refine g1.nw a ?_
    obtain ⟨q, hq, e⟩ := List.mem_map.mp m
    exact List.mem_map.mpr ⟨q, (pm q).mp hq, e⟩
theorem le_var {i : Nat} : LE K ca (tVar i) (wVar i) := fun σ e B st H w er Φ Q k h => by
  obtain ⟨d, hd, hΦ⟩ := h
  obtain ⟨v, hv, r⟩ := er.get i d hd
  exact ⟨v, hv, k B st H v d (Go.refl w.ex) w r hΦ⟩
theorem le_c {d : D} {v : V} (r : ∀ B, Rp K ca B d v) : LE K ca (tC v) (wC d) := fun σ e B st H w er Φ Q k h => k B st H v d (Go.refl w.ex) w (r B) h
theorem la_nil : LA K ca tNil wNil := fun σ e B st H w er Φ Q k h => k B st H [] [] (Go.refl w.ex) w RpA.nil h
theorem la_cons (h1 : LE K ca ta wa) (h2 : LA K ca t w) : LA K ca (tCons ta t) (wCons wa w) := fun σ e B st H w er Φ Q k h =>
  h1 σ e B st H w er _ _ (fun B1 st1 H1 v d g1 w1 r1 h1' => h2 σ e B1 st1 H1 w1 (er.mono g1.ex) _ _ (fun B2 st2 H2 vs ds g2 w2 r2 h2' =>
    k B2 st2 H2 _ _ (g1.trans g2) w2 (RpA.cons (Rp.mono g2.ex d v r1) r2) h2') h1') h
theorem le_tup (h1 : LA K ca t w) : LE K ca (tTup t) (wTup w) := fun σ e B st H w er Φ Q k h =>
  h1 σ e B st H w er _ _ (fun B1 st1 H1 vs ds g1 w1 r1 h1' => by
    obtain ⟨hl, hΦ⟩ := h1'
    refine ⟨by rw [r1.len]; exact sz hl, fun p hp => ?_⟩
    obtain ⟨w2, g2⟩ := w1.new (o := .tup vs) hp
    exact k _ _ _ _ (.tup ds) (g1.trans g2) w2 ⟨p, vs, rfl, upd_same, RpA.mono g2.ex _ _ r1⟩ hΦ) h
theorem le_lst (h1 : LA K ca t w) : LE K ca (tLst t) (wLst w) := fun σ e B st H w er Φ Q k h =>
  h1 σ e B st H w er _ _ (fun B1 st1 H1 vs ds g1 w1 r1 h1' => by
    obtain ⟨hl, hΦ⟩ := h1'
    refine ⟨by rw [r1.len]; exact sz hl, fun p hp => ?_⟩
    obtain ⟨w2, g2⟩ := w1.new (o := .lst vs) hp
    exact k _ _ _ _ (.lst ds) (g1.trans g2) w2 ⟨p, vs, rfl, upd_same, RpA.mono g2.ex _ _ r1⟩ hΦ) h
theorem le_lstO (h1 : LA K ca t w) : LE K ca (tLst t) (wLstO w) := fun σ e B st H w er Φ Q k h =>
  h1 σ e B st H w er _ _ (fun B1 st1 H1 vs ds g1 w1 r1 h1' => by
    obtain ⟨hl, hΦ⟩ := h1'
    refine ⟨by rw [r1.len]; exact sz hl, fun p hp => ?_⟩
    obtain ⟨w2, g2⟩ := w1.allocE (b := .lst ds) (o := .lst vs) hp ⟨vs, rfl, r1⟩
    exact k _ _ _ _ (.own p) (g1.trans g2) w2 rfl (hΦ p)) h
end
section
variable {X : Cx} {ca : Cl → Addr} {ta tb tc te : TE} {wa wb wc we : WE} {tt tu : TT} {wt wu : WT} {t : TA} {w : WA} {e : Expr} {es : List Expr} {pos : Pos} {kk : Nat}
theorem de_var (i : Nat) {x : Str} {pos : Pos} (hN : X.N[i]? = some x := by rfl) (hv : Vis X.env.scope x := by first | exact Or.inl rfl | exact Or.inr (Or.inl rfl) | exact Or.inr (Or.inr rfl)) (hd : (x == ("__debug__" : Str)) = false := by decide)
    (hcd : (x == ("__classdict__" : Str)) = false := by decide) : DE X ca (.Name x pos) (tVar i) (wVar i) := ⟨pe_var hN hv hd hcd, le_var⟩
theorem de_int {i : Int} {j pos} : DE X ca (.Constant (.int i) j pos) (tC (.int i)) (wC (.int i)) := ⟨pe_int, le_c fun _ => rfl⟩
theorem de_bl {b : Bool} {j pos} : DE X ca (.Constant (.bool b) j pos) (tC (.bl b)) (wC (.bl b)) := ⟨pe_bl, le_c fun _ => rfl⟩
theorem de_non {j pos} : DE X ca (.Constant .none j pos) (tC .non) (wC .non) := ⟨pe_non, le_c fun _ => rfl⟩
theorem de_str {x : Str} {j pos} : DE X ca (.Constant (.str x) j pos) (tC (.str x)) (wC (.str x)) := ⟨pe_str, le_c fun _ => rfl⟩
theorem de_gint {i : Int} {x : Str} (hg : Gl X x) (h : ∃ u, X.mg x = some (.int i u)) (hd : (x == ("__debug__" : Str)) = false := by decide) : DE X ca (.Name x pos) (tC (.int i)) (wC (.int i)) := by
  obtain ⟨u, hm⟩ := h
  exact ⟨pe_glob hg hm ⟨u, rfl⟩ hd, le_c fun _ => rfl⟩
theorem da_nil : DA X ca [] tNil wNil := ⟨pa_nil, la_nil⟩
theorem da_cons (h1 : DE X ca e ta wa) (h2 : DA X ca es t w) (hs : starEach (e :: es) X.env = (false, eval e X.env) :: starEach es X.env := by rfl) : DA X ca (e :: es) (tCons ta t) (wCons wa w) := ⟨pa_cons h1.pe h2.pa hs, la_cons h1.le h2.le⟩
theorem de_tup (h : DA X ca es t w) : DE X ca (.Tuple es kk pos) (tTup t) (wTup w) := ⟨pe_tup h.pa, le_tup h.le⟩
theorem de_lst (h : DA X ca es t w) : DE X ca (.List es pos) (tLst t) (wLst w) := ⟨pe_lst h.pa, le_lst h.le⟩
theorem de_lstO (h : DA X ca es t w) : DE X ca (.List es pos) (tLst t) (wLstO w) := ⟨pe_lst h.pa, le_lstO h.le⟩
end

/-! ### statements -/
def wNext : WS := fun F e st => F.nx e st
def wSeq (a b : WS) : WS := fun F e st => a { F with nx := b F } e st
def wRet (wa : WE) : WS := fun F e st => wa e st F.rt
def wRetN : WS := fun F _ st => F.rt .non st
def wDrop (wa : WE) : WS := fun F e st => wa e st fun _ st1 => F.nx e st1
def wIf (wt : WT) (a b : WS) : WS := fun F e st => wt e st fun c st1 => if c = true then a F e st1 else b F e st1
def wNever : WS := fun _ _ _ => False
def wAsg (wa : WE) (wg : WG) : WS := fun F e st => wa e st fun d st1 => wg d e st1 F.nx
def gwName (i : Nat) : WG := fun d e st Φ => Φ (e.set i (some d)) st
def forgo (wg : WG) (wb : WS) (F : DEnds) : List D → Env → Sto → Prop
  | [], e, st => F.nx e st
  | d :: r, e, st => wg d e st fun e1 st1 => wb { F with nx := forgo wg wb F r, ct := forgo wg wb F r, bk := F.nx } e1 st1
def wFor (wi : WA) (wg : WG) (wb : WS) : WS := fun F e st => wi e st fun ds st1 => forgo wg wb F ds e st1
section
variable {K : PySem.W.Frag} {ca : Cl → Addr} {ta tb tc te : TE} {wa wb wc we : WE} {tt tu : TT} {wt wu : WT} {t : TA} {w : WA} {ts tz : TS} {ws wz : WS} {tg : TG} {wg : WG} {ti : TI} {wi : WA}
theorem ER.mono {B st H B' st' H'} {E : Ends} {F : DEnds} (r : ER K ca B st H E F) (g : Go B st H B' st' H') : ER K ca B' st' H' E F :=
  ⟨fun σ' e' B2 st2 H2 g2 => r.nx σ' e' B2 st2 H2 (g.trans g2), fun B2 st2 H2 v d g2 => r.rt B2 st2 H2 v d (g.trans g2), fun σ' e' B2 st2 H2 g2 => r.bk σ' e' B2 st2 H2 (g.trans g2), fun σ' e' B2 st2 H2 g2 => r.ct σ' e' B2 st2 H2 (g.trans g2)⟩
theorem ls_next : LS K ca tNext wNext := fun σ e B st H w er E F r h => r.nx σ e B st H (Go.refl w.ex) w er h
theorem ls_seq (h1 : LS K ca ts ws) (h2 : LS K ca tz wz) : LS K ca (tSeq ts tz) (wSeq ws wz) := fun σ e B st H w er E F r h =>
  h1 σ e B st H w er { E with nx := tz E } { F with nx := wz F } ⟨fun σ' e' B1 st1 H1 g1 w1 er1 h1' => h2 σ' e' B1 st1 H1 w1 er1 E F (r.mono g1) h1', r.rt, r.bk, r.ct⟩ h
theorem ls_ret (h1 : LE K ca ta wa) : LS K ca (tRet ta) (wRet wa) := fun σ e B st H w er E F r h => h1 σ e B st H w er _ _ r.rt h
theorem ls_retN : LS K ca tRetN wRetN := fun σ e B st H w er E F r h => r.rt B st H .non .non (Go.refl w.ex) w rfl h
theorem ls_drop (h1 : LE K ca ta wa) : LS K ca (tDrop ta) (wDrop wa) := fun σ e B st H w er E F r h =>
  h1 σ e B st H w er _ _ (fun B1 st1 H1 v d g1 w1 _ hn => r.nx σ e B1 st1 H1 g1 w1 (er.mono g1.ex) hn) h
theorem ls_if (h0 : LT K ca tt wt) (h1 : LS K ca ts ws) (h2 : LS K ca tz wz) : LS K ca (tIfS tt ts tz) (wIf wt ws wz) := fun σ e B st H w er E F r h =>
  h0 σ e B st H w er _ _ (fun B1 st1 H1 b g1 w1 hc => by
    cases b with
    | true => exact h1 σ e B1 st1 H1 w1 (er.mono g1.ex) E F (r.mono g1) hc
    | false => exact h2 σ e B1 st1 H1 w1 (er.mono g1.ex) E F (r.mono g1) hc) h
theorem ls_never : LS K ca tNever wNever := fun _ _ _ _ _ _ _ _ _ _ h => h.elim
theorem ls_asg (h1 : LE K ca ta wa) (h2 : LG K ca tg wg) : LS K ca (tAsg ta tg) (wAsg wa wg) := fun σ e B st H w er E F r h =>
  h1 σ e B st H w er _ _ (fun B1 st1 H1 v d g1 w1 r1 hg => h2 σ e B1 st1 H1 v d w1 (er.mono g1.ex) r1 _ _ (fun σ' e' B2 st2 H2 g2 w2 er2 hn => r.nx σ' e' B2 st2 H2 (g1.trans g2) w2 er2 hn) hg) h
theorem lg_name {i : Nat} : LG K ca (gName i) (gwName i) := fun σ e B st H v d w er r Φ Q k h => k _ _ B st H (Go.refl w.ex) w (er.set i r) h
theorem ls_for (h0 : LI K ca ti wi) (h1 : LG K ca tg wg) (h2 : LS K ca ts ws) : LS K ca (tFor ti tg ts) (wFor wi wg ws) := fun σ e B st H w er E F r h =>
  h0 σ e B st H w er _ _ (fun B1 st1 H1 J ds g1 w1 wk hf => by
    refine ⟨fun i m σ' H' => ∃ e' B' st', m = ds.length - i ∧ i ≤ ds.length ∧ Go B st H B' st' H' ∧ Ex B1 B' ∧ Wd K ca B' st' H' ∧ EnvR K ca B' σ' e' ∧ forgo wg ws F (ds.drop i) e' st',
      ⟨_, e, B1, st1, rfl, Nat.zero_le _, g1, Ex.refl _, w1, er.mono g1.ex, hf⟩, fun i m σ' H' hw => ?_⟩
    obtain ⟨e', B', st', rfl, hi, g', x', w', er', hf'⟩ := hw
    by_cases hlt : i < ds.length
    · refine .inr ⟨wk.go i H' hlt (x'.trans w'.ex), fun σ2 H2 => ∃ e2 B2 st2, Go B st H B2 st2 H2 ∧ Ex B1 B2 ∧ Wd K ca B2 st2 H2 ∧ EnvR K ca B2 σ2 e2 ∧ forgo wg ws F (ds.drop (i + 1)) e2 st2,
        fun σ2 H2 hN => ?_, fun x H2 hy => ?_⟩
      · obtain ⟨e2, B2, st2, a, b, c, d, f⟩ := hN
        exact ⟨ds.length - (i + 1), by omega, e2, B2, st2, rfl, hlt, a, b, c, d, f⟩
      · obtain ⟨B2, d, g2, w2, hd, rd⟩ := wk.yld i H' x H2 B' st' hlt x' w' hy
        have e0 : ds.drop i = d :: ds.drop (i + 1) := by
          rw [List.drop_eq_getElem_cons hlt]
          rw [List.getElem?_eq_getElem hlt] at hd
          rw [Option.some.inj hd]
        rw [e0] at hf'
        refine h1 σ' e' B2 st' H2 x d w2 (er'.mono g2.ex) rd _ _ (fun σ3 e3 B3 st3 H3 g3 w3 er3 hb => ?_) hf'
        have g03 := (g'.trans g2).trans g3
        have rr := r.mono g03
        refine h2 σ3 e3 B3 st3 H3 w3 er3 _ { F with nx := forgo wg ws F (ds.drop (i + 1)), ct := forgo wg ws F (ds.drop (i + 1)), bk := F.nx } ⟨fun σ4 e4 B4 st4 H4 g4 w4 er4 hn => ⟨e4, B4, st4, g03.trans g4, ((x'.trans g2.ex).trans g3.ex).trans g4.ex, w4, er4, hn⟩, rr.rt, rr.nx, fun σ4 e4 B4 st4 H4 g4 w4 er4 hn => ⟨e4, B4, st4, g03.trans g4, ((x'.trans g2.ex).trans g3.ex).trans g4.ex, w4, er4, hn⟩⟩ hb
    · have ei : i = ds.length := by omega
      subst ei
      refine .inl ⟨wk.stop H' (x'.trans w'.ex), r.nx σ' e' B' st' H' g' w' er' ?_⟩
      rw [List.drop_length] at hf'
      exact hf') h
end
section
variable {X : Cx} {ca : Cl → Addr} {ta tb tc te : TE} {wa wb wc we : WE} {tt tu : TT} {wt wu : WT} {t : TA} {w : WA} {e : Expr} {es : List Expr} {pos : Pos} {s : Stmt} {ss sz : List Stmt} {ts tz : TS} {ws wz : WS} {tg : TG} {wg : WG} {ti : TI} {wi : WA} {x : Expr}
theorem dss_nil : DSs X ca [] tNext wNext := ⟨pss_nil, ls_next⟩
theorem dss_one (h : DS X ca s ts ws) : DSs X ca [s] ts ws := ⟨pss_one h.ps, h.le⟩
theorem dss_cons (h1 : DS X ca s ts ws) (h2 : DSs X ca ss tz wz) : DSs X ca (s :: ss) (tSeq ts tz) (wSeq ws wz) := ⟨pss_cons h1.ps h2.ps, ls_seq h1.le h2.le⟩
theorem ds_ret (h : DE X ca e ta wa) : DS X ca (.Return (some e) pos) (tRet ta) (wRet wa) := ⟨ps_ret h.pe, ls_ret h.le⟩
theorem ds_retN : DS X ca (.Return none pos) tRetN wRetN := ⟨ps_retN, ls_retN⟩
theorem ds_expr (h : DE X ca e ta wa) (hs : swapsWith e none pos.line X.env = pure false := by rfl) : DS X ca (.Expr e pos) (tDrop ta) (wDrop wa) := ⟨ps_expr h.pe hs, ls_drop h.le⟩
theorem ds_if (h0 : DT X ca e tt wt) (h1 : DSs X ca ss ts ws) (h2 : DSs X ca sz tz wz) : DS X ca (.If e ss sz pos) (tIfS tt ts tz) (wIf wt ws wz) := ⟨ps_if h0.pt h1.ps h2.ps, ls_if h0.le h1.le h2.le⟩
theorem ds_never : DS X ca s tNever wNever := ⟨ps_never, ls_never⟩
theorem dss_never : DSs X ca ss tNever wNever := ⟨pss_never, ls_never⟩
theorem ds_asg (h1 : DE X ca e ta wa) (h2 : DG X ca x tg wg) (hs : swapsWithSole [x] e pos.line X.env = pure false := by rfl) (hw : swappedStores [x] e X.env = pure none := by rfl)
    (h3 : (assignEach [x] X.env).map (·.2) = [assign x X.env] := by rfl) : DS X ca (.Assign [x] e pos) (tAsg ta tg) (wAsg wa wg) := ⟨ps_asg h1.pe h2.pg hs hw h3, ls_asg h1.le h2.le⟩
theorem ds_set (i : Nat) {y : Str} {pos' : Pos} (hN : X.N.Nodup) (h1 : DE X ca e ta wa) (hi : X.N[i]? = some y := by rfl) (hx : Loc X.env.scope y := by first | exact Or.inl rfl | exact Or.inr rfl)
    (hs : swapsWith e (some (.Name y pos')) pos.line X.env = pure false := by rfl) (hf : X.fn y = true ∨ X.env.scope.names.lookup y = some .local := by first | exact .inl rfl | exact .inr rfl) :
    DS X ca (.Assign [.Name y pos'] e pos) (tAsg ta (gName i)) (wAsg wa (gwName i)) := ⟨ps_set hN hi hx h1.pe hs hf, ls_asg h1.le lg_name⟩
theorem dg_name (i : Nat) {y : Str} (hN : X.N.Nodup) (hi : X.N[i]? = some y := by rfl) (hx : Loc X.env.scope y := by first | exact Or.inl rfl | exact Or.inr rfl)
    (hf : X.fn y = true ∨ X.env.scope.names.lookup y = some .local := by first | exact .inl rfl | exact .inr rfl) : DG X ca (.Name y pos) (gName i) (gwName i) := ⟨pg_name hN hi hx hf, lg_name⟩
theorem ds_for {it : Expr} (hi : DI X ca x it ti wi) (hg : DG X ca x tg wg) (hb : DSs X ca ss ts ws) (hp : PassesOwn (model X.prog X.w) X.A X.env X.xe := by exact PassesOwn.never) (hc : X.calm = true := by rfl)
    (hs : ∀ x, foldedSetIterable it X.env x = pure x := by intro _; rfl) : DS X ca (.For x it ss [] pos) (tFor ti tg ts) (wFor wi wg ws) := ⟨ps_for hp hc hi.pi hg.pg hb.ps hs, ls_for hi.le hg.le hb.le⟩
end
end DL

set_option Elab.async false
set_option linter.all false
set_option maxRecDepth 100000
set_option maxHeartbeats 0
namespace DL
open PySem L2
/-! ### lists and tuples as they stand -/
def LstOf (st : Sto) (x : D) (ds : List D) : Prop := x = .lst ds ∨ ∃ (j : Nat) (a : Addr), x = .own a ∧ st[j]? = some (a, .lst ds)
def SqOf (st : Sto) (x : D) (ds : List D) : Prop := LstOf st x ds ∨ x = .tup ds
def SR (K : PySem.W.Frag) (ca : Cl → Addr) (r : R2) (P : D → D → Sto → D → Prop) : Prop := ∀ (B : Hp) (st : Sto) (H : Hp) (x y : V) (dx dy d : D) (Q : VK), Wd K ca B st H → Rp K ca B dx x → Rp K ca B dy y → P dx dy st d →
  (∀ B' H' v, Go B st H B' st H' → Wd K ca B' st H' → Rp K ca B' d v → Q v H') → r x y H Q
def SC (K : PySem.W.Frag) (ca : Cl → Addr) (r : List V → Hp → VK → Prop) (P : List D → Sto → D → Prop) : Prop := ∀ (B : Hp) (st : Sto) (H : Hp) (xs : List V) (ds : List D) (d : D) (Q : VK), Wd K ca B st H → RpA K ca B ds xs → P ds st d →
  (∀ B' H' v, Go B st H B' st H' → Wd K ca B' st H' → Rp K ca B' d v → Q v H') → r xs H Q
section
variable {K : PySem.W.Frag} {ca : Cl → Addr} {B B' H H' : Hp} {st : Sto} {x y d : D} {v u : V} {ds es : List D}
theorem LstOf.rd (w : Wd K ca B st H) (r : Rp K ca B x v) (h : LstOf st x ds) : ∃ a xs, v = .ref a ∧ H a = some (.lst xs) ∧ RpA K ca B ds xs := by
  rcases h with rfl | ⟨j, a, rfl, h⟩
  · obtain ⟨a, xs, rfl, q, r⟩ := r
    exact ⟨a, xs, rfl, w.ex _ _ q, r⟩
  · obtain ⟨o, ho, xs, rfl, rr⟩ := w.at' h
    exact ⟨a, xs, r, ho, rr⟩
theorem tup_rd (w : Wd K ca B st H) (r : Rp K ca B (.tup ds) v) : ∃ a xs, v = .ref a ∧ H a = some (.tup xs) ∧ RpA K ca B ds xs := by
  obtain ⟨a, xs, rfl, q, r⟩ := r
  exact ⟨a, xs, rfl, w.ex _ _ q, r⟩
theorem SqOf.rd (w : Wd K ca B st H) (r : Rp K ca B x v) (h : SqOf st x ds) : ∃ a xs, v = .ref a ∧ (H a = some (.lst xs) ∨ H a = some (.tup xs)) ∧ RpA K ca B ds xs := by
  rcases h with h | rfl
  · obtain ⟨a, xs, e, q, r⟩ := h.rd w r
    exact ⟨a, xs, e, .inl q, r⟩
  · obtain ⟨a, xs, e, q, r⟩ := tup_rd w r
    exact ⟨a, xs, e, .inr q, r⟩
theorem SR.or {r r' : R2} {P P' : D → D → Sto → D → Prop} (h : SR K ca r P) (h' : SR K ca r' P') : SR K ca (fun x y H Q => r x y H Q ∨ r' x y H Q) (fun x y st d => P x y st d ∨ P' x y st d) :=
  fun B st H x y dx dy d Q w rx ry p k => by
    rcases p with p | p
    · exact .inl (h B st H x y dx dy d Q w rx ry p k)
    · exact .inr (h' B st H x y dx dy d Q w rx ry p k)
def PII (C : Int → Int → Prop) (g : Int → Int → D) : D → D → Sto → D → Prop := fun x y _ d => ∃ i j, x = .int i ∧ y = .int j ∧ C i j ∧ d = g i j
def PI0 (g : Int → Int → D) : D → D → Sto → D → Prop := fun x y _ d => ∃ i j, x = .int i ∧ y = .int j ∧ d = g i j
theorem sr_I {C : Int → Int → Prop} {f : Int → Int → Int} : SR K ca (rI C fun i j => .int (f i j)) (PII C fun i j => .int (f i j)) := fun B st H x y dx dy d Q w rx ry p k => by
  obtain ⟨i, j, rfl, rfl, c, rfl⟩ := p
  exact ⟨i, j, rx, ry, c, k B H _ (Go.refl w.ex) w rfl⟩
theorem sr_I0 {f : Int → Int → Int} : SR K ca (rI0 fun i j => .int (f i j)) (PI0 fun i j => .int (f i j)) := fun B st H x y dx dy d Q w rx ry p k => by
  obtain ⟨i, j, rfl, rfl, rfl⟩ := p
  exact ⟨i, j, rx, ry, k B H _ (Go.refl w.ex) w rfl⟩
theorem sr_B0 {f : Int → Int → Bool} : SR K ca (rI0 fun i j => .bl (f i j)) (PI0 fun i j => .bl (f i j)) := fun B st H x y dx dy d Q w rx ry p k => by
  obtain ⟨i, j, rfl, rfl, rfl⟩ := p
  exact ⟨i, j, rx, ry, k B H _ (Go.refl w.ex) w rfl⟩
def PCat : D → D → Sto → D → Prop := fun x y st d => ∃ a b, LstOf st x a ∧ LstOf st y b ∧ a.length + b.length ≤ 100000 ∧ d = .lst (a ++ b)
theorem sr_cat : SR K ca rCat PCat := fun B st H x y dx dy d Q w rx ry p k => by
  obtain ⟨a, b, ha, hb, hl, rfl⟩ := p
  obtain ⟨p1, xs, rfl, h1, r1⟩ := ha.rd w rx
  obtain ⟨p2, ys, rfl, h2, r2⟩ := hb.rd w ry
  refine ⟨p1, p2, xs, ys, rfl, rfl, h1, h2, by rw [r1.len, r2.len]; exact sz hl, fun p hp => ?_⟩
  obtain ⟨w2, g2⟩ := w.new (o := .lst (xs ++ ys)) hp
  exact k _ _ _ g2 w2 ⟨p, _, rfl, upd_same, RpA.mono g2.ex _ _ (r1.append r2)⟩
def PCatT : D → D → Sto → D → Prop := fun x y _ d => ∃ a b, x = .tup a ∧ y = .tup b ∧ a.length + b.length ≤ 100000 ∧ d = .tup (a ++ b)
theorem sr_catT : SR K ca (rCatA K) PCatT := fun B st H x y dx dy d Q w rx ry p k => by
  obtain ⟨a, b, rfl, rfl, hl, rfl⟩ := p
  obtain ⟨p1, xs, rfl, h1, r1⟩ := tup_rd w rx
  obtain ⟨p2, ys, rfl, h2, r2⟩ := tup_rd w ry
  refine ⟨p1, p2, xs, ys, rfl, rfl, SqT.of h1, SqT.of h2, by rw [r1.len, r2.len]; exact sz hl, fun e => ?_, fun _ e => ?_, fun _ _ p hp => ?_⟩
  · subst e
    have : a = [] := List.length_eq_zero_iff.mp (by rw [← r1.len]; rfl)
    subst this
    exact k B H _ (Go.refl w.ex) w ry
  · subst e
    have : b = [] := List.length_eq_zero_iff.mp (by rw [← r2.len]; rfl)
    subst this
    rw [List.append_nil] at *
    exact k B H _ (Go.refl w.ex) w rx
  · obtain ⟨w2, g2⟩ := w.new (o := .tup (xs ++ ys)) hp
    exact k _ _ _ g2 w2 ⟨p, _, rfl, upd_same, RpA.mono g2.ex _ _ (r1.append r2)⟩
def PRep : D → D → Sto → D → Prop := fun x y st d => ∃ a k, LstOf st x a ∧ y = .int k ∧ 0 ≤ k ∧ k ≤ 1000 ∧ a.length ≤ 100 ∧ d = .lst (List.replicate k.toNat a).flatten
theorem rep_rp {xs : List V} (r : RpA K ca B ds xs) : ∀ n : Nat, RpA K ca B (List.replicate n ds).flatten (List.replicate n xs).flatten
  | 0 => by simp; exact rfl
  | n + 1 => by
    rw [List.replicate_succ, List.replicate_succ, List.flatten_cons, List.flatten_cons]
    exact r.append (rep_rp r n)
theorem sr_rep : SR K ca rRep PRep := fun B st H x y dx dy d Q w rx ry p k => by
  obtain ⟨a, n, ha, rfl, h0, h1, hl, rfl⟩ := p
  obtain ⟨p1, xs, rfl, h2, r1⟩ := ha.rd w rx
  have : (2:Int)^63 = 9223372036854775808 := by decide
  refine ⟨p1, n, xs, rfl, ry, h2, by omega, by omega, ?_, fun p hp => ?_⟩
  · have hb : n.toNat ≤ 1000 := by omega
    refine sz (Nat.le_trans (Nat.mul_le_mul (by rw [r1.len]; exact hl) hb) (by decide))
  · obtain ⟨w2, g2⟩ := w.new (o := .lst (List.replicate n.toNat xs).flatten) hp
    exact k _ _ _ g2 w2 ⟨p, _, rfl, upd_same, RpA.mono g2.ex _ _ (rep_rp r1 _)⟩
/-! ### comparisons -/
def toPy : Nat → D → PyData
  | _, .int i => .int i
  | n + 1, .tup ds => .tuple (ds.map (toPy n))
  | n + 1, .lst ds => .list (ds.map (toPy n))
  | _, _ => .none
def okI : Nat → D → Bool
  | _, .int _ => true
  | n + 1, .tup ds => ds.all (okI n)
  | n + 1, .lst ds => ds.all (okI n)
  | _, _ => false
theorem dp_all {n : Nat} (ih : ∀ d v, okI n d = true → Rp K ca B d v → Dp K H v (toPy n d)) : ∀ (ds : List D) (xs : List V), ds.all (okI n) = true → RpA K ca B ds xs → DpAll K H xs (ds.map (toPy n))
  | [], xs, _, r => by cases (show xs = [] from r); exact .nil
  | d :: ds, xs, h, r => by
    obtain ⟨x, t, rfl, r1, r2⟩ := r
    rw [List.all_cons, Bool.and_eq_true] at h
    exact .cons (ih d x h.1 r1) (dp_all ih ds t h.2 r2)
theorem dp_of (ex : Ex B H) : ∀ (n : Nat) (d : D) (v : V), okI n d = true → Rp K ca B d v → Dp K H v (toPy n d)
  | n, .int i, v, _, r => by
    cases (show v = .int i from r)
    cases n <;> exact .int i
  | n + 1, .tup ds, v, h, r => by
    obtain ⟨a, xs, rfl, q, r⟩ := r
    exact .tup (SqT.of (ex _ _ q)) (dp_all (fun d v => dp_of ex n d v) ds xs h r)
  | n + 1, .lst ds, v, h, r => by
    obtain ⟨a, xs, rfl, q, r⟩ := r
    exact .lst (SqL.of (ex _ _ q)) (dp_all (fun d v => dp_of ex n d v) ds xs h r)
  | 0, .tup _, _, h, _ => by cases h
  | 0, .lst _, _, h, _ => by cases h
  | n, .non, _, h, _ => by cases n <;> cases h
  | n, .bl _, _, h, _ => by cases n <;> cases h
  | n, .str _, _, h, _ => by cases n <;> cases h
  | n, .scr _, _, h, _ => by cases n <;> cases h
  | n, .obj _ _, _, h, _ => by cases n <;> cases h
  | n, .own _, _, h, _ => by cases n <;> cases h
  | n, .ftp _, _, h, _ => by cases n <;> cases h
  | n, .rg _, _, h, _ => by cases n <;> cases h
theorem lay_all {n : Nat} (ih : ∀ d, okI n d = true → PyData.canLay0 (toPy n d) = true ∧ (toPy n d).depth ≤ n + 1) : ∀ ds : List D, ds.all (okI n) = true → PyData.canLayAll0 (ds.map (toPy n)) = true ∧ PyData.depthAll (ds.map (toPy n)) ≤ n + 1
  | [], _ => by simp [PyData.canLayAll0, PyData.depthAll]
  | d :: ds, h => by
    rw [List.all_cons, Bool.and_eq_true] at h
    obtain ⟨h1, h2⟩ := ih d h.1
    obtain ⟨h3, h4⟩ := lay_all ih ds h.2
    rw [List.map_cons]
    simp only [PyData.canLayAll0, PyData.depthAll, h1, h3, Bool.and_self, true_and]
    omega
theorem lay_of : ∀ (n : Nat) (d : D), okI n d = true → PyData.canLay0 (toPy n d) = true ∧ (toPy n d).depth ≤ n + 1
  | n, .int i, _ => by cases n <;> simp [toPy, PyData.canLay0, PyData.depth]
  | n + 1, .tup ds, h => by
    obtain ⟨h1, h2⟩ := lay_all (lay_of n) ds h
    exact ⟨by simpa [toPy, PyData.canLay0] using h1, by simp only [toPy, PyData.depth]; omega⟩
  | n + 1, .lst ds, h => by
    obtain ⟨h1, h2⟩ := lay_all (lay_of n) ds h
    exact ⟨by simpa [toPy, PyData.canLay0] using h1, by simp only [toPy, PyData.depth]; omega⟩
  | 0, .tup _, h => by cases h
  | 0, .lst _, h => by cases h
  | n, .non, h => by cases n <;> cases h
  | n, .bl _, h => by cases n <;> cases h
  | n, .str _, h => by cases n <;> cases h
  | n, .scr _, h => by cases n <;> cases h
  | n, .obj _ _, h => by cases n <;> cases h
  | n, .own _, h => by cases n <;> cases h
  | n, .ftp _, h => by cases n <;> cases h
  | n, .rg _, h => by cases n <;> cases h
theorem eqv_all {n : Nat} (ih : ∀ d e, okI n d = true → okI n e = true → (PyData.eqv (toPy n d) (toPy n e) = true ↔ d = e)) : ∀ ds es : List D, ds.all (okI n) = true → es.all (okI n) = true → (PyData.eqvAll (ds.map (toPy n)) (es.map (toPy n)) = true ↔ ds = es)
  | [], [], _, _ => by simp [PyData.eqvAll]
  | [], e :: es, _, _ => by simp [PyData.eqvAll]
  | d :: ds, [], _, _ => by simp [PyData.eqvAll]
  | d :: ds, e :: es, h, g => by
    rw [List.all_cons, Bool.and_eq_true] at h g
    simp only [List.map_cons, PyData.eqvAll, Bool.and_eq_true, ih d e h.1 g.1, eqv_all ih ds es h.2 g.2, List.cons.injEq]
theorem eqv_of : ∀ (n : Nat) (d e : D), okI n d = true → okI n e = true → (PyData.eqv (toPy n d) (toPy n e) = true ↔ d = e) := by
  intro n
  induction n with
  | zero =>
    intro d e h g
    cases d <;> first | (cases h; done) | skip
    cases e <;> first | (cases g; done) | skip
    simp [toPy, PyData.eqv]
  | succ n ih =>
    intro d e h g
    cases d <;> first | (cases h; done) | skip
    all_goals (cases e <;> first | (cases g; done) | skip)
    all_goals first
      | (simp [toPy, PyData.eqv]; done)
      | skip
    · rename_i a b
      have := eqv_all ih a b h g
      simpa [toPy, PyData.eqv] using this
    · rename_i a b
      have := eqv_all ih a b h g
      simpa [toPy, PyData.eqv] using this
theorem shaped_of {n : Nat} (hn : n ≤ 60) {d : D} (h : okI n d = true) : SeqAt.shaped (toPy n d) = true := by
  obtain ⟨h1, h2⟩ := lay_of n d h
  unfold SeqAt.shaped
  rw [h1]
  simp only [Bool.true_and, decide_eq_true_eq]
  omega
abbrev okD : D → Bool := okI 8
def PEqD : D → D → Sto → D → Prop := fun x y _ d => okD x = true ∧ okD y = true ∧ ∃ b : Bool, d = .bl b ∧ (b = true ↔ x = y)
def PNeD : D → D → Sto → D → Prop := fun x y _ d => okD x = true ∧ okD y = true ∧ ∃ b : Bool, d = .bl b ∧ (b = true ↔ ¬ x = y)
theorem sr_eqD : SR K ca (rEqD K) PEqD := fun B st H x y dx dy d Q w rx ry p k => by
  obtain ⟨hx, hy, b, rfl, hb⟩ := p
  refine ⟨_, _, dp_of w.ex 8 dx x hx rx, dp_of w.ex 8 dy y hy ry, shaped_of (by decide) hx, shaped_of (by decide) hy, k B H _ (Go.refl w.ex) w ?_⟩
  have := eqv_of 8 dx dy hx hy
  exact congrArg V.bl (Bool.eq_iff_iff.mpr (this.trans hb.symm))
theorem sr_neD : SR K ca (rNeD K) PNeD := fun B st H x y dx dy d Q w rx ry p k => by
  obtain ⟨hx, hy, b, rfl, hb⟩ := p
  refine ⟨_, _, dp_of w.ex 8 dx x hx rx, dp_of w.ex 8 dy y hy ry, shaped_of (by decide) hx, shaped_of (by decide) hy, k B H _ (Go.refl w.ex) w ?_⟩
  have := eqv_of 8 dx dy hx hy
  refine congrArg V.bl (Bool.eq_iff_iff.mpr ?_)
  rw [hb, ← this, Bool.not_eq_true', Bool.not_eq_true]
def PEqS : D → D → Sto → D → Prop := fun x y _ d => (∃ i j, x = .int i ∧ y = .int j ∧ d = .bl (decide (i = j))) ∨ (∃ i j, x = .str i ∧ y = .str j ∧ d = .bl (decide (i = j)))
def PNeS : D → D → Sto → D → Prop := fun x y _ d => (∃ i j, x = .int i ∧ y = .int j ∧ d = .bl (!decide (i = j))) ∨ (∃ i j, x = .str i ∧ y = .str j ∧ d = .bl (!decide (i = j)))
theorem sr_eqS : SR K ca rEq PEqS := fun B st H x y dx dy d Q w rx ry p k => by
  rcases p with ⟨i, j, rfl, rfl, rfl⟩ | ⟨i, j, rfl, rfl, rfl⟩
  · cases (show x = .int i from rx)
    cases (show y = .int j from ry)
    exact ⟨rfl, k B H _ (Go.refl w.ex) w (by show V.bl (decide (V.int i = V.int j)) = V.bl (decide (i = j)); simp)⟩
  · cases (show x = .str i from rx)
    cases (show y = .str j from ry)
    exact ⟨rfl, k B H _ (Go.refl w.ex) w (by show V.bl (decide (V.str i = V.str j)) = V.bl (decide (i = j)); simp)⟩
theorem sr_neS : SR K ca rNe PNeS := fun B st H x y dx dy d Q w rx ry p k => by
  rcases p with ⟨i, j, rfl, rfl, rfl⟩ | ⟨i, j, rfl, rfl, rfl⟩
  · cases (show x = .int i from rx)
    cases (show y = .int j from ry)
    exact ⟨rfl, k B H _ (Go.refl w.ex) w (by show V.bl (!decide (V.int i = V.int j)) = V.bl (!decide (i = j)); simp)⟩
  · cases (show x = .str i from rx)
    cases (show y = .str j from ry)
    exact ⟨rfl, k B H _ (Go.refl w.ex) w (by show V.bl (!decide (V.str i = V.str j)) = V.bl (!decide (i = j)); simp)⟩
def PInF (neg : Bool) : D → D → Sto → D → Prop := fun x y st d => ∃ (i : Int) (ns : List Int), x = .int i ∧ SqOf st y (ns.map D.int) ∧ d = .bl (if neg then !decide (i ∈ ns) else decide (i ∈ ns))
theorem rpa_ints : ∀ {ns : List Int} {xs : List V}, RpA K ca B (ns.map D.int) xs → xs = ns.map V.int
  | [], xs, r => r
  | n :: ns, xs, r => by
    obtain ⟨x, t, rfl, r1, r2⟩ := r
    cases (show x = .int n from r1)
    rw [rpa_ints r2]; rfl
theorem rpa_bls : ∀ {ns : List Bool} {xs : List V}, RpA K ca B (ns.map D.bl) xs → xs = ns.map V.bl
  | [], xs, r => r
  | n :: ns, xs, r => by
    obtain ⟨x, t, rfl, r1, r2⟩ := r
    cases (show x = .bl n from r1)
    rw [rpa_bls r2]; rfl
theorem inV_ints (i : Int) (ns : List Int) : inV (.int i) (ns.map V.int) = decide (i ∈ ns) := by
  unfold inV
  rw [List.any_map]
  induction ns with
  | nil => simp
  | cons n ns ih =>
    rw [List.any_cons, ih]
    simp only [Function.comp, eqV, List.mem_cons]
    by_cases h : n = i
    · subst h; simp
    · have h' : ¬ i = n := fun e => h e.symm
      simp [h, h']
theorem sr_inF {neg : Bool} : SR K ca (rIn K neg) (PInF neg) := fun B st H x y dx dy d Q w rx ry p k => by
  obtain ⟨i, ns, rfl, hs, rfl⟩ := p
  obtain ⟨a, xs, rfl, hq, r⟩ := hs.rd w ry
  have e := rpa_ints r
  subst e
  cases (show x = .int i from rx)
  refine ⟨a, _, rfl, hq.elim (fun q => .inl (SqL.of q)) (fun q => .inr (SqT.of q)), rfl, by simp [flatV], k B H _ (Go.refl w.ex) w ?_⟩
  rw [inV_ints]; rfl
def PInD (neg : Bool) : D → D → Sto → D → Prop := fun x y st d => ∃ ds, LstOf st y ds ∧ okI 7 x = true ∧ (∀ e ∈ ds, okI 7 e = true) ∧ ∃ b : Bool, d = .bl (if neg then !b else b) ∧ (b = true ↔ x ∈ ds)
theorem dpl {ds : List D} {v : V} (w : Wd K ca B st H) (r : Rp K ca B y v) (h : LstOf st y ds) (ok : ∀ e ∈ ds, okI 7 e = true) : Dp K H v (.list (ds.map (toPy 7))) := by
  obtain ⟨a, xs, rfl, ha, r⟩ := h.rd w r
  exact .lst (SqL.of ha) (dp_all (fun d v => dp_of w.ex 7 d v) ds xs (List.all_eq_true.mpr ok) r)
theorem in_iff {x : D} {ds : List D} (hx : okI 7 x = true) (ok : ∀ e ∈ ds, okI 7 e = true) : ((ds.map (toPy 7)).any fun z => PyData.eqv z (toPy 7 x)) = true ↔ x ∈ ds := by
  rw [List.any_map, List.any_eq_true]
  constructor
  · rintro ⟨e, he, q⟩
    have := (eqv_of 7 e x (ok e he) hx).mp q
    exact this ▸ he
  · intro h
    exact ⟨x, h, (eqv_of 7 x x hx hx).mpr rfl⟩
theorem sr_inD : SR K ca (rInD K) (PInD false) := fun B st H x y dx dy d Q w rx ry p k => by
  obtain ⟨ds, hl, hx, ok, b, rfl, hb⟩ := p
  refine ⟨_, _, dp_of w.ex 7 dx x hx rx, dpl w ry hl ok, shaped_of (by decide) hx, ?_, k B H _ (Go.refl w.ex) w ?_⟩
  · exact shaped_of (n := 8) (d := .lst ds) (by decide) (List.all_eq_true.mpr ok)
  · exact congrArg V.bl (Bool.eq_iff_iff.mpr ((in_iff hx ok).trans hb.symm))
theorem sr_notInD : SR K ca (rNotInD K) (PInD true) := fun B st H x y dx dy d Q w rx ry p k => by
  obtain ⟨ds, hl, hx, ok, b, rfl, hb⟩ := p
  refine ⟨_, _, dp_of w.ex 7 dx x hx rx, dpl w ry hl ok, shaped_of (by decide) hx, ?_, k B H _ (Go.refl w.ex) w ?_⟩
  · exact shaped_of (n := 8) (d := .lst ds) (by decide) (List.all_eq_true.mpr ok)
  · have e : ((ds.map (toPy 7)).any fun z => PyData.eqv z (toPy 7 dx)) = b := Bool.eq_iff_iff.mpr ((in_iff hx ok).trans hb.symm)
    show V.bl (!((ds.map (toPy 7)).any fun z => PyData.eqv z (toPy 7 dx))) = V.bl (!b)
    rw [e]
def PIsN (neg : Bool) : D → D → Sto → D → Prop := fun x y _ d => y = .non ∧ ((x = .non ∧ d = .bl (!neg)) ∨ (x ≠ .non ∧ d = .bl neg))
theorem non_of {x : D} {v : V} (r : Rp K ca B x v) (h : x ≠ .non) : v ≠ .non := by
  cases x with
  | non => exact absurd rfl h
  | scr ns => obtain ⟨a, rfl, _⟩ := r; intro e; cases e
  | lst ds => obtain ⟨a, _, rfl, _⟩ := r; intro e; cases e
  | tup ds => obtain ⟨a, _, rfl, _⟩ := r; intro e; cases e
  | obj c ds => obtain ⟨a, _, _, rfl, _⟩ := r; intro e; cases e
  | bl b => cases (show v = .bl b from r); intro e; cases e
  | int b => cases (show v = .int b from r); intro e; cases e
  | str b => cases (show v = .str b from r); intro e; cases e
  | own b => cases (show v = .ref b from r); intro e; cases e
  | ftp ds => obtain ⟨a, _, _, rfl, _⟩ := r; intro e; cases e
  | rg n => obtain ⟨a, rfl, _⟩ := r; intro e; cases e
theorem sr_isN : SR K ca (fun x y H Q => y = .non ∧ Q (.bl (decide (x = .non))) H) (PIsN false) := fun B st H x y dx dy d Q w rx ry p k => by
  obtain ⟨rfl, p⟩ := p
  refine ⟨ry, ?_⟩
  rcases p with ⟨rfl, rfl⟩ | ⟨n, rfl⟩
  · cases (show x = .non from rx)
    exact k B H _ (Go.refl w.ex) w rfl
  · rw [decide_eq_false (non_of rx n)]
    exact k B H _ (Go.refl w.ex) w rfl
theorem sr_notN : SR K ca (fun x y H Q => y = .non ∧ Q (.bl (!decide (x = .non))) H) (PIsN true) := fun B st H x y dx dy d Q w rx ry p k => by
  obtain ⟨rfl, p⟩ := p
  refine ⟨ry, ?_⟩
  rcases p with ⟨rfl, rfl⟩ | ⟨n, rfl⟩
  · cases (show x = .non from rx)
    exact k B H _ (Go.refl w.ex) w rfl
  · rw [decide_eq_false (non_of rx n)]
    exact k B H _ (Go.refl w.ex) w rfl
def PIsB (neg : Bool) : D → D → Sto → D → Prop := fun x y _ d => ∃ a b : Bool, x = .bl a ∧ y = .bl b ∧ d = .bl (if neg then !decide (a = b) else decide (a = b))
theorem sr_isB : SR K ca rIsB (PIsB false) := fun B st H x y dx dy d Q w rx ry p k => by
  obtain ⟨a, b, rfl, rfl, rfl⟩ := p
  exact ⟨a, b, rx, ry, k B H _ (Go.refl w.ex) w rfl⟩
theorem sr_notB : SR K ca rNotB (PIsB true) := fun B st H x y dx dy d Q w rx ry p k => by
  obtain ⟨a, b, rfl, rfl, rfl⟩ := p
  exact ⟨a, b, rx, ry, k B H _ (Go.refl w.ex) w rfl⟩
/-- x[i] -/
def PIx : D → D → Sto → D → Prop := fun x y st d => ∃ (ds : List D) (i : Int), (SqOf st x ds ∨ x = .ftp ds) ∧ y = .int i ∧ atI ds i = some d
theorem atI_get {ds : List D} {xs : List V} {i : Int} {d : D} (r : RpA K ca B ds xs) (h : atI ds i = some d) : ∃ x, atI xs i = some x ∧ Rp K ca B d x := by
  unfold atI at *
  rw [r.len]
  cases e : ixN ds.length i with
  | none => rw [e] at h; cases h
  | some j =>
    rw [e] at h
    exact r.get (i := j) h
theorem sr_ix : SR K ca (rIx K) PIx := fun B st H x y dx dy d Q w rx ry p k => by
  obtain ⟨ds, i, hs, rfl, ha⟩ := p
  rcases hs with hs | rfl
  case inr =>
    obtain ⟨a, o, xs, rfl, q, _, r⟩ := rx
    obtain ⟨z, hz, rz⟩ := atI_get r ha
    exact .inr (.inl ⟨a, xs, i, z, rfl, ry, .inl (.inr ⟨o, w.ex _ _ q⟩), hz, k B H _ (Go.refl w.ex) w rz⟩)
  obtain ⟨a, xs, rfl, hq, r⟩ := hs.rd w rx
  obtain ⟨z, hz, rz⟩ := atI_get r ha
  rcases hq with q | q
  · exact .inl ⟨a, xs, i, z, rfl, ry, SqL.of q, hz, k B H _ (Go.refl w.ex) w rz⟩
  · exact .inr (.inl ⟨a, xs, i, z, rfl, ry, SqT.of q, hz, k B H _ (Go.refl w.ex) w rz⟩)
end
/-! ### the rules -/
def wBin (P : D → D → Sto → D → Prop) (wa wb : WE) : WE := fun e st Φ => wa e st fun x st1 => wb e st1 fun y st2 => ∃ d, P x y st2 d ∧ Φ d st2
def wTst (wa : WE) : WT := fun e st Φ => wa e st fun x st1 => ∃ c, x = .bl c ∧ Φ c st1
def wChain (P P' : D → D → Sto → D → Prop) (wa wb wc : WE) : WE := fun e st Φ => wa e st fun x st1 => wb e st1 fun y st2 => ∃ b, P x y st2 (.bl b) ∧ if b = true then wc e st2 fun z st3 => ∃ d, P' y z st3 d ∧ Φ d st3 else Φ (.bl false) st2
def wAndT (a b : WT) : WT := fun e st Φ => a e st fun c st1 => if c = true then b e st1 Φ else Φ false st1
def wOrT (a b : WT) : WT := fun e st Φ => a e st fun c st1 => if c = true then Φ true st1 else b e st1 Φ
def wNotT (a : WT) : WT := fun e st Φ => a e st fun c st1 => Φ (!c) st1
def wAndV (a b : WE) : WE := fun e st Φ => a e st fun x st1 => ∃ c, x = .bl c ∧ if c = true then b e st1 Φ else Φ (.bl false) st1
def wOrV (a b : WE) : WE := fun e st Φ => a e st fun x st1 => ∃ c, x = .bl c ∧ if c = true then Φ (.bl true) st1 else b e st1 Φ
def wNotV (a : WE) : WE := fun e st Φ => a e st fun x st1 => ∃ c, x = .bl c ∧ Φ (.bl (!c)) st1
def wIfE (t : WT) (a b : WE) : WE := fun e st Φ => t e st fun c st1 => if c = true then a e st1 Φ else b e st1 Φ
section
variable {K : PySem.W.Frag} {ca : Cl → Addr} {ta tb tc te : TE} {wa wb wc we : WE} {tt tu : TT} {wt wu : WT} {r r' : R2} {P P' : D → D → Sto → D → Prop}
theorem le_bin (hr : SR K ca r P) (h1 : LE K ca ta wa) (h2 : LE K ca tb wb) : LE K ca (tOp r ta tb) (wBin P wa wb) := fun σ e B st H w er Φ Q k h =>
  h1 σ e B st H w er _ _ (fun B1 st1 H1 v d g1 w1 r1 h1' => h2 σ e B1 st1 H1 w1 (er.mono g1.ex) _ _ (fun B2 st2 H2 u d2 g2 w2 r2 h2' => by
    obtain ⟨d3, p, hΦ⟩ := h2'
    exact hr B2 st2 H2 v u d d2 d3 Q w2 (Rp.mono g2.ex d v r1) r2 p fun B3 H3 z g3 w3 r3 => k B3 st2 H3 z d3 ((g1.trans g2).trans g3) w3 r3 hΦ) h1') h
theorem bl_of {B : Hp} {c : Bool} {v : V} (r : Rp K ca B (.bl c) v) : v = .bl c := r
theorem lt_tst (h1 : LE K ca ta wa) : LT K ca (tTest ta) (wTst wa) := fun σ e B st H w er Φ Q k h =>
  h1 σ e B st H w er _ _ (fun B1 st1 H1 v d g1 w1 r1 h1' => by
    obtain ⟨c, rfl, hΦ⟩ := h1'
    exact ⟨c, bl_of r1, k B1 st1 H1 c g1 w1 hΦ⟩) h
theorem lt_tB (h1 : LE K ca ta wa) : LT K ca (tB ta) (wTst wa) := fun σ e B st H w er Φ Q k h =>
  h1 σ e B st H w er _ _ (fun B1 st1 H1 v d g1 w1 r1 h1' => by
    obtain ⟨c, rfl, hΦ⟩ := h1'
    exact ⟨c, bl_of r1, k B1 st1 H1 c g1 w1 hΦ⟩) h
theorem le_chain (hr : SR K ca r P) (hr' : SR K ca r' P') (h1 : LE K ca ta wa) (h2 : LE K ca tb wb) (h3 : LE K ca tc wc) : LE K ca (tChain r r' ta tb tc) (wChain P P' wa wb wc) := fun σ e B st H w er Φ Q k h =>
  h1 σ e B st H w er _ _ (fun B1 st1 H1 v d g1 w1 r1 h1' => h2 σ e B1 st1 H1 w1 (er.mono g1.ex) _ _ (fun B2 st2 H2 u d2 g2 w2 r2 h2' => by
    obtain ⟨b, p, hb⟩ := h2'
    refine hr B2 st2 H2 v u d d2 _ _ w2 (Rp.mono g2.ex d v r1) r2 p fun B3 H3 z g3 w3 r3 => ⟨b, bl_of r3, ?_⟩
    have g03 := (g1.trans g2).trans g3
    cases b with
    | false => exact k B3 st2 H3 _ (.bl false) g03 w3 rfl hb
    | true =>
      exact h3 σ e B3 st2 H3 w3 (er.mono g03.ex) _ _ (fun B4 st4 H4 z4 d4 g4 w4 r4 h4 => by
        obtain ⟨d5, p5, hΦ⟩ := h4
        exact hr' B4 st4 H4 u z4 d2 d4 d5 Q w4 (Rp.mono (g3.ex.trans g4.ex) d2 u r2) r4 p5 fun B5 H5 z5 g5 w5 r5 => k B5 st4 H5 z5 d5 ((g03.trans g4).trans g5) w5 r5 hΦ) hb) h1') h
theorem lt_and (h1 : LT K ca tt wt) (h2 : LT K ca tu wu) : LT K ca (tAnd tt tu) (wAndT wt wu) := fun σ e B st H w er Φ Q k h =>
  h1 σ e B st H w er _ _ (fun B1 st1 H1 b g1 w1 hb => by
    cases b with
    | false => exact k B1 st1 H1 false g1 w1 hb
    | true => exact h2 σ e B1 st1 H1 w1 (er.mono g1.ex) Φ Q (fun B2 st2 H2 b g2 => k B2 st2 H2 b (g1.trans g2)) hb) h
theorem lt_or (h1 : LT K ca tt wt) (h2 : LT K ca tu wu) : LT K ca (tOr tt tu) (wOrT wt wu) := fun σ e B st H w er Φ Q k h =>
  h1 σ e B st H w er _ _ (fun B1 st1 H1 b g1 w1 hb => by
    cases b with
    | true => exact k B1 st1 H1 true g1 w1 hb
    | false => exact h2 σ e B1 st1 H1 w1 (er.mono g1.ex) Φ Q (fun B2 st2 H2 b g2 => k B2 st2 H2 b (g1.trans g2)) hb) h
theorem lt_not (h1 : LT K ca tt wt) : LT K ca (tNot tt) (wNotT wt) := fun σ e B st H w er Φ Q k h =>
  h1 σ e B st H w er _ _ (fun B1 st1 H1 b g1 w1 hb => k B1 st1 H1 (!b) g1 w1 hb) h
theorem le_and (h1 : LE K ca ta wa) (h2 : LE K ca tb wb) : LE K ca (tAndV ta tb) (wAndV wa wb) := fun σ e B st H w er Φ Q k h =>
  h1 σ e B st H w er _ _ (fun B1 st1 H1 v d g1 w1 r1 hb => by
    obtain ⟨c, rfl, hc⟩ := hb
    refine ⟨c, bl_of r1, ?_⟩
    cases c with
    | false => exact k B1 st1 H1 _ (.bl false) g1 w1 rfl hc
    | true => exact h2 σ e B1 st1 H1 w1 (er.mono g1.ex) Φ Q (fun B2 st2 H2 v d g2 => k B2 st2 H2 v d (g1.trans g2)) hc) h
theorem le_or (h1 : LE K ca ta wa) (h2 : LE K ca tb wb) : LE K ca (tOrV ta tb) (wOrV wa wb) := fun σ e B st H w er Φ Q k h =>
  h1 σ e B st H w er _ _ (fun B1 st1 H1 v d g1 w1 r1 hb => by
    obtain ⟨c, rfl, hc⟩ := hb
    refine ⟨c, bl_of r1, ?_⟩
    cases c with
    | true => exact k B1 st1 H1 _ (.bl true) g1 w1 rfl hc
    | false => exact h2 σ e B1 st1 H1 w1 (er.mono g1.ex) Φ Q (fun B2 st2 H2 v d g2 => k B2 st2 H2 v d (g1.trans g2)) hc) h
theorem le_not (h1 : LE K ca ta wa) : LE K ca (tNotV ta) (wNotV wa) := fun σ e B st H w er Φ Q k h =>
  h1 σ e B st H w er _ _ (fun B1 st1 H1 v d g1 w1 r1 hb => by
    obtain ⟨c, rfl, hc⟩ := hb
    exact ⟨c, bl_of r1, k B1 st1 H1 _ (.bl (!c)) g1 w1 rfl hc⟩) h
theorem le_ifE (h0 : LT K ca tt wt) (h1 : LE K ca ta wa) (h2 : LE K ca tb wb) : LE K ca (tIf tt ta tb) (wIfE wt wa wb) := fun σ e B st H w er Φ Q k h =>
  h0 σ e B st H w er _ _ (fun B1 st1 H1 b g1 w1 hb => by
    cases b with
    | true => exact h1 σ e B1 st1 H1 w1 (er.mono g1.ex) Φ Q (fun B2 st2 H2 v d g2 => k B2 st2 H2 v d (g1.trans g2)) hb
    | false => exact h2 σ e B1 st1 H1 w1 (er.mono g1.ex) Φ Q (fun B2 st2 H2 v d g2 => k B2 st2 H2 v d (g1.trans g2)) hb) h
end
/-- an operator with its promise -/
structure OpD (X : Cx) (ca : Cl → Addr) (f : Value → Value → Sem Value) (r : R2) (P : D → D → Sto → D → Prop) : Prop where
  o : OpR X f r
  s : SR X.K ca r P

def oo (r r' : R2) : R2 := fun x y H Q => r x y H Q ∨ r' x y H Q
def PAdd : D → D → Sto → D → Prop := fun x y st d => PI0 (fun i j => .int (i + j)) x y st d ∨ PCat x y st d ∨ PCatT x y st d
def PSub : D → D → Sto → D → Prop := PI0 fun i j => .int (i - j)
def PMul : D → D → Sto → D → Prop := fun x y st d => PII CMul (fun i j => .int (i * j)) x y st d ∨ PRep x y st d
def PDiv : D → D → Sto → D → Prop := PII CDiv fun i j => .int (i / j)
def PMod : D → D → Sto → D → Prop := PII (fun _ j => 0 < j) fun i j => .int (i % j)
def PPow : D → D → Sto → D → Prop := PII CPow fun i j => .int (i ^ j.toNat)
def PEq : D → D → Sto → D → Prop := fun x y st d => PEqS x y st d ∨ PEqD x y st d
def PNe : D → D → Sto → D → Prop := fun x y st d => PNeS x y st d ∨ PNeD x y st d
def PLt : D → D → Sto → D → Prop := PI0 fun i j => .bl (decide (i < j))
def PLe : D → D → Sto → D → Prop := PI0 fun i j => .bl (decide (i ≤ j))
def PGt : D → D → Sto → D → Prop := PI0 fun i j => .bl (decide (j < i))
def PIn : D → D → Sto → D → Prop := fun x y st d => PInF false x y st d ∨ PInD false x y st d
def PNotIn : D → D → Sto → D → Prop := fun x y st d => PInF true x y st d ∨ PInD true x y st d
section
variable {X : Cx} {ca : Cl → Addr} {ta tb tc te : TE} {wa wb wc we : WE} {tt tu : TT} {wt wu : WT} {r r' : R2} {P P' : D → D → Sto → D → Prop} {a b c e : Expr} {pos : Pos} {rest : List Expr} {f : Value → Value → Sem Value}
theorem OpD.or (h : OpD X ca f r P) (h' : OpD X ca f r' P') : OpD X ca f (fun x y H Q => r x y H Q ∨ r' x y H Q) (fun x y st d => P x y st d ∨ P' x y st d) := ⟨h.o.or h'.o, h.s.or h'.s⟩
theorem od_add : OpD X ca (binaryOp .Add) (oo (rI0 fun i j => .int (i + j)) (oo rCat (rCatA X.K))) PAdd := OpD.or ⟨op_add, sr_I0⟩ (OpD.or ⟨op_cat, sr_cat⟩ ⟨op_catA, sr_catT⟩)
theorem od_sub : OpD X ca (binaryOp .Sub) (rI0 fun i j => .int (i - j)) PSub := ⟨op_sub, sr_I0⟩
theorem od_mul : OpD X ca (binaryOp .Mult) (oo (rI CMul fun i j => .int (i * j)) rRep) PMul := OpD.or ⟨op_mul, sr_I⟩ ⟨op_rep, sr_rep⟩
theorem od_div : OpD X ca (binaryOp .FloorDiv) (rI CDiv fun i j => .int (i / j)) PDiv := ⟨op_fdiv, sr_I⟩
theorem od_mod : OpD X ca (binaryOp .Mod) (rI (fun _ j => 0 < j) fun i j => .int (i % j)) PMod := ⟨op_mod, sr_I⟩
theorem od_pow : OpD X ca (binaryOp .Pow) (rI CPow fun i j => .int (i ^ j.toNat)) PPow := ⟨op_pow, sr_I⟩
theorem od_eq (hu : X.A.units + 64 < cLine) : OpD X ca (compareOp .Eq) (oo rEq (rEqD X.K)) PEq := OpD.or ⟨op_eq, sr_eqS⟩ ⟨op_eqD hu, sr_eqD⟩
theorem od_ne (hu : X.A.units + 64 < cLine) : OpD X ca (compareOp .NotEq) (oo rNe (rNeD X.K)) PNe := OpD.or ⟨op_ne, sr_neS⟩ ⟨op_neD hu, sr_neD⟩
theorem od_lt : OpD X ca (compareOp .Lt) (rI0 fun i j => .bl (decide (i < j))) PLt := ⟨op_lt, sr_B0⟩
theorem od_le : OpD X ca (compareOp .LtE) (rI0 fun i j => .bl (decide (i ≤ j))) PLe := ⟨op_le, sr_B0⟩
theorem od_gt : OpD X ca (compareOp .Gt) (rI0 fun i j => .bl (decide (j < i))) PGt := ⟨op_gt, sr_B0⟩
theorem od_in (hu : X.A.units + 65 < cLine) : OpD X ca (compareOp .In) (oo (rIn X.K false) (rInD X.K)) PIn := OpD.or ⟨op_in_seq, sr_inF⟩ ⟨op_inD hu, sr_inD⟩
theorem od_notIn (hu : X.A.units + 65 < cLine) : OpD X ca (compareOp .NotIn) (oo (rIn X.K true) (rNotInD X.K)) PNotIn := OpD.or ⟨op_notIn_seq, sr_inF⟩ ⟨op_notInD hu, sr_notInD⟩
theorem od_isN : OpD X ca (compareOp .Is) (fun x y H Q => y = .non ∧ Q (.bl (decide (x = .non))) H) (PIsN false) := ⟨op_isN, sr_isN⟩
theorem od_notN : OpD X ca (compareOp .IsNot) (fun x y H Q => y = .non ∧ Q (.bl (!decide (x = .non))) H) (PIsN true) := ⟨op_notN, sr_notN⟩
theorem od_isB : OpD X ca (compareOp .Is) rIsB (PIsB false) := ⟨op_isBl, sr_isB⟩
theorem od_notB : OpD X ca (compareOp .IsNot) rNotB (PIsB true) := ⟨op_notBl, sr_notB⟩
theorem de_op {op : Operator} (o : OpD X ca (binaryOp op) r P) (h1 : DE X ca a ta wa) (h2 : DE X ca b tb wb) : DE X ca (.BinOp a op b pos) (tOp r ta tb) (wBin P wa wb) := ⟨pe_op o.o h1.pe h2.pe, le_bin o.s h1.le h2.le⟩
theorem de_cmp {op : CmpOp} (o : OpD X ca (compareOp op) r P) (h1 : DE X ca a ta wa) (h2 : DE X ca b tb wb) (hm : behindInMarks op b = false := by first | exact nomark _ | rfl) : DE X ca (.Compare a [op] [b] pos) (tOp r ta tb) (wBin P wa wb) := ⟨pe_cmpR o.o h1.pe h2.pe hm, le_bin o.s h1.le h2.le⟩
theorem dt_cmp {op : CmpOp} (o : OpD X ca (compareOp op) r P) (h1 : DE X ca a ta wa) (h2 : DE X ca b tb wb) (hm : behindInMarks op b = false := by first | exact nomark _ | rfl) : DT X ca (.Compare a [op] [b] pos) (tTest (tOp r ta tb)) (wTst (wBin P wa wb)) := ⟨pt_cmpR o.o h1.pe h2.pe hm, lt_tst (le_bin o.s h1.le h2.le)⟩
theorem de_chain {op op' : CmpOp} (o : OpD X ca (compareOp op) r P) (o' : OpD X ca (compareOp op') r' P') (h1 : DE X ca a ta wa) (h2 : DE X ca b tb wb) (h3 : DE X ca c tc wc) (hm : lastMarks [op, op'] [b, c] = false := by with_unfolding_all rfl) :
    DE X ca (.Compare a [op, op'] [b, c] pos) (tChain r r' ta tb tc) (wChain P P' wa wb wc) := ⟨pe_chain o.o o'.o h1.pe h2.pe h3.pe hm, le_chain o.s o'.s h1.le h2.le h3.le⟩
theorem dt_chain {op op' : CmpOp} (o : OpD X ca (compareOp op) r P) (o' : OpD X ca (compareOp op') r' P') (h1 : DE X ca a ta wa) (h2 : DE X ca b tb wb) (h3 : DE X ca c tc wc) (hm : lastMarks [op, op'] [b, c] = false := by with_unfolding_all rfl) :
    DT X ca (.Compare a [op, op'] [b, c] pos) (tTest (tChain r r' ta tb tc)) (wTst (wChain P P' wa wb wc)) := ⟨pt_chain o.o o'.o h1.pe h2.pe h3.pe hm, lt_tst (le_chain o.s o'.s h1.le h2.le h3.le)⟩
theorem dt_val (h1 : DE X ca a ta wa) (he : ∀ whole, isTrue a X.env whole = (do let v ← whole; standAt a.pos; holding [v] (truthy v)) := by intro _; rfl) : DT X ca a (tB ta) (wTst wa) := ⟨pt_val h1.pe he, lt_tB h1.le⟩
theorem dt_not (h1 : DT X ca a tt wt) : DT X ca (.UnaryOp .Not a pos) (tNot tt) (wNotT wt) := ⟨pt_not h1.pt, lt_not h1.le⟩
theorem de_not (h1 : DE X ca a ta wa) : DE X ca (.UnaryOp .Not a pos) (tNotV ta) (wNotV wa) := ⟨pe_not h1.pe, le_not h1.le⟩
/-- and, or of tests: a chain -/
structure DW (X : Cx) (ca : Cl → Addr) (e : Expr) (tt : TT) (w : WT) : Prop where
  pw : PW X e tt
  le : LT X.K ca tt w
theorem dw_and1 (h : DT X ca a tt wt) : DW X ca (.BoolOp .And [a] pos) tt wt := ⟨pw_and1 h.pt, h.le⟩
theorem dw_or1 (h : DT X ca a tt wt) : DW X ca (.BoolOp .Or [a] pos) tt wt := ⟨pw_or1 h.pt, h.le⟩
theorem dw_and (h1 : DT X ca a tt wt) (h2 : DW X ca (.BoolOp .And (b :: rest) pos) tu wu) : DW X ca (.BoolOp .And (a :: b :: rest) pos) (tAnd tt tu) (wAndT wt wu) := ⟨pw_and h1.pt h2.pw, lt_and h1.le h2.le⟩
theorem dw_or (h1 : DT X ca a tt wt) (h2 : DW X ca (.BoolOp .Or (b :: rest) pos) tu wu) : DW X ca (.BoolOp .Or (a :: b :: rest) pos) (tOr tt tu) (wOrT wt wu) := ⟨pw_or h1.pt h2.pw, lt_or h1.le h2.le⟩
theorem dt_w (h : DW X ca e tt wt) : DT X ca e tt wt := ⟨h.pw.pt, h.le⟩
theorem de_one {op : BoolOp} (h : DE X ca a ta wa) : DE X ca (.BoolOp op [a] pos) ta wa := ⟨pe_one h.pe, h.le⟩
theorem de_and (h1 : DE X ca a ta wa) (h2 : DE X ca (.BoolOp .And (b :: rest) pos) tb wb) : DE X ca (.BoolOp .And (a :: b :: rest) pos) (tAndV ta tb) (wAndV wa wb) := ⟨pe_and h1.pe h2.pe, le_and h1.le h2.le⟩
theorem de_or (h1 : DE X ca a ta wa) (h2 : DE X ca (.BoolOp .Or (b :: rest) pos) tb wb) : DE X ca (.BoolOp .Or (a :: b :: rest) pos) (tOrV ta tb) (wOrV wa wb) := ⟨pe_or h1.pe h2.pe, le_or h1.le h2.le⟩
theorem de_ifE (h0 : DT X ca c tt wt) (h1 : DE X ca a ta wa) (h2 : DE X ca b tb wb) : DE X ca (.IfExp c a b pos) (tIf tt ta tb) (wIfE wt wa wb) := ⟨pe_ifExp h0.pt h1.pe h2.pe, le_ifE h0.le h1.le h2.le⟩
theorem de_ix (h1 : DE X ca a ta wa) (h2 : DE X ca b tb wb) (hs : PlainIx b := by exact fun _ _ => rfl) : DE X ca (.Subscript a b pos) (tOp (rIx X.K) ta tb) (wBin PIx wa wb) := ⟨pe_ix ix_seq h1.pe h2.pe hs, le_bin sr_ix h1.le h2.le⟩
end
end DL

set_option Elab.async false
set_option linter.all false
set_option maxRecDepth 100000
set_option maxHeartbeats 0
namespace DL
open PySem L2 PyProof.Rows PySem.Spec
/-! ### instances -/
def FldOf (st : Sto) (x : D) (c : Cl) (ds : List D) : Prop := x = .obj c ds ∨ ∃ (j : Nat) (a : Addr), x = .own a ∧ st[j]? = some (a, .ins c ds)
def SetAt (j : Nat) (d : D) (ds es : List D) : Prop := (j = ds.length ∧ es = ds ++ [d]) ∨ (j < ds.length ∧ es = ds.set j d)
theorem Cl.nd : ∀ c : Cl, c.names.Nodup
  | .lat => by decide +kernel
  | .tre => by decide +kernel
  | .ask => by decide +kernel
  | .job => by decide +kernel
  | .pool => by decide +kernel
  | .gro => by decide +kernel
theorem Cl.few (c : Cl) : c.names.length ≤ 8 := by cases c <;> decide
theorem lookup_at : ∀ {fs : List (Str × V)} {j : Nat} {f : Str} {v : V}, (fs.map (·.1)).Nodup → (fs.map (·.1))[j]? = some f → (fs.map (·.2))[j]? = some v → fs.lookup f = some v
  | [], j, f, v, _, h, _ => by simp at h
  | (g, x) :: r, 0, f, v, n, h, h' => by
    have e : g = f := Option.some.inj h
    have e' : x = v := Option.some.inj h'
    subst e e'
    simp [List.lookup]
  | (g, x) :: r, j + 1, f, v, n, h, h' => by
    have h1 : (r.map (·.1))[j]? = some f := h
    have h2 : (r.map (·.2))[j]? = some v := h'
    rw [List.map_cons, List.nodup_cons] at n
    have ne : ¬ f = g := fun e => n.1 (e ▸ List.mem_of_getElem? h1)
    have hb : (f == g) = false := beq_eq_false_iff_ne.mpr ne
    rw [List.lookup_cons, hb]
    exact lookup_at n.2 h1 h2
theorem lookup_out : ∀ {fs : List (Str × V)} {f : Str}, f ∉ fs.map (·.1) → fs.lookup f = none
  | [], f, _ => rfl
  | (g, x) :: r, f, h => by
    rw [List.map_cons, List.mem_cons] at h
    have hb : (f == g) = false := beq_eq_false_iff_ne.mpr fun e => h (.inl e)
    rw [List.lookup_cons, hb]
    exact lookup_out fun m => h (.inr m)
theorem putF_new : ∀ {fs : List (Str × V)} {f : Str} {v : V}, f ∉ fs.map (·.1) → putF f v fs = fs ++ [(f, v)]
  | [], f, v, _ => rfl
  | (g, x) :: r, f, v, h => by
    rw [List.map_cons, List.mem_cons] at h
    show (if g = f then (g, v) :: r else (g, x) :: putF f v r) = _
    rw [if_neg fun e => h (.inl e.symm), putF_new fun m => h (.inr m)]
    rfl
theorem putF_old : ∀ {fs : List (Str × V)} {j : Nat} {f : Str} {v : V}, (fs.map (·.1)).Nodup → (fs.map (·.1))[j]? = some f → (putF f v fs).map (·.1) = fs.map (·.1) ∧ (putF f v fs).map (·.2) = (fs.map (·.2)).set j v
  | [], j, f, v, _, h => by simp at h
  | (g, x) :: r, 0, f, v, n, h => by
    have e : g = f := Option.some.inj h
    subst e
    have q : putF g v ((g, x) :: r) = (g, v) :: r := by show (if g = g then _ else _) = _; rw [if_pos rfl]
    rw [q]; exact ⟨rfl, rfl⟩
  | (g, x) :: r, j + 1, f, v, n, h => by
    have h1 : (r.map (·.1))[j]? = some f := h
    rw [List.map_cons, List.nodup_cons] at n
    have ne : ¬ g = f := fun e => n.1 (e ▸ List.mem_of_getElem? h1)
    obtain ⟨i1, i2⟩ := putF_old (v := v) n.2 h1
    have q : putF f v ((g, x) :: r) = (g, x) :: putF f v r := by show (if g = f then _ else _) = _; rw [if_neg ne]
    rw [q, List.map_cons, List.map_cons, List.map_cons, List.map_cons, i1, i2]
    exact ⟨rfl, rfl⟩
section
variable {K : PySem.W.Frag} {ca : Cl → Addr} {B B' H H' : Hp} {st : Sto} {x y d : D} {v u : V} {ds es : List D} {c : Cl}
theorem FldOf.rd (w : Wd K ca B st H) (r : Rp K ca B x v) (h : FldOf st x c ds) : ∃ a dx fs, v = .ref a ∧ H a = some (.ins (ca c) dx fs) ∧ fs.map (·.1) = c.names.take ds.length ∧ RpA K ca B ds (fs.map (·.2)) := by
  rcases h with rfl | ⟨j, a, rfl, h⟩
  · obtain ⟨a, dx, fs, rfl, q, f, r⟩ := r
    exact ⟨a, dx, fs, rfl, w.ex _ _ q, f, r⟩
  · obtain ⟨o, ho, dx, fs, rfl, f, rr⟩ := w.at' h
    exact ⟨a, dx, fs, r, ho, f, rr⟩
theorem nd_take (c : Cl) (n : Nat) : (c.names.take n).Nodup := (Cl.nd c).sublist (List.take_sublist _ _)
end
/-- a call at the level of data: the callee gets a part of the store -/
def callD (spd : Spd) (ds : List D) (st : Sto) (Φ : D → Sto → Prop) : Prop := ∃ (js : List Nat) (sub : Sto), pick st js = some sub ∧ js.Nodup ∧ spd ds sub fun d sub' => (sub'.take js.length).map (·.1) = sub.map (·.1) ∧ Φ d (plug st js sub')
theorem call_sp {K : PySem.W.Frag} {ca : Cl → Addr} {B H : Hp} {st : Sto} {spd : Spd} {ds : List D} {vs : List V} {Φ : D → Sto → Prop} {Q : VK} {E : XK} (w : Wd K ca B st H) (r : RpA K ca B ds vs) (h : callD spd ds st Φ)
    (k : ∀ B' st' H' v d, Go B st H B' st' H' → Wd K ca B' st' H' → Rp K ca B' d v → Φ d st' → Q v H') : SpOf K ca spd vs H Q E := by
  obtain ⟨js, sub, hp, nd, hs⟩ := h
  refine ⟨B, sub, ds, _, w.pick nd hp, r, hs, fun B' st' H' v d g w' rv hq => ?_⟩
  obtain ⟨e, hΦ⟩ := hq
  obtain ⟨w2, g2⟩ := w.plug nd hp e g w'
  exact k _ _ _ v d g2 w2 rv hΦ
def wFld (c : Cl) (j : Nat) (wa : WE) : WE := fun e st Φ => wa e st fun x st1 => ∃ ds d, FldOf st1 x c ds ∧ ds[j]? = some d ∧ Φ d st1
def wSetF (c : Cl) (j : Nat) (wa wv : WE) : WS := fun F e st => wv e st fun d st1 => wa e st1 fun x st2 => ∃ k a ds es, x = .own a ∧ st2[k]? = some (a, .ins c ds) ∧ SetAt j d ds es ∧ F.nx e (st2.set k (a, .ins c es))
def wCall (spd : Spd) (wa : WA) : WE := fun e st Φ => wa e st fun ds st1 => callD spd ds st1 Φ
def wMeth (c : Cl) (spd : Spd) (wa : WE) (wr : WA) : WE := fun e st Φ => wa e st fun x st1 => (∃ fs, FldOf st1 x c fs) ∧ wr e st1 fun ds st2 => callD spd (x :: ds) st2 Φ
def wProp (c : Cl) (spd : Spd) (wa : WE) : WE := fun e st Φ => wa e st fun x st1 => (∃ fs, FldOf st1 x c fs) ∧ callD spd [x] st1 Φ
/-- a new instance, kept as an object that changes -/
def wMakeO (c : Cl) (spd : Spd) (dds : List D) (wa : WA) : WE := fun e st Φ => wa e st fun ds st1 => ∀ p, callD spd (.own p :: (ds ++ dds)) (st1 ++ [(p, .ins c [])]) fun d st2 => d = .non ∧ Φ (.own p) st2
/-- a new instance, fixed from now on -/
def wMake (c : Cl) (spd : Spd) (dds : List D) (wa : WA) : WE := fun e st Φ => wa e st fun ds st1 => ∀ p, callD spd (.own p :: (ds ++ dds)) (st1 ++ [(p, .ins c [])]) fun d st2 => d = .non ∧ ∃ j fs, st2[j]? = some (p, .ins c fs) ∧ Φ (.obj c fs) (st2.eraseIdx j)
theorem mem_erase {α : Type} {l : List α} {j : Nat} {y : α} (h : y ∈ l.eraseIdx j) : ∃ i, i ≠ j ∧ l[i]? = some y := by
  obtain ⟨i, hi⟩ := List.mem_iff_getElem?.mp h
  rw [List.getElem?_eraseIdx] at hi
  by_cases e : i < j
  · rw [if_pos e] at hi; exact ⟨i, by omega, hi⟩
  · rw [if_neg e] at hi; exact ⟨i + 1, by omega, hi⟩
section
variable {K : PySem.W.Frag} {ca : Cl → Addr} {B B' H H' : Hp} {st : Sto}
/-- an object is fixed from now on -/
theorem Wd.frz {j : Nat} {p : Addr} {b : OB} {o : HO} (w : Wd K ca B st H) (h : st[j]? = some (p, b)) (ho : H p = some o) : Wd K ca (upd B p o) (st.eraseIdx j) H ∧ Go B st H (upd B p o) (st.eraseIdx j) H := by
  have mp : (p, b) ∈ st := List.mem_of_getElem? h
  have bp : B p = none := w.fr _ mp
  have eb : Ex B (upd B p o) := Ex.new bp
  have ap : ∀ q ∈ st.eraseIdx j, q ∈ st ∧ q.1 ≠ p := fun q m => by
    obtain ⟨i, ni, hi⟩ := mem_erase m
    exact ⟨List.mem_of_getElem? hi, w.apart (a := q.1) (x := q.2) hi h ni⟩
  refine ⟨⟨fun a u ha => ?_, ?_, fun q m => ?_, fun q m => ?_⟩, ⟨eb, fun a u ha _ => ha, fun a m => ?_, fun a u ha => ?_⟩⟩
  · by_cases e : a = p
    · subst e; rw [upd_same] at ha; rw [ho]; exact ha
    · rw [upd_ne e] at ha; exact w.ex a u ha
  · exact w.nd.sublist ((List.eraseIdx_sublist st j).map _)
  · rw [upd_ne (ap q m).2]; exact w.fr q (ap q m).1
  · obtain ⟨u, hu, r⟩ := w.at_ q (ap q m).1
    exact ⟨u, hu, r.mono eb⟩
  · obtain ⟨q, hq, e⟩ := List.mem_map.mp m
    exact .inl (List.mem_map.mpr ⟨q, (ap q hq).1, e⟩)
  · by_cases e : a = p
    · subst e; exact .inr (.inr (.inl (List.mem_map.mpr ⟨_, mp, rfl⟩)))
    · rw [upd_ne e] at ha; exact .inl ha
theorem frz_rp {p : Addr} {b : OB} {o : HO} {B2 : Hp} (e : Ex B B2) (hp : B2 p = some o) (r : ObR K ca B b o) : (∀ ds, b = .lst ds → Rp K ca B2 (.lst ds) (.ref p)) ∧ (∀ c ds, b = .ins c ds → Rp K ca B2 (.obj c ds) (.ref p)) := by
  constructor
  · rintro ds rfl
    obtain ⟨xs, rfl, r⟩ := r
    exact ⟨p, xs, rfl, hp, RpA.mono e _ _ r⟩
  · rintro c ds rfl
    obtain ⟨dx, fs, rfl, f, r⟩ := r
    exact ⟨p, dx, fs, rfl, hp, f, RpA.mono e _ _ r⟩
/-- a new instance and its own dict -/
theorem Wd.allocI {c : Cl} {x dx : Addr} (w : Wd K ca B st H) (hx : H x = none) (hd : H dx = none) (n : dx ≠ x) : Wd K ca B (st ++ [(x, .ins c [])]) (upd (upd H dx (.own x)) x (.ins (ca c) dx [])) ∧
    Go B st H B (st ++ [(x, .ins c [])]) (upd (upd H dx (.own x)) x (.ins (ca c) dx [])) := by
  have w1 : Wd K ca B st (upd H dx (.own x)) := by
    have bd : B dx = none := by
      cases e : B dx with
      | none => rfl
      | some u => rw [w.ex dx u e] at hd; cases hd
    refine ⟨fun a u ha => ?_, w.nd, w.fr, fun q m => ?_⟩
    · rw [upd_ne (ne_of_none ha bd)]; exact w.ex a u ha
    · obtain ⟨u, hu, r⟩ := w.at_ q m
      exact ⟨u, by rw [upd_ne (ne_of_none hu hd)]; exact hu, r⟩
  have g1 : Go B st H B st (upd H dx (.own x)) := ⟨Ex.refl B, fun a u ha _ => by rw [upd_ne (ne_of_none ha hd)]; exact ha, fun a m => .inl m, fun a u ha => .inl ha⟩
  obtain ⟨w2, g2⟩ := w1.allocE (b := .ins c []) (o := .ins (ca c) dx []) (show upd H dx (.own x) x = none by rw [upd_ne n.symm]; exact hx) ⟨dx, [], rfl, rfl, rfl⟩
  exact ⟨w2, g1.trans g2⟩
end
section
variable {K : PySem.W.Frag} {ca : Cl → Addr} {ta tb tc te : TE} {wa wb wc we : WE} {t : TA} {w : WA} {c : Cl} {f m : Str} {j : Nat} {spd : Spd} {E : XK}
theorem le_fld (hc : Cls K (ca c)) (hn : NoAttr K (ca c) f) (hj : c.names[j]? = some f) (h1 : LE K ca ta wa) : LE K ca (tFld K ta f) (wFld c j wa) := fun σ e B st H w er Φ Q k h =>
  h1 σ e B st H w er _ _ (fun B1 st1 H1 v d g1 w1 r1 hd => by
    obtain ⟨ds, z, hf, hz, hΦ⟩ := hd
    obtain ⟨a, dx, fs, rfl, ha, hfs, r⟩ := hf.rd w1 r1
    obtain ⟨y, hy, ry⟩ := r.get hz
    have hl := (List.getElem?_eq_some_iff.mp hz).1
    refine ⟨a, ca c, dx, fs, y, rfl, ha, hc, hn, lookup_at (by rw [hfs]; exact nd_take c _) ?_ hy, k B1 st1 H1 y z g1 w1 ry hΦ⟩
    rw [hfs, List.getElem?_take_of_lt hl]; exact hj) h
theorem ls_setF (hc : Cls K (ca c)) (hn : NoAttr K (ca c) f) (hj : c.names[j]? = some f) (h1 : LE K ca ta wa) (h2 : LE K ca tb wb) : LS K ca (sFld K ta tb f) (wSetF c j wa wb) := fun σ e B st H w er E F r h =>
  h2 σ e B st H w er _ _ (fun B1 st1 H1 v d g1 w1 r1 hx => h1 σ e B1 st1 H1 w1 (er.mono g1.ex) _ _ (fun B2 st2 H2 u x g2 w2 r2 hd => by
    obtain ⟨i, a, ds, es, rfl, hi, hs, hn'⟩ := hd
    obtain ⟨o, ho, dx, fs, rfl, hfs, rr⟩ := w2.at' hi
    have rd := Rp.mono g2.ex d v r1
    have hlen : fs.length = ds.length := by
      have := rr.len
      rw [List.length_map] at this
      exact this
    have hle : fs.length < 1000 := by
      have h8 := Cl.few c
      have := congrArg List.length hfs
      rw [List.length_map, List.length_take] at this
      omega
    have key : ObR K ca B2 (.ins c es) (.ins (ca c) dx (putF f v fs)) := by
      rcases hs with ⟨rfl, rfl⟩ | ⟨hl, rfl⟩
      · have hout : f ∉ fs.map (·.1) := by
          rw [hfs]
          intro m
          obtain ⟨k, hk⟩ := List.mem_iff_getElem?.mp m
          have hkl : k < ds.length := by
            have := (List.getElem?_eq_some_iff.mp hk).1
            rw [List.length_take] at this
            omega
          rw [List.getElem?_take_of_lt hkl] at hk
          have := nd_ix (Cl.nd c) hk hj
          omega
        rw [putF_new hout]
        refine ⟨dx, _, rfl, ?_, ?_⟩
        · rw [List.map_append, hfs, List.length_append]
          have hjl := (List.getElem?_eq_some_iff.mp hj).1
          show c.names.take ds.length ++ [f] = c.names.take (ds.length + 1)
          rw [List.take_succ, hj]; rfl
        · rw [List.map_append]
          exact rr.append (RpA.cons rd rfl)
      · have hat : (fs.map (·.1))[j]? = some f := by rw [hfs, List.getElem?_take_of_lt hl]; exact hj
        obtain ⟨i1, i2⟩ := putF_old (v := v) (by rw [hfs]; exact nd_take c _) hat
        refine ⟨dx, _, rfl, ?_, ?_⟩
        · rw [i1, hfs, List.length_set]
        · rw [i2]; exact RpA.set rd j rr
    obtain ⟨w3, g3⟩ := w2.put hi key
    exact ⟨a, ca c, dx, fs, r2, ho, hc, hn, hle, r.nx σ e B2 _ _ ((g1.trans g2).trans g3) w3 (er.mono (g1.ex.trans g2.ex)) hn'⟩) hx) h
theorem le_call (h1 : LA K ca t w) : LE K ca (tCall (SpOf K ca spd) [] E t) (wCall spd w) := fun σ e B st H w er Φ Q k h =>
  h1 σ e B st H w er _ _ (fun B1 st1 H1 vs ds g1 w1 r1 hd => by
    show SpOf K ca spd (vs ++ []) H1 Q E
    rw [List.append_nil]
    exact call_sp w1 r1 hd fun B2 st2 H2 v d g2 w2 r2 hΦ => k B2 st2 H2 v d (g1.trans g2) w2 r2 hΦ) h
theorem fld_inst {B H : Hp} {st : Sto} {x : D} {v : V} (w : Wd K ca B st H) (r : Rp K ca B x v) (h : ∃ fs, FldOf st x c fs) (hm : m ∉ c.names) : ∃ a dx fs, v = .ref a ∧ H a = some (.ins (ca c) dx fs) ∧ fs.lookup m = none := by
  obtain ⟨ds, hf⟩ := h
  obtain ⟨a, dx, fs, rfl, ha, hfs, _⟩ := hf.rd w r
  exact ⟨a, dx, fs, rfl, ha, lookup_out (by rw [hfs]; exact fun z => hm (List.mem_of_mem_take z))⟩
theorem le_meth (hm : m ∉ c.names) (h1 : LE K ca ta wa) (h2 : LA K ca t w) : LE K ca (tMeth (ca c) m (SpOf K ca spd) [] E ta t) (wMeth c spd wa w) := fun σ e B st H w er Φ Q k h =>
  h1 σ e B st H w er _ _ (fun B1 st1 H1 v x g1 w1 r1 hd => by
    obtain ⟨hf, hr⟩ := hd
    obtain ⟨a, dx, fs, rfl, ha, hl⟩ := fld_inst w1 r1 hf hm
    refine ⟨a, dx, fs, rfl, ha, hl, h2 σ e B1 st1 H1 w1 (er.mono g1.ex) _ _ (fun B2 st2 H2 vs ds g2 w2 r2 hc => ?_) hr⟩
    rw [List.append_nil]
    exact call_sp w2 (RpA.cons (Rp.mono g2.ex x _ r1) r2) hc fun B3 st3 H3 v d g3 w3 r3 hΦ => k B3 st3 H3 v d ((g1.trans g2).trans g3) w3 r3 hΦ) h
theorem le_prop (h1 : LE K ca ta wa) : LE K ca (tProp (ca c) (SpOf K ca spd) [] E ta) (wProp c spd wa) := fun σ e B st H w er Φ Q k h =>
  h1 σ e B st H w er _ _ (fun B1 st1 H1 v x g1 w1 r1 hd => by
    obtain ⟨⟨ds, hf⟩, hc⟩ := hd
    obtain ⟨a, dx, fs, rfl, ha, hfs, _⟩ := hf.rd w1 r1
    exact ⟨a, dx, fs, rfl, ha, call_sp w1 (RpA.cons r1 RpA.nil) hc fun B3 st3 H3 v d g3 w3 r3 hΦ => k B3 st3 H3 v d (g1.trans g3) w3 r3 hΦ⟩) h
theorem le_makeO {dvs : List V} {dds : List D} (hdd : ∀ B, RpA K ca B dds dvs) (h1 : LA K ca t w) : LE K ca (tMake (ca c) (SpOf K ca spd) dvs E t) (wMakeO c spd dds w) := fun σ e B st H w er Φ Q k h =>
  h1 σ e B st H w er _ _ (fun B1 st1 H1 vs ds g1 w1 r1 hd x dx hx hdx n => by
    obtain ⟨w2, g2⟩ := w1.allocI (c := c) hx hdx n
    exact call_sp w2 (RpA.cons (show Rp K ca B1 (.own x) (.ref x) from rfl) (r1.append (hdd B1))) (hd x) fun B3 st3 H3 v d g3 w3 r3 hΦ => by
      obtain ⟨rfl, hΦ⟩ := hΦ
      exact ⟨r3, k B3 st3 H3 _ (.own x) ((g1.trans g2).trans g3) w3 rfl hΦ⟩) h
theorem le_make {dvs : List V} {dds : List D} (hdd : ∀ B, RpA K ca B dds dvs) (h1 : LA K ca t w) : LE K ca (tMake (ca c) (SpOf K ca spd) dvs E t) (wMake c spd dds w) := fun σ e B st H w er Φ Q k h =>
  h1 σ e B st H w er _ _ (fun B1 st1 H1 vs ds g1 w1 r1 hd x dx hx hdx n => by
    obtain ⟨w2, g2⟩ := w1.allocI (c := c) hx hdx n
    exact call_sp w2 (RpA.cons (show Rp K ca B1 (.own x) (.ref x) from rfl) (r1.append (hdd B1))) (hd x) fun B3 st3 H3 v d g3 w3 r3 hΦ => by
      obtain ⟨rfl, j, fs, hj, hΦ⟩ := hΦ
      refine ⟨r3, ?_⟩
      obtain ⟨o, ho, ro⟩ := w3.at' hj
      obtain ⟨w4, g4⟩ := w3.frz hj ho
      exact k _ _ H3 _ (.obj c fs) (((g1.trans g2).trans g3).trans g4) w4 ((frz_rp g4.ex upd_same ro).2 c fs rfl) hΦ) h
end
section
variable {X : Cx} {ca : Cl → Addr} {ta tb tc te : TE} {wa wb wc we : WE} {t : TA} {w : WA} {a o e value : Expr} {es : List Expr} {p pos pos' apos : Pos} {c : Cl} {f m x : Str} {spd : Spd} {k j : Nat}
theorem de_fld (c : Cl) (i : Nat) (hc : Cls X.K (ca c)) (hn : NoAttr X.K (ca c) f) (h1 : DE X ca a ta wa) (hj : c.names[i]? = some f := by rfl) (hb : attributeBase a f X.env (eval a X.env) = eval a X.env := by rfl) : DE X ca (.Attribute a f pos) (tFld X.K ta f) (wFld c i wa) := ⟨pe_fld h1.pe hb, le_fld hc hn hj h1.le⟩
theorem ds_fld (c : Cl) (i : Nat) (hc : Cls X.K (ca c)) (hn : NoAttr X.K (ca c) f) (h1 : DE X ca a ta wa) (h2 : DE X ca value tb wb) (hj : c.names[i]? = some f := by rfl) (hs : swapsWith value (some (.Attribute a f pos')) pos.line X.env = pure false := by rfl) :
    DS X ca (.Assign [.Attribute a f pos'] value pos) (sFld X.K ta tb f) (wSetF c i wa wb) := ⟨ps_fld h1.pe h2.pe hs, ls_setF hc hn hj h1.le h2.le⟩
theorem de_call (c : C8.Cal X.prog X.w X.K X.mg X.base k x (SpOf X.K ca spd) []) (hr : Room j X.A) (ha : DA X ca (e :: es) t w) (hk : k ≤ j := by decide) (hg : Gl X x := by rfl)
    (hdb : (x == ("__debug__" : Str)) = false := by decide) (he : starEach (e :: es) X.env = (false, eval e X.env) :: starEach es X.env := by rfl) (hpl : (backTo pos (starEach es X.env)).any (·.1) = false := by rfl) :
    DE X ca (.Call (.Name x p) (e :: es) [] pos) (tCall (SpOf X.K ca spd) [] E0 t) (wCall spd w) := ⟨C8.pe_c c hr hk hg ha.pa hdb he hpl, le_call ha.le⟩
theorem de_meth {pl : Sem Bool} (c : Cl) (hm : m ∉ c.names) (cc : C8.Met X.prog X.w X.K X.mg X.base k (ca c) m (SpOf X.K ca spd) []) (hr : Room j X.A) (h1 : DE X ca o ta wa) (ha : DA X ca (e :: es) t w) (hk : k ≤ j := by decide)
    (hst : starEach (e :: es) X.env = (false, eval e X.env) :: starEach es X.env := by rfl) (hpl : (backTo pos (starEach es X.env)).any (·.1) = false := by rfl)
    (ht : eval (.Call (.Attribute o m apos) (e :: es) [] pos) X.env = (do
      let ov ← eval o X.env
      standAt apos.atName
      let (f, first) ← holding [ov] (getMethod ov m pl)
      callWith pos f first (backTo pos (starEach (e :: es) X.env)) (backToKw pos (keywordEach [] X.env))) := by rfl) :
    DE X ca (.Call (.Attribute o m apos) (e :: es) [] pos) (tMeth (ca c) m (SpOf X.K ca spd) [] E0 ta t) (wMeth c spd wa w) := ⟨C8.pe_mt (pl := pl) cc hr hk h1.pe ha.pa hst hpl ht, le_meth hm h1.le ha.le⟩
theorem de_meth0 {pl : Sem Bool} (c : Cl) (hm : m ∉ c.names) (cc : C8.Met X.prog X.w X.K X.mg X.base k (ca c) m (SpOf X.K ca spd) []) (hr : Room j X.A) (h1 : DE X ca o ta wa) (hk : k ≤ j := by decide)
    (ht : eval (.Call (.Attribute o m apos) [] [] pos) X.env = (do
      let ov ← eval o X.env
      standAt apos.atName
      let (f, first) ← holding [ov] (getMethod ov m pl)
      callWith pos f first (backTo pos (starEach [] X.env)) (backToKw pos (keywordEach [] X.env))) := by rfl) :
    DE X ca (.Call (.Attribute o m apos) [] [] pos) (tMeth (ca c) m (SpOf X.K ca spd) [] E0 ta tNil) (wMeth c spd wa wNil) := ⟨C8.pe_mt0 (pl := pl) cc hr hk h1.pe ht, le_meth hm h1.le la_nil⟩
theorem de_makeO (c : Cl) {dvs : List V} (dds : List D) (hdd : ∀ B, RpA X.K ca B dds dvs) (cc : C8.Mak X.prog X.w X.K X.mg X.base k x (ca c) (SpOf X.K ca spd) dvs) (hr : Room j X.A) (ha : DA X ca (e :: es) t w) (hk : k + 1 ≤ j := by decide) (hg : Gl X x := by rfl)
    (hdb : (x == ("__debug__" : Str)) = false := by decide) (he : starEach (e :: es) X.env = (false, eval e X.env) :: starEach es X.env := by rfl) (hpl : (backTo pos (starEach es X.env)).any (·.1) = false := by rfl) :
    DE X ca (.Call (.Name x p) (e :: es) [] pos) (tMake (ca c) (SpOf X.K ca spd) dvs E0 t) (wMakeO c spd dds w) := ⟨C8.pe_mk cc hr hk hg ha.pa hdb he hpl, le_makeO hdd ha.le⟩
theorem de_make (c : Cl) {dvs : List V} (dds : List D) (hdd : ∀ B, RpA X.K ca B dds dvs) (cc : C8.Mak X.prog X.w X.K X.mg X.base k x (ca c) (SpOf X.K ca spd) dvs) (hr : Room j X.A) (ha : DA X ca (e :: es) t w) (hk : k + 1 ≤ j := by decide) (hg : Gl X x := by rfl)
    (hdb : (x == ("__debug__" : Str)) = false := by decide) (he : starEach (e :: es) X.env = (false, eval e X.env) :: starEach es X.env := by rfl) (hpl : (backTo pos (starEach es X.env)).any (·.1) = false := by rfl) :
    DE X ca (.Call (.Name x p) (e :: es) [] pos) (tMake (ca c) (SpOf X.K ca spd) dvs E0 t) (wMake c spd dds w) := ⟨C8.pe_mk cc hr hk hg ha.pa hdb he hpl, le_make hdd ha.le⟩
end
/-! ### the end of a def -/
inductive Fin (Φ : D → Sto → Prop) : D → Sto → Prop
  | keep {d : D} {st : Sto} (js : List Nat) (sub : Sto) (nd : js.Nodup) (h : pick st js = some sub) (q : Φ d sub) : Fin Φ d st
  | frz {p : Addr} {st : Sto} (j : Nat) (ds : List D) (h : st[j]? = some (p, .lst ds)) (q : Fin Φ (.lst ds) (st.eraseIdx j)) : Fin Φ (.own p) st
def endD (Φ : D → Sto → Prop) : DEnds := { nx := fun _ st => Fin Φ .non st, rt := Fin Φ }
def startD (N : List Str) (ds : List D) : Env := ds.map some ++ List.replicate (N.length - ds.length) none
theorem fin_ok {K : PySem.W.Frag} {ca : Cl → Addr} {Φ : D → Sto → Prop} {Q : VK} {d : D} {st : Sto} (h : Fin Φ d st) : ∀ {B0 B H0 H : Hp} {st0 : Sto} {v : V}, Go B0 st0 H0 B st H → Wd K ca B st H → Rp K ca B d v →
    (∀ B' st' H' v d, Go B0 st0 H0 B' st' H' → Wd K ca B' st' H' → Rp K ca B' d v → Φ d st' → Q v H') → Q v H := by
  induction h with
  | keep js sub nd hp q =>
    intro B0 B H0 H st0 v g w r k
    exact k B sub H v _ (g.pick hp) (w.pick nd hp) r q
  | frz j ds hj _ ih =>
    intro B0 B H0 H st0 v g w r k
    obtain ⟨o, ho, ro⟩ := w.at' hj
    obtain ⟨w2, g2⟩ := w.frz hj ho
    cases (show v = .ref _ from r)
    exact ih (g.trans g2) w2 ((frz_rp g2.ex upd_same ro).1 ds rfl) k
theorem env_start {K : PySem.W.Frag} {ca : Cl → Addr} {B : Hp} {N : List Str} {ds : List D} {vs : List V} (r : RpA K ca B ds vs) : EnvR K ca B (L2.start N vs) (startD N ds) := by
  have hl := r.len
  refine ⟨?_, fun i d h => ?_⟩
  · unfold L2.start startD
    rw [List.length_append, List.length_append, List.length_map, List.length_map, List.length_replicate, List.length_replicate, hl]
  · unfold startD at h
    by_cases hi : i < ds.length
    · rw [List.getElem?_append_left (by simpa using hi), List.getElem?_map] at h
      cases e : ds[i]? with
      | none => rw [e] at h; cases h
      | some d' =>
        rw [e] at h
        have : d' = d := by simpa using h
        subst this
        obtain ⟨x, hx, rx⟩ := r.get e
        refine ⟨x, ?_, rx⟩
        unfold L2.start
        rw [List.getElem?_append_left (by rw [List.length_map, hl]; exact hi), List.getElem?_map, hx]; rfl
    · rw [List.getElem?_append_right (by simpa using hi), List.getElem?_replicate] at h
      split at h <;> cases h
/-- THE RULE for a def -/
theorem fn_ok {P : Program} {w : World} {K : PySem.W.Frag} {mg : Str → Option Value} {base : Heap} {ca : Cl → Addr} {x qual : Str} {params : Arguments} {body : List Stmt} {scope : Scope} {dvs : List V} {kws : List (Str × V)} {f : Addr} {fd : FuncData} {N ps : List Str} {k : Nat} {spd : Spd} {ws : WS}
    (F : FunD K x qual params body scope dvs kws f fd) (S : FnScope N ps scope)
    (hb : ∀ (cdv : Value) (A : Around) (outer : List PySem.Env) (s : Shared) (H : Hp) (E : XK), Room k (A.deeper (envOfC qual scope s.heap.objs.size f cdv)) → ∃ ts, DSs (cxOf CX0 P w K mg base N qual scope f cdv A outer s H E).nox ca body ts ws)
    (h : ∀ ds st Φ, spd ds st Φ → ds.length = ps.length ∧ ws (endD Φ) (startD N ds) st) : FnOk P w K mg base CX0 (k + 1) f fd ps (SpOf K ca spd) := by
  refine F.ok S (fun vs H Q E hs => ?_) (fun cdv A outer s H vs Q E hr hs => ?_)
  · obtain ⟨B, st, ds, Φ, w0, r, hsp, _⟩ := hs
    rw [r.len]; exact (h ds st Φ hsp).1
  · obtain ⟨B, st, ds, Φ, w0, r, hsp, kk⟩ := hs
    obtain ⟨ts, d⟩ := hb cdv A outer s H E hr
    refine ⟨ts, PSs.nox d.ps, d.le (L2.start N vs) (startD N ds) B st H w0 (env_start r) _ (endD Φ) ⟨?_, ?_, ?_, ?_⟩ (h ds st Φ hsp).2⟩
    · intro σ' e' B' st' H' g w' er hq
      exact fin_ok (v := .non) hq g w' rfl kk
    · intro B' st' H' v d g w' rv hq
      exact fin_ok hq g w' rv kk
    · intro σ' e' B' st' H' g w' er hq; exact hq.elim
    · intro σ' e' B' st' H' g w' er hq; exact hq.elim
/-! ### an object of a name is fixed in the middle of a body -/
def wFrz (i : Nat) (w : WS) : WS := fun F e st => ∃ j p ds, e[i]? = some (some (.own p)) ∧ st[j]? = some (p, .lst ds) ∧ w F (e.set i (some (.lst ds))) (st.eraseIdx j)
theorem dss_frz {X : Cx} {ca : Cl → Addr} {ss : List Stmt} {ts : TS} {w : WS} (i : Nat) (h : DSs X ca ss ts w) : DSs X ca ss ts (wFrz i w) := ⟨h.ps, fun σ e B st H wd er E F r hw => by
  obtain ⟨j, p, ds, hi, hj, hq⟩ := hw
  obtain ⟨o, ho, ro⟩ := wd.at' hj
  obtain ⟨w2, g2⟩ := wd.frz hj ho
  obtain ⟨v, hv, rv⟩ := er.get i _ hi
  cases (show v = .ref p from rv)
  refine h.le σ _ _ _ H w2 ?_ E F (r.mono g2) hq
  have er2 := (er.mono g2.ex).set i ((frz_rp g2.ex upd_same ro).1 ds rfl)
  have e1 : σ.set i (some (.ref p)) = σ := by
    apply List.ext_getElem?
    intro n
    by_cases e : i = n
    · subst e
      rw [List.getElem?_set_self (List.getElem?_eq_some_iff.mp hv).1, hv]
    · rw [List.getElem?_set_ne e]
  rw [e1] at er2
  exact er2⟩
end DL

set_option Elab.async false
set_option linter.all false
set_option maxRecDepth 100000
set_option maxHeartbeats 0
namespace DL
open PySem L2 PyProof.Rows PySem.Spec
/-! ### built-ins called -/
def wCB (P : List D → Sto → D → Prop) (wa : WA) : WE := fun e st Φ => wa e st fun ds st1 => ∃ d, P ds st1 d ∧ Φ d st1
def PLen : List D → Sto → D → Prop := fun as st d => (∃ x ds, as = [x] ∧ SqOf st x ds ∧ d = .int (ds.length : Int)) ∨ ∃ ns, as = [.scr ns] ∧ d = .int (ns.length : Int)
def PInt : List D → Sto → D → Prop := fun as _ d => ∃ i, as = [.int i] ∧ d = .int i
def PAbs : List D → Sto → D → Prop := fun as _ d => ∃ i : Int, as = [.int i] ∧ d = .int (if i < 0 then -i else i)
def PMax : List D → Sto → D → Prop := fun as _ d => ∃ i j : Int, as = [.int i, .int j] ∧ d = .int (if j > i then j else i)
def PMin : List D → Sto → D → Prop := fun as _ d => ∃ i j : Int, as = [.int i, .int j] ∧ d = .int (if j < i then j else i)
def PSum : List D → Sto → D → Prop := fun as st d => ∃ (x : D) (ns : List Int), as = [x] ∧ LstOf st x (ns.map D.int) ∧ d = .int ns.sum
def PAll : List D → Sto → D → Prop := fun as st d => ∃ (x : D) (bs : List Bool), as = [x] ∧ LstOf st x (bs.map D.bl) ∧ d = .bl (bs.all id)
def PAny : List D → Sto → D → Prop := fun as st d => ∃ (x : D) (bs : List Bool), as = [x] ∧ LstOf st x (bs.map D.bl) ∧ d = .bl (bs.any id)
def PTupOf : List D → Sto → D → Prop := fun as st d => ∃ x ds, as = [x] ∧ SqOf st x ds ∧ d = .tup ds
def PLstOf : List D → Sto → D → Prop := fun as st d => ∃ x ds, as = [x] ∧ SqOf st x ds ∧ d = .lst ds
section
variable {K : PySem.W.Frag} {ca : Cl → Addr}
theorem rp1 {B : Hp} {x : D} {xs : List V} (r : RpA K ca B [x] xs) : ∃ v, xs = [v] ∧ Rp K ca B x v := by
  obtain ⟨v, t, rfl, r1, r2⟩ := r
  cases (show t = [] from r2)
  exact ⟨v, rfl, r1⟩
theorem rp2 {B : Hp} {x y : D} {xs : List V} (r : RpA K ca B [x, y] xs) : ∃ v u, xs = [v, u] ∧ Rp K ca B x v ∧ Rp K ca B y u := by
  obtain ⟨v, t, rfl, r1, r2⟩ := r
  obtain ⟨u, rfl, r3⟩ := rp1 r2
  exact ⟨v, u, rfl, r1, r3⟩
theorem sc_len : SC K ca (fun xs H Q => ∃ p ys, xs = [.ref p] ∧ (SqL K H p ys ∨ SqT K H p ys) ∧ Q (.int ys.length) H) PLen := fun B st H xs as d Q w r p k => by
  rcases p with ⟨x, ds, rfl, hs, rfl⟩ | ⟨ns, rfl, rfl⟩
  · obtain ⟨v, rfl, rv⟩ := rp1 r
    obtain ⟨a, ys, rfl, hq, ry⟩ := hs.rd w rv
    refine ⟨a, ys, rfl, hq.elim (fun q => .inl (SqL.of q)) (fun q => .inr (SqT.of q)), ?_⟩
    rw [ry.len]
    exact k B H _ (Go.refl w.ex) w rfl
  · obtain ⟨v, rfl, a, rfl, q⟩ := rp1 r
    refine ⟨a, _, rfl, .inl (Same.seq w.ex q), ?_⟩
    rw [List.length_map]
    exact k B H _ (Go.refl w.ex) w rfl
theorem sc_int : SC K ca (fun xs H Q => (∃ i, xs = [.int i] ∧ Q (.int i) H) ∨ ∃ k, xs = [.bl k] ∧ Q (.int (if k then 1 else 0)) H) PInt := fun B st H xs as d Q w r p k => by
  obtain ⟨i, rfl, rfl⟩ := p
  obtain ⟨v, rfl, rv⟩ := rp1 r
  cases (show v = .int i from rv)
  exact .inl ⟨i, rfl, k B H _ (Go.refl w.ex) w rfl⟩
theorem sc_abs : SC K ca (fun xs H Q => ∃ i, xs = [.int i] ∧ Q (.int (if i < 0 then -i else i)) H) PAbs := fun B st H xs as d Q w r p k => by
  obtain ⟨i, rfl, rfl⟩ := p
  obtain ⟨v, rfl, rv⟩ := rp1 r
  cases (show v = .int i from rv)
  exact ⟨i, rfl, k B H _ (Go.refl w.ex) w rfl⟩
theorem sc_max : SC K ca (fun xs H Q => ∃ i j, xs = [.int i, .int j] ∧ Q (.int (if j > i then j else i)) H) PMax := fun B st H xs as d Q w r p k => by
  obtain ⟨i, j, rfl, rfl⟩ := p
  obtain ⟨v, u, rfl, rv, ru⟩ := rp2 r
  cases (show v = .int i from rv)
  cases (show u = .int j from ru)
  exact ⟨i, j, rfl, k B H _ (Go.refl w.ex) w rfl⟩
theorem sc_min : SC K ca (fun xs H Q => ∃ i j, xs = [.int i, .int j] ∧ Q (.int (if j < i then j else i)) H) PMin := fun B st H xs as d Q w r p k => by
  obtain ⟨i, j, rfl, rfl⟩ := p
  obtain ⟨v, u, rfl, rv, ru⟩ := rp2 r
  cases (show v = .int i from rv)
  cases (show u = .int j from ru)
  exact ⟨i, j, rfl, k B H _ (Go.refl w.ex) w rfl⟩
theorem sc_sum : SC K ca (rSum K) PSum := fun B st H xs as d Q w r p k => by
  obtain ⟨x, ns, rfl, hl, rfl⟩ := p
  obtain ⟨v, rfl, rv⟩ := rp1 r
  obtain ⟨a, ys, rfl, hq, ry⟩ := hl.rd w rv
  rw [rpa_ints ry] at hq
  exact ⟨a, ns, rfl, SqL.of hq, k B H _ (Go.refl w.ex) w rfl⟩
theorem sc_all : SC K ca (rAll K) PAll := fun B st H xs as d Q w r p k => by
  obtain ⟨x, ns, rfl, hl, rfl⟩ := p
  obtain ⟨v, rfl, rv⟩ := rp1 r
  obtain ⟨a, ys, rfl, hq, ry⟩ := hl.rd w rv
  rw [rpa_bls ry] at hq
  exact ⟨a, ns, rfl, SqL.of hq, k B H _ (Go.refl w.ex) w rfl⟩
theorem sc_any : SC K ca (rAny K) PAny := fun B st H xs as d Q w r p k => by
  obtain ⟨x, ns, rfl, hl, rfl⟩ := p
  obtain ⟨v, rfl, rv⟩ := rp1 r
  obtain ⟨a, ys, rfl, hq, ry⟩ := hl.rd w rv
  rw [rpa_bls ry] at hq
  exact ⟨a, ns, rfl, SqL.of hq, k B H _ (Go.refl w.ex) w rfl⟩
theorem sc_tupOf : SC K ca (fun xs H Q => ∃ p ys, xs = [.ref p] ∧ ((SqL K H p ys ∧ ∀ l, H l = none → Q (.ref l) (upd H l (.tup ys))) ∨ (SqT K H p ys ∧ Q (.ref p) H))) PTupOf := fun B st H xs as d Q w r p k => by
  obtain ⟨x, ds, rfl, hs, rfl⟩ := p
  obtain ⟨v, rfl, rv⟩ := rp1 r
  rcases hs with hl | rfl
  · obtain ⟨a, ys, rfl, hq, ry⟩ := hl.rd w rv
    refine ⟨a, ys, rfl, .inl ⟨SqL.of hq, fun l hl => ?_⟩⟩
    obtain ⟨w2, g2⟩ := w.new (o := .tup ys) hl
    exact k _ _ _ g2 w2 ⟨l, ys, rfl, upd_same, RpA.mono g2.ex _ _ ry⟩
  · obtain ⟨a, ys, e, hq, ry⟩ := tup_rd w rv
    subst e
    exact ⟨a, ys, rfl, .inr ⟨SqT.of hq, k B H _ (Go.refl w.ex) w rv⟩⟩
theorem sc_lstOf : SC K ca (fun xs H Q => ∃ p ys, xs = [.ref p] ∧ (SqL K H p ys ∨ SqT K H p ys) ∧ ∀ l, H l = none → Q (.ref l) (upd H l (.lst ys))) PLstOf := fun B st H xs as d Q w r p k => by
  obtain ⟨x, ds, rfl, hs, rfl⟩ := p
  obtain ⟨v, rfl, rv⟩ := rp1 r
  obtain ⟨a, ys, rfl, hq, ry⟩ := hs.rd w rv
  refine ⟨a, ys, rfl, hq.elim (fun q => .inl (SqL.of q)) (fun q => .inr (SqT.of q)), fun l hl => ?_⟩
  obtain ⟨w2, g2⟩ := w.new (o := .lst ys) hl
  exact k _ _ _ g2 w2 ⟨l, ys, rfl, upd_same, RpA.mono g2.ex _ _ ry⟩
/-- list(x), to be changed -/
def wLstOfO (wa : WA) : WE := fun e st Φ => wa e st fun as st1 => ∃ x ds, as = [x] ∧ SqOf st1 x ds ∧ ∀ p, Φ (.own p) (st1 ++ [(p, .lst ds)])
end
section
variable {K : PySem.W.Frag} {ca : Cl → Addr} {ta tb tc te : TE} {wa wb wc we : WE} {t : TA} {w : WA} {r : List V → Hp → VK → Prop} {P : List D → Sto → D → Prop}
theorem le_cb (hr : SC K ca r P) (h1 : LA K ca t w) : LE K ca (tCB r t) (wCB P w) := fun σ e B st H wd er Φ Q k h =>
  h1 σ e B st H wd er _ _ (fun B1 st1 H1 vs ds g1 w1 r1 h1' => by
    obtain ⟨d, p, hΦ⟩ := h1'
    exact hr B1 st1 H1 vs ds d Q w1 r1 p fun B2 H2 v g2 w2 r2 => k B2 st1 H2 v d (g1.trans g2) w2 r2 hΦ) h
theorem le_lstOfO (h1 : LA K ca t w) : LE K ca (tCB (fun xs H Q => ∃ p ys, xs = [.ref p] ∧ (SqL K H p ys ∨ SqT K H p ys) ∧ ∀ l, H l = none → Q (.ref l) (upd H l (.lst ys))) t) (wLstOfO w) := fun σ e B st H wd er Φ Q k h =>
  h1 σ e B st H wd er _ _ (fun B1 st1 H1 vs as g1 w1 r1 h1' => by
    obtain ⟨x, ds, rfl, hs, hΦ⟩ := h1'
    obtain ⟨v, rfl, rv⟩ := rp1 r1
    obtain ⟨a, ys, rfl, hq, ry⟩ := hs.rd w1 rv
    refine ⟨a, ys, rfl, hq.elim (fun q => .inl (SqL.of q)) (fun q => .inr (SqT.of q)), fun l hl => ?_⟩
    obtain ⟨w2, g2⟩ := w1.allocE (b := .lst ds) (o := .lst ys) hl ⟨ys, rfl, ry⟩
    exact k _ _ _ _ (.own l) (g1.trans g2) w2 rfl (hΦ l)) h
/-- isinstance -/
def isInt : D → Option Bool
  | .int _ => some true | .bl _ => some true | .non => some false | .str _ => some false | .lst _ => some false | .tup _ => some false | _ => none
def isBool : D → Option Bool
  | .int _ => some false | .bl _ => some true | .non => some false | .str _ => some false | .lst _ => some false | .tup _ => some false | _ => none
def isStr : D → Option Bool
  | .int _ => some false | .bl _ => some false | .non => some false | .str _ => some true | .lst _ => some false | .tup _ => some false | _ => none
def isTup : D → Option Bool
  | .int _ => some false | .bl _ => some false | .non => some false | .str _ => some false | .lst _ => some false | .tup _ => some true | _ => none
def isLT : D → Option Bool
  | .int _ => some false | .bl _ => some false | .non => some false | .str _ => some false | .lst _ => some true | .tup _ => some true | _ => none
def tyN : D → Option String
  | .int _ => some "int" | .bl _ => some "bool" | .non => some "NoneType" | .str _ => some "str" | .lst _ => some "list" | .tup _ => some "tuple" | _ => none
theorem ty_of {B H : Hp} {st : Sto} {x : D} {v : V} {n : String} (w : Wd K ca B st H) (r : Rp K ca B x v) (h : tyN x = some n) : TyX K H v (.type n) := by
  cases x with
  | int i => cases h; cases (show v = .int i from r); exact .base (.int i)
  | bl i => cases h; cases (show v = .bl i from r); exact .base (.bl i)
  | non => cases h; cases (show v = .non from r); exact .base .non
  | str i => cases h; cases (show v = .str i from r); exact .base (.str i)
  | lst ds => cases h; obtain ⟨a, xs, rfl, q, _⟩ := r; exact .base (.lst (w.ex _ _ q))
  | tup ds => cases h; obtain ⟨a, xs, rfl, q, _⟩ := r; exact .base (.tup (w.ex _ _ q))
  | _ => cases h
def IsOk (T : String) (f : D → Option Bool) : Prop := ∀ x b, f x = some b → ∃ n, tyN x = some n ∧ kitB n T = some b
theorem isInt_ok : IsOk "int" isInt := fun x b h => by
  cases x <;> cases h <;> exact ⟨_, rfl, by decide +kernel⟩
theorem isBool_ok : IsOk "bool" isBool := fun x b h => by
  cases x <;> cases h <;> exact ⟨_, rfl, by decide +kernel⟩
theorem isStr_ok : IsOk "str" isStr := fun x b h => by
  cases x <;> cases h <;> exact ⟨_, rfl, by decide +kernel⟩
theorem isTup_ok : IsOk "tuple" isTup := fun x b h => by
  cases x <;> cases h <;> exact ⟨_, rfl, by decide +kernel⟩
def wIs (f : D → Option Bool) (wa : WE) : WE := fun e st Φ => wa e st fun x st1 => ∃ b, f x = some b ∧ Φ (.bl b) st1
theorem le_is {T : String} {f : D → Option Bool} (hf : IsOk T f) (h1 : LE K ca ta wa) : LE K ca (tCB (rIsi K) (tCons ta (tCons (tC (.ty T)) tNil))) (wIs f wa) := fun σ e B st H wd er Φ Q k h =>
  h1 σ e B st H wd er _ _ (fun B1 st1 H1 v x g1 w1 r1 h1' => by
    obtain ⟨b, hb, hΦ⟩ := h1'
    obtain ⟨n, hn, hk⟩ := hf x b hb
    exact ⟨v, .ty T, _, _, b, rfl, .ty T, ty_of w1 r1 hn, kit_ty hk, k B1 st1 H1 _ (.bl b) g1 w1 rfl hΦ⟩) h
theorem le_isLT (h1 : LE K ca ta wa) : LE K ca (tCB (rIsiT K) (tCons ta (tCons (tTup (tCons (tC (.ty "list")) (tCons (tC (.ty "tuple")) tNil))) tNil))) (wIs isLT wa) := fun σ e B st H wd er Φ Q k h =>
  h1 σ e B st H wd er _ _ (fun B1 st1 H1 v x g1 w1 r1 h1' => by
    obtain ⟨b, hb, hΦ⟩ := h1'
    refine ⟨by show 2 ≤ sizeLine; decide, fun p hp => ?_⟩
    obtain ⟨w2, g2⟩ := w1.new (o := .tup [.ty "list", .ty "tuple"]) hp
    have key : ∃ n, tyN x = some n ∧ PySem.W.kitAny K (.type n) [.type "list", .type "tuple"] = some b := by
      cases x <;> cases hb
      all_goals refine ⟨_, rfl, ?_⟩
      all_goals first
        | exact kitAny_cons (kit_ty (b := "list") (r := true) (by decide +kernel)) (fun z => by cases z) (fun _ => rfl)
        | exact kitAny_cons (kit_ty (b := "list") (r := false) (by decide +kernel)) (fun _ => kitAny_cons (kit_ty (b := "tuple") (r := true) (by decide +kernel)) (fun z => by cases z) (fun _ => rfl)) (fun z => by cases z)
        | exact kitAny_cons (kit_ty (b := "list") (r := false) (by decide +kernel)) (fun _ => kitAny_cons (kit_ty (b := "tuple") (r := false) (by decide +kernel)) (fun _ => kitAny_nil) (fun z => by cases z)) (fun z => by cases z)
    obtain ⟨n, hn, hk⟩ := key
    exact ⟨v, p, _, _, [.type "list", .type "tuple"], b, rfl, upd_same, .cons (.ty _) (.cons (.ty _) .nil), ty_of w2 (Rp.mono g2.ex x v r1) hn, hk, k _ st1 _ _ (.bl b) (g1.trans g2) w2 rfl hΦ⟩) h
/-- list(range(n)) -/
def intsD (n : Int) : List D := (List.range n.toNat).map fun i => .int (i : Nat)
def wLRg (wa : WE) : WE := fun e st Φ => wa e st fun x st1 => ∃ n : Int, x = .int n ∧ 0 ≤ n ∧ n ≤ 100000 ∧ Φ (.lst (intsD n)) st1
theorem intsD_rp {B : Hp} (n : Nat) : RpA K ca B ((List.range n).map fun i => D.int (i : Nat)) ((List.range n).map fun i => V.int (i : Nat)) := by
  induction n with
  | zero => exact rfl
  | succ n ih =>
    rw [List.range_succ, List.map_append, List.map_append]
    exact ih.append (RpA.cons rfl RpA.nil)
theorem le_lRg (h1 : LE K ca ta wa) : LE K ca (tLstRg (tRg1 ta)) (wLRg wa) := fun σ e B st H wd er Φ Q k h =>
  h1 σ e B st H wd er _ _ (fun B1 st1 H1 v x g1 w1 r1 h1' => by
    obtain ⟨n, rfl, h0, hn, hΦ⟩ := h1'
    cases (show v = .int n from r1)
    have e62 : (2:Int)^62 = 4611686018427387904 := by decide
    refine ⟨n, rfl, ⟨by omega, by omega, by omega, by omega, ?_⟩, fun q hq => ?_⟩
    · rw [show (n - 0).toNat = n.toNat by omega]
      have : (2:Nat)^24 = 16777216 := by decide
      omega
    · obtain ⟨w2, g2⟩ := w1.new (o := .lst (rgV 0 n)) hq
      refine k _ st1 _ _ (.lst (intsD n)) (g1.trans g2) w2 ⟨q, _, rfl, upd_same, ?_⟩ hΦ
      have e1 : rgV 0 n = (List.range n.toNat).map fun i => V.int (i : Nat) := by
        unfold rgV
        rw [show (n - 0).toNat = n.toNat by omega]
        exact List.map_congr_left fun i _ => by rw [Int.zero_add]
      rw [e1]
      exact intsD_rp _) h
end
end DL

set_option Elab.async false
set_option linter.all false
set_option maxRecDepth 100000
set_option maxHeartbeats 0
namespace DL
open PySem L2 PyProof.Rows PySem.Spec
section
variable {X : Cx} {ca : Cl → Addr} {ta tb tc te : TE} {wa wb wc we : WE} {t : TA} {w : WA} {a o e : Expr} {es : List Expr} {p p2 pos tpos : Pos} {kk : Nat} {x id : Str} {r : List V → Hp → VK → Prop} {P : List D → Sto → D → Prop}
theorem de_cB {id : String} {x : Str} (hc : CallR X (.builtin id) r) (hs : SC X.K ca r P) (hm : X.mg x = none) (hv : bootBuiltins x = some (.builtin id)) (ha : DA X ca (e :: es) t w) (hg : Gl X x := by rfl) (hn : x ≠ "__name__" := by decide) (hdb : (x == ("__debug__" : Str)) = false := by decide)
    (he : starEach (e :: es) X.env = (false, eval e X.env) :: starEach es X.env := by rfl) (hpl : (backTo pos (starEach es X.env)).any (·.1) = false := by rfl) : DE X ca (.Call (.Name x p) (e :: es) [] pos) (tCB r t) (wCB P w) := ⟨pe_callB hc hg hm hv ha.pa hn hdb he hpl, le_cb hs ha.le⟩
theorem de_cT {T : String} {x : Str} (hc : CallR X (.type T) r) (hs : SC X.K ca r P) (hm : X.mg x = none) (hv : bootBuiltins x = some (.type T)) (ha : DA X ca (e :: es) t w) (hg : Gl X x := by rfl) (hn : x ≠ "__name__" := by decide) (hdb : (x == ("__debug__" : Str)) = false := by decide)
    (he : starEach (e :: es) X.env = (false, eval e X.env) :: starEach es X.env := by rfl) (hpl : (backTo pos (starEach es X.env)).any (·.1) = false := by rfl) : DE X ca (.Call (.Name x p) (e :: es) [] pos) (tCB r t) (wCB P w) := ⟨pe_callTy hc hg hm hv ha.pa hn hdb he hpl, le_cb hs ha.le⟩
theorem de_lstOfO (hm : X.mg "list" = none) (ha : DA X ca [e] t w) (hg : Gl X "list" := by rfl) (he : starEach [e] X.env = (false, eval e X.env) :: starEach [] X.env := by rfl) :
    DE X ca (.Call (.Name "list" p) [e] [] pos) (tCB (fun xs H Q => ∃ p ys, xs = [.ref p] ∧ (SqL X.K H p ys ∨ SqT X.K H p ys) ∧ ∀ l, H l = none → Q (.ref l) (upd H l (.lst ys))) t) (wLstOfO w) :=
  ⟨pe_callTy call_list_of hg hm boot_list ha.pa (by decide) (by decide) he rfl, le_lstOfO ha.le⟩
theorem de_is {T : String} {f : D → Option Bool} {n : Str} (hf : IsOk T f) (hm : X.mg "isinstance" = none) (hm2 : X.mg n = none) (hv : bootBuiltins n = some (.type T)) (h1 : DE X ca e ta wa) (hg : Gl X "isinstance" := by rfl) (hg2 : Gl X n := by rfl)
    (hn : n ≠ "__name__" := by decide) (hdb : (n == ("__debug__" : Str)) = false := by decide)
    (he : starEach [e, .Name n p2] X.env = (false, eval e X.env) :: starEach [.Name n p2] X.env := by rfl) (hpl : (backTo pos (starEach [.Name n p2] X.env)).any (·.1) = false := by rfl) :
    DE X ca (.Call (.Name "isinstance" p) [e, .Name n p2] [] pos) (tCB (rIsi X.K) (tCons ta (tCons (tC (.ty T)) tNil))) (wIs f wa) :=
  ⟨pe_callB call_isi hg hm (by decide +kernel) (pa_cons h1.pe (pa_cons (pe_bltn (v := .ty T) hg2 hm2 hv rfl hn hdb) pa_nil) he) (by decide) (by decide) he hpl, le_is hf h1.le⟩
theorem de_isLT (hm : X.mg "isinstance" = none) (hml : X.mg "list" = none) (hmt : X.mg "tuple" = none) (h1 : DE X ca e ta wa) (hg : Gl X "isinstance" := by rfl) (hg2 : Gl X "list" := by rfl) (hg3 : Gl X "tuple" := by rfl) {q1 q2 : Pos}
    (he : starEach [e, .Tuple [.Name "list" q1, .Name "tuple" q2] kk tpos] X.env = (false, eval e X.env) :: starEach [.Tuple [.Name "list" q1, .Name "tuple" q2] kk tpos] X.env := by rfl) (hpl : (backTo pos (starEach [.Tuple [.Name "list" q1, .Name "tuple" q2] kk tpos] X.env)).any (·.1) = false := by rfl) :
    DE X ca (.Call (.Name "isinstance" p) [e, .Tuple [.Name "list" q1, .Name "tuple" q2] kk tpos] [] pos) (tCB (rIsiT X.K) (tCons ta (tCons (tTup (tCons (tC (.ty "list")) (tCons (tC (.ty "tuple")) tNil))) tNil))) (wIs isLT wa) :=
  ⟨pe_callB call_isiT hg hm (by decide +kernel) (pa_cons h1.pe (pa_cons (pe_tup (pa_cons (pe_bltn (v := .ty "list") hg2 hml boot_list rfl) (pa_cons (pe_bltn (v := .ty "tuple") hg3 hmt (by decide +kernel) rfl) pa_nil))) pa_nil) he) (by decide) (by decide) he hpl, le_isLT h1.le⟩
theorem de_lRg (hm : X.mg "list" = none) (hm2 : X.mg "range" = none) (h1 : DE X ca e ta wa) (hc : X.calm = true := by rfl) (hg : Gl X "list" := by rfl) (hg2 : Gl X "range" := by rfl) {q1 q2 : Pos}
    (na2 : starEach [e] X.env = (false, eval e X.env) :: starEach [] X.env := by rfl)
    (na : starEach [.Call (.Name "range" q1) [e] [] q2] X.env = (false, eval (.Call (.Name "range" q1) [e] [] q2) X.env) :: starEach [] X.env := by rfl) :
    DE X ca (.Call (.Name "list" p) [.Call (.Name "range" q1) [e] [] q2] [] pos) (tLstRg (tRg1 ta)) (wLRg wa) := ⟨pe_listRg hc hg hm (prg_1 hg2 hm2 h1.pe na2) na, le_lRg h1.le⟩
end
/-! ### slices -/
abbrev WO := Env → Sto → (Option Int → Sto → Prop) → Prop
def LO (K : PySem.W.Frag) (ca : Cl → Addr) (to : TO) (w : WO) : Prop := ∀ (σ : L2.St) (e : Env) (B : Hp) (st : Sto) (H : Hp), Wd K ca B st H → EnvR K ca B σ e → ∀ (Φ : Option Int → Sto → Prop) (Q : Option Int → Hp → Prop),
  (∀ B' st' H' o, Go B st H B' st' H' → Wd K ca B' st' H' → Φ o st' → Q o H') → w e st Φ → to σ H Q
structure DO (X : Cx) (ca : Cl → Addr) (e : Option Expr) (to : TO) (w : WO) : Prop where
  po : PO X e to
  le : LO X.K ca to w
def wONone : WO := fun _ st Φ => Φ none st
def wOSome (wa : WE) : WO := fun e st Φ => wa e st fun x st1 => ∃ i, x = .int i ∧ Φ (some i) st1
def cutD (ds : List D) (lo hi : Option Int) : List D := (ds.drop (HT.sIx ds.length 0 lo)).take (HT.sIx ds.length ds.length hi - HT.sIx ds.length 0 lo)
def wSl (wa : WE) (wl wh : WO) : WE := fun e st Φ => wa e st fun x st1 => wl e st1 fun lo st2 => wh e st2 fun hi st3 => (∃ ds, LstOf st3 x ds ∧ Φ (.lst (cutD ds lo hi)) st3) ∨ (∃ ds, x = .tup ds ∧ Φ (.tup (cutD ds lo hi)) st3)
def rSl (K : PySem.W.Frag) : V → Option Int → Option Int → Hp → VK → Prop := fun x lo hi H Q => rSlL K x lo hi H Q ∨ rSlA K x lo hi H Q
def wRev (wa : WE) : WE := fun e st Φ => wa e st fun x st1 => ∃ ds, LstOf st1 x ds ∧ Φ (.lst ds.reverse) st1
section
variable {K : PySem.W.Frag} {ca : Cl → Addr} {ta tb tc te : TE} {wa wb wc we : WE} {tl th : TO} {wl wh : WO}
theorem lo_none : LO K ca tNoPart wONone := fun σ e B st H w er Φ Q k h => k B st H none (Go.refl w.ex) w h
theorem lo_some (h1 : LE K ca ta wa) : LO K ca (tPart ta) (wOSome wa) := fun σ e B st H w er Φ Q k h =>
  h1 σ e B st H w er _ _ (fun B1 st1 H1 v d g1 w1 r1 h1' => by
    obtain ⟨i, rfl, hΦ⟩ := h1'
    exact ⟨i, r1, k B1 st1 H1 _ g1 w1 hΦ⟩) h
theorem cut_rp {B : Hp} {ds : List D} {xs : List V} {lo hi : Option Int} (r : RpA K ca B ds xs) : RpA K ca B (cutD ds lo hi) (cutV xs lo hi) := by
  unfold cutD cutV
  rw [r.len]
  exact (r.drop _).take _
theorem le_sl (h1 : LE K ca ta wa) (h2 : LO K ca tl wl) (h3 : LO K ca th wh) : LE K ca (tSl (rSl K) ta tl th) (wSl wa wl wh) := fun σ e B st H w er Φ Q k h =>
  h1 σ e B st H w er _ _ (fun B1 st1 H1 v x g1 w1 r1 h1' => h2 σ e B1 st1 H1 w1 (er.mono g1.ex) _ _ (fun B2 st2 H2 lo g2 w2 h2' => h3 σ e B2 st2 H2 w2 (er.mono (g1.ex.trans g2.ex)) _ _ (fun B3 st3 H3 hi g3 w3 h3' => by
    have g03 := (g1.trans g2).trans g3
    have rx := Rp.mono (g2.ex.trans g3.ex) x v r1
    rcases h3' with ⟨ds, hl, hΦ⟩ | ⟨ds, rfl, hΦ⟩
    · obtain ⟨a, xs, rfl, hq, rr⟩ := hl.rd w3 rx
      refine .inl ⟨a, xs, rfl, SqL.of hq, fun p hp => ?_⟩
      obtain ⟨w4, g4⟩ := w3.new (o := .lst (cutV xs lo hi)) hp
      exact k _ _ _ _ (.lst (cutD ds lo hi)) (g03.trans g4) w4 ⟨p, _, rfl, upd_same, RpA.mono g4.ex _ _ (cut_rp rr)⟩ hΦ
    · obtain ⟨a, xs, e1, hq, rr⟩ := tup_rd w3 rx
      subst e1
      refine .inr ⟨a, xs, rfl, SqT.of hq, fun hw => ?_, fun _ p hp => ?_⟩
      · have e2 : cutD ds lo hi = ds := by
          unfold cutD
          rw [← rr.len, hw.1, hw.2, List.drop_zero, rr.len, Nat.sub_zero, List.take_length]
        rw [e2] at hΦ
        exact k _ _ _ _ (.tup ds) g03 w3 rx hΦ
      · obtain ⟨w4, g4⟩ := w3.new (o := .tup (cutV xs lo hi)) hp
        exact k _ _ _ _ (.tup (cutD ds lo hi)) (g03.trans g4) w4 ⟨p, _, rfl, upd_same, RpA.mono g4.ex _ _ (cut_rp rr)⟩ hΦ) h2') h1') h
theorem le_rev (h1 : LE K ca ta wa) : LE K ca (tRevL K ta) (wRev wa) := fun σ e B st H w er Φ Q k h =>
  h1 σ e B st H w er _ _ (fun B1 st1 H1 v x g1 w1 r1 h1' => by
    obtain ⟨ds, hl, hΦ⟩ := h1'
    obtain ⟨a, xs, rfl, hq, rr⟩ := hl.rd w1 r1
    refine ⟨a, xs, rfl, SqL.of hq, fun p hp => ?_⟩
    obtain ⟨w4, g4⟩ := w1.new (o := .lst xs.reverse) hp
    exact k _ _ _ _ (.lst ds.reverse) (g1.trans g4) w4 ⟨p, _, rfl, upd_same, RpA.mono g4.ex _ _ rr.reverse⟩ hΦ) h
end
/-! ### lists that change -/
def wApp (wa : WE) (wr : WA) : WE := fun e st Φ => wa e st fun x st1 => (∃ (j : Nat) (a : Addr) (ds : List D), x = .own a ∧ st1[j]? = some (a, OB.lst ds)) ∧ wr e st1 fun ys st2 => ∃ (j : Nat) (a : Addr) (ds : List D) (y : D), x = .own a ∧ ys = [y] ∧ st2[j]? = some (a, .lst ds) ∧ ds.length < 100000 ∧ Φ .non (st2.set j (a, .lst (ds ++ [y])))
def wPop (wa : WE) (wr : WA) : WE := fun e st Φ => wa e st fun x st1 => (∃ (j : Nat) (a : Addr) (ds : List D), x = .own a ∧ st1[j]? = some (a, OB.lst ds)) ∧ wr e st1 fun ys st2 => ∃ (j : Nat) (a : Addr) (ds : List D) (i : Nat) (d : D), x = .own a ∧ ys = [.int (i : Int)] ∧ st2[j]? = some (a, .lst ds) ∧ i < 100000 ∧ ds[i]? = some d ∧ Φ d (st2.set j (a, .lst (ds.eraseIdx i)))
/-- o[i] = v, o a list that changes -/
def gwSub (wo wi : WE) : WG := fun d e st Φ => wo e st fun x st1 => wi e st1 fun y st2 => ∃ (j : Nat) (a : Addr) (ds : List D) (i : Nat), x = .own a ∧ y = .int (i : Int) ∧ st2[j]? = some (a, .lst ds) ∧ i < ds.length ∧ Φ e (st2.set j (a, .lst (ds.set i d)))
section
variable {K : PySem.W.Frag} {ca : Cl → Addr} {ta tb tc te : TE} {wa wb wc we : WE} {t : TA} {w : WA}
theorem le_app (h1 : LE K ca ta wa) (h2 : LA K ca t w) : LE K ca (tBM K "list" rAppend ta t) (wApp wa w) := fun σ e B st H wd er Φ Q k h =>
  h1 σ e B st H wd er _ _ (fun B1 st1 H1 v x g1 w1 r1 h1' => by
    obtain ⟨⟨j, a, ds, rfl, hj⟩, hr⟩ := h1'
    obtain ⟨o, ho, xs, rfl, rr⟩ := w1.at' hj
    cases (show v = .ref a from r1)
    refine ⟨.inl ⟨rfl, xs, SqL.of ho⟩, h2 σ e B1 st1 H1 w1 (er.mono g1.ex) _ _ (fun B2 st2 H2 vs ys g2 w2 r2 h2' => ?_) hr⟩
    obtain ⟨j2, a2, ds2, y, e2, rfl, hj2, hl, hΦ⟩ := h2'
    cases e2
    obtain ⟨o2, ho2, xs2, rfl, rr2⟩ := w2.at' hj2
    obtain ⟨u, rfl, ru⟩ := rp1 r2
    obtain ⟨w3, g3⟩ := w2.put (c := .lst (ds2 ++ [y])) (o := .lst (xs2 ++ [u])) hj2 ⟨_, rfl, rr2.append (RpA.cons ru RpA.nil)⟩
    exact ⟨a, xs2, u, rfl, rfl, ho2, by rw [rr2.len]; exact Nat.lt_of_lt_of_le hl (by decide), k _ _ _ _ .non ((g1.trans g2).trans g3) w3 rfl hΦ⟩) h
theorem le_pop (h1 : LE K ca ta wa) (h2 : LA K ca t w) : LE K ca (tBM K "list" rPopAt ta t) (wPop wa w) := fun σ e B st H wd er Φ Q k h =>
  h1 σ e B st H wd er _ _ (fun B1 st1 H1 v x g1 w1 r1 h1' => by
    obtain ⟨⟨j, a, ds, rfl, hj⟩, hr⟩ := h1'
    obtain ⟨o, ho, xs, rfl, rr⟩ := w1.at' hj
    cases (show v = .ref a from r1)
    refine ⟨.inl ⟨rfl, xs, SqL.of ho⟩, h2 σ e B1 st1 H1 w1 (er.mono g1.ex) _ _ (fun B2 st2 H2 vs ys g2 w2 r2 h2' => ?_) hr⟩
    obtain ⟨j2, a2, ds2, i, d, e2, rfl, hj2, hl, hd, hΦ⟩ := h2'
    cases e2
    obtain ⟨o2, ho2, xs2, rfl, rr2⟩ := w2.at' hj2
    obtain ⟨u, rfl, ru⟩ := rp1 r2
    cases (show u = .int (i : Int) from ru)
    obtain ⟨y, hy, ry⟩ := rr2.get hd
    obtain ⟨w3, g3⟩ := w2.put (c := .lst (ds2.eraseIdx i)) (o := .lst (xs2.eraseIdx i)) hj2 ⟨_, rfl, rr2.eraseIdx i⟩
    have hlt : i < xs2.length := (List.getElem?_eq_some_iff.mp hy).1
    have e63 : (2:Int)^63 = 9223372036854775808 := by decide
    have hsq : seqIndex? (i : Int) xs2.length = some i := by
      unfold seqIndex?
      simp only [show ¬ ((i : Int) < 0) by omega, if_false]
      simp
      omega
    exact ⟨a, xs2, (i : Int), i, y, rfl, rfl, ho2, by omega, by omega, hsq, hy, k _ _ _ _ d ((g1.trans g2).trans g3) w3 ry hΦ⟩) h
theorem lg_sub (h1 : LE K ca ta wa) (h2 : LE K ca tb wb) : LG K ca (gSub ta tb rSetL) (gwSub wa wb) := fun σ e B st H v d wd er r Φ Q k h =>
  h1 σ e B st H wd er _ _ (fun B1 st1 H1 u x g1 w1 r1 h1' => h2 σ e B1 st1 H1 w1 (er.mono g1.ex) _ _ (fun B2 st2 H2 z y g2 w2 r2 h2' => by
    obtain ⟨j, a, ds, i, rfl, rfl, hj, hi, hΦ⟩ := h2'
    obtain ⟨o2, ho2, xs2, rfl, rr2⟩ := w2.at' hj
    obtain ⟨w3, g3⟩ := w2.put (c := .lst (ds.set i d)) (o := .lst (xs2.set i v)) hj ⟨_, rfl, RpA.set (Rp.mono (g1.ex.trans g2.ex) d v r) i rr2⟩
    have hl : i < xs2.length := by rw [rr2.len]; exact hi
    exact ⟨a, xs2, (i : Int), i, r1, r2, ho2, Evl.ixN_nat hl, k σ e B2 _ _ ((g1.trans g2).trans g3) w3 (er.mono (g1.ex.trans g2.ex)) hΦ⟩) h1') h
end
/-! ### dicts -/
def kD : Key → D
  | .inl i => .int i
  | .inr x => .str x
def valD {κ : Type} [DecidableEq κ] (kvs : List (κ × D)) (k : κ) : Option D := (kvs.find? fun kv => decide (kv.1 = k)).map (·.2)
def putD {κ : Type} [DecidableEq κ] (kvs : List (κ × D)) (k : κ) (v : D) : List (κ × D) :=
  if (kvs.any fun kv => decide (kv.1 = k)) = true then kvs.map (fun kv => if kv.1 = k then (kv.1, v) else kv) else kvs ++ [(k, v)]
def DicAt (st : Sto) (x : D) : Prop := ∃ (j : Nat) (a : Addr), x = .own a ∧ ((∃ kvs, st[j]? = some (a, .dk kvs)) ∨ ∃ kvs, st[j]? = some (a, .dt kvs))
def GetD (st : Sto) (x y : D) (o : Option D) : Prop := ∃ (j : Nat) (a : Addr), x = .own a ∧ ((∃ kvs k, st[j]? = some (a, .dk kvs) ∧ y = kD k ∧ o = valD kvs k) ∨ ∃ (kvs : List (List Key × D)) (k : List Key), st[j]? = some (a, .dt kvs) ∧ y = .tup (k.map kD) ∧ o = valD kvs k)
def PutD (st : Sto) (x y v : D) (st' : Sto) : Prop := ∃ (j : Nat) (a : Addr), x = .own a ∧ ((∃ kvs k, st[j]? = some (a, .dk kvs) ∧ y = kD k ∧ kvs.length < 100000 ∧ st' = st.set j (a, .dk (putD kvs k v))) ∨
  ∃ (kvs : List (List Key × D)) (k : List Key), st[j]? = some (a, .dt kvs) ∧ y = .tup (k.map kD) ∧ kvs.length < 100000 ∧ st' = st.set j (a, .dt (putD kvs k v)))
def wDGet (wd wy : WE) : WE := fun e st Φ => wd e st fun x st1 => wy e st1 fun y st2 => ∃ d, GetD st2 x y (some d) ∧ Φ d st2
def wDGet2 (wd wy wx : WE) : WE := fun e st Φ => wd e st fun x st1 => DicAt st1 x ∧ wy e st1 fun y st2 => wx e st2 fun z st3 => ∃ o, GetD st3 x y o ∧ Φ (o.getD z) st3
def wDIn (neg : Bool) (wy wd : WE) : WE := fun e st Φ => wy e st fun y st1 => wd e st1 fun x st2 => ∃ o, GetD st2 x y o ∧ Φ (.bl (if neg then !o.isSome else o.isSome)) st2
def wDPut (wd wy wv : WE) : WS := fun F e st => wv e st fun v st1 => wd e st1 fun x st2 => wy e st2 fun y st3 => ∃ st4, PutD st3 x y v st4 ∧ F.nx e st4
def wDNewK : WE := fun _ st Φ => ∀ p, Φ (.own p) (st ++ [(p, .dk [])])
def wDNewT : WE := fun _ st Φ => ∀ p, Φ (.own p) (st ++ [(p, .dt [])])
section
variable {K : PySem.W.Frag} {ca : Cl → Addr} {ta tb tc te : TE} {wa wb wc we : WE}
theorem kd_rp {B : Hp} {k : Key} {v : V} (r : Rp K ca B (kD k) v) : v = kV k := by
  cases k <;> exact r
theorem kds_rp {B : Hp} : ∀ {ks : List Key} {vs : List V}, RpA K ca B (ks.map kD) vs → vs = ks.map kV
  | [], vs, r => r
  | k :: ks, vs, r => by
    obtain ⟨x, t, rfl, r1, r2⟩ := r
    rw [kd_rp r1, kds_rp r2]; rfl
theorem val_rp {κ : Type} [DecidableEq κ] {B : Hp} : ∀ {kvs : List (κ × D)} {ws : List (κ × V)} (k : κ), ws.map (·.1) = kvs.map (·.1) → RpA K ca B (kvs.map (·.2)) (ws.map (·.2)) →
    (valD kvs k = none ∧ valV ws k = none) ∨ ∃ d v, valD kvs k = some d ∧ valV ws k = some v ∧ Rp K ca B d v
  | [], ws, k, e, r => by
    have : ws = [] := by simpa using e
    subst this
    exact .inl ⟨rfl, rfl⟩
  | (k1, d1) :: kvs, [], k, e, r => by cases e
  | (k1, d1) :: kvs, (k2, v2) :: ws, k, e, r => by
    injection e with e1 e2
    have e1 : k2 = k1 := e1
    subst e1
    obtain ⟨x, t, ex, r1, r2⟩ := r
    injection ex with ex1 ex2
    subst ex1 ex2
    by_cases h : k2 = k
    · subst h
      exact .inr ⟨d1, v2, by simp [valD], by simp [valV], r1⟩
    · have ih := val_rp k e2 r2
      have a1 : valD ((k2, d1) :: kvs) k = valD kvs k := by simp [valD, List.find?_cons, h]
      have a2 : valV ((k2, v2) :: ws) k = valV ws k := by simp [valV, List.find?_cons, h]
      rw [a1, a2]; exact ih
theorem put_rp {κ : Type} [DecidableEq κ] {B : Hp} {d : D} {v : V} (rd : Rp K ca B d v) {kvs : List (κ × D)} {ws : List (κ × V)} (k : κ) (e : ws.map (·.1) = kvs.map (·.1)) (r : RpA K ca B (kvs.map (·.2)) (ws.map (·.2))) :
    (putK ws k v).map (·.1) = (putD kvs k d).map (·.1) ∧ RpA K ca B ((putD kvs k d).map (·.2)) ((putK ws k v).map (·.2)) := by
  have hany : (ws.any fun kv => decide (kv.1 = k)) = (kvs.any fun kv => decide (kv.1 = k)) := by
    have a1 : (ws.any fun kv => decide (kv.1 = k)) = (ws.map (·.1)).any fun z => decide (z = k) := by rw [List.any_map]; rfl
    have a2 : (kvs.any fun kv => decide (kv.1 = k)) = (kvs.map (·.1)).any fun z => decide (z = k) := by rw [List.any_map]; rfl
    rw [a1, a2, e]
  unfold putK putD
  rw [hany]
  by_cases h : (kvs.any fun kv => decide (kv.1 = k)) = true
  · rw [if_pos h, if_pos h]
    have gen : ∀ (kvs : List (κ × D)) (ws : List (κ × V)), ws.map (·.1) = kvs.map (·.1) → RpA K ca B (kvs.map (·.2)) (ws.map (·.2)) →
        ((ws.map fun kv => if kv.1 = k then (kv.1, v) else kv).map (·.1) = (kvs.map fun kv => if kv.1 = k then (kv.1, d) else kv).map (·.1)) ∧ RpA K ca B ((kvs.map fun kv => if kv.1 = k then (kv.1, d) else kv).map (·.2)) ((ws.map fun kv => if kv.1 = k then (kv.1, v) else kv).map (·.2)) := by
      intro kvs
      induction kvs with
      | nil =>
        intro ws e r
        have : ws = [] := by simpa using e
        subst this
        exact ⟨rfl, rfl⟩
      | cons kd kvs ih =>
        intro ws e r
        cases ws with
        | nil => cases e
        | cons kw ws =>
          obtain ⟨k1, d1⟩ := kd
          obtain ⟨k2, v2⟩ := kw
          injection e with e1 e2
          have e1 : k2 = k1 := e1
          subst e1
          obtain ⟨x, t, ex, r1, r2⟩ := r
          injection ex with ex1 ex2
          subst ex1 ex2
          obtain ⟨i1, i2⟩ := ih ws e2 r2
          simp only [List.map_cons]
          by_cases hk : k2 = k
          · simp only [hk, if_true]
            exact ⟨congrArg _ i1, RpA.cons rd i2⟩
          · simp only [hk, if_false]
            exact ⟨congrArg _ i1, RpA.cons r1 i2⟩
    exact gen kvs ws e r
  · rw [if_neg h, if_neg h]
    refine ⟨?_, ?_⟩
    · rw [List.map_append, List.map_append, e]; rfl
    · rw [List.map_append, List.map_append]
      exact r.append (RpA.cons rd RpA.nil)
theorem GetD.rd {B H : Hp} {st : Sto} {x y : D} {v u : V} {o : Option D} (w : Wd K ca B st H) (rx : Rp K ca B x v) (ry : Rp K ca B y u) (h : GetD st x y o) : ∃ a ov, v = .ref a ∧ DGet H a u ov ∧ ((o = none ∧ ov = none) ∨ ∃ d z, o = some d ∧ ov = some z ∧ Rp K ca B d z) := by
  obtain ⟨j, a, rfl, h⟩ := h
  cases (show v = .ref a from rx)
  rcases h with ⟨kvs, k, hj, rfl, rfl⟩ | ⟨kvs, k, hj, rfl, rfl⟩
  · obtain ⟨ob, ho, ws, rfl, e, r⟩ := w.at' hj
    refine ⟨a, _, rfl, ?_, val_rp k e r⟩
    rw [kd_rp ry]
    exact DGet.k ho
  · obtain ⟨ob, ho, ws, rfl, e, r⟩ := w.at' hj
    obtain ⟨b, xs, rfl, hb, rb⟩ := tup_rd w ry
    rw [kds_rp rb] at hb
    exact ⟨a, _, rfl, DGet.t ho hb, val_rp k e r⟩
theorem DicAt.rd {B H : Hp} {st : Sto} {x : D} {v : V} (w : Wd K ca B st H) (rx : Rp K ca B x v) (h : DicAt st x) : ∃ a, v = .ref a ∧ IsD H a := by
  obtain ⟨j, a, rfl, h⟩ := h
  refine ⟨a, rx, ?_⟩
  rcases h with ⟨kvs, hj⟩ | ⟨kvs, hj⟩
  · obtain ⟨ob, ho, ws, rfl, _⟩ := w.at' hj
    exact .inl ⟨ws, .inl ho⟩
  · obtain ⟨ob, ho, ws, rfl, _⟩ := w.at' hj
    exact .inr ⟨ws, .inl ho⟩
theorem le_dget (h1 : LE K ca ta wa) (h2 : LE K ca tb wb) : LE K ca (tDGet ta tb) (wDGet wa wb) := fun σ e B st H wd er Φ Q k h =>
  h1 σ e B st H wd er _ _ (fun B1 st1 H1 u x g1 w1 r1 h1' => h2 σ e B1 st1 H1 w1 (er.mono g1.ex) _ _ (fun B2 st2 H2 z y g2 w2 r2 h2' => by
    obtain ⟨d, hg, hΦ⟩ := h2'
    obtain ⟨a, ov, rfl, hd, hh⟩ := hg.rd w2 (Rp.mono g2.ex x u r1) r2
    rcases hh with ⟨e1, _⟩ | ⟨d', z', e1, rfl, rz⟩
    · cases e1
    · cases e1
      exact ⟨a, z', rfl, hd, k B2 st2 H2 z' _ (g1.trans g2) w2 rz hΦ⟩) h1') h
theorem le_dget2 (h1 : LE K ca ta wa) (h2 : LE K ca tb wb) (h3 : LE K ca tc wc) : LE K ca (tDGet2 ta tb tc) (wDGet2 wa wb wc) := fun σ e B st H wd er Φ Q k h =>
  h1 σ e B st H wd er _ _ (fun B1 st1 H1 u x g1 w1 r1 h1' => by
    obtain ⟨hd, hr⟩ := h1'
    obtain ⟨a, rfl, hd⟩ := hd.rd w1 r1
    refine ⟨a, rfl, hd, h2 σ e B1 st1 H1 w1 (er.mono g1.ex) _ _ (fun B2 st2 H2 z y g2 w2 r2 h2' => h3 σ e B2 st2 H2 w2 (er.mono (g1.ex.trans g2.ex)) _ _ (fun B3 st3 H3 zz q g3 w3 r3 h3' => ?_) h2') hr⟩
    obtain ⟨o, hg, hΦ⟩ := h3'
    obtain ⟨a', ov, ea, hd', hh⟩ := hg.rd w3 (Rp.mono (g2.ex.trans g3.ex) x _ r1) (Rp.mono g3.ex y z r2)
    cases ea
    refine ⟨ov, hd', ?_⟩
    have g03 := (g1.trans g2).trans g3
    rcases hh with ⟨rfl, rfl⟩ | ⟨d', z', rfl, rfl, rz⟩
    · exact k B3 st3 H3 _ _ g03 w3 r3 hΦ
    · exact k B3 st3 H3 _ _ g03 w3 rz hΦ) h
theorem isSome_of {o : Option D} {ov : Option V} {B : Hp} (h : (o = none ∧ ov = none) ∨ ∃ d z, o = some d ∧ ov = some z ∧ Rp K ca B d z) : ov.isSome = o.isSome := by
  rcases h with ⟨rfl, rfl⟩ | ⟨d, z, rfl, rfl, _⟩ <;> rfl
theorem le_din (h1 : LE K ca ta wa) (h2 : LE K ca tb wb) : LE K ca (tDIn ta tb) (wDIn false wa wb) := fun σ e B st H wd er Φ Q k h =>
  h1 σ e B st H wd er _ _ (fun B1 st1 H1 u y g1 w1 r1 h1' => h2 σ e B1 st1 H1 w1 (er.mono g1.ex) _ _ (fun B2 st2 H2 z x g2 w2 r2 h2' => by
    obtain ⟨o, hg, hΦ⟩ := h2'
    obtain ⟨a, ov, rfl, hd, hh⟩ := hg.rd w2 r2 (Rp.mono g2.ex y u r1)
    refine ⟨a, ov, rfl, hd, k B2 st2 H2 _ (.bl o.isSome) (g1.trans g2) w2 ?_ hΦ⟩
    rw [isSome_of hh]; rfl) h1') h
theorem le_dnotin (h1 : LE K ca ta wa) (h2 : LE K ca tb wb) : LE K ca (tDNotIn ta tb) (wDIn true wa wb) := fun σ e B st H wd er Φ Q k h =>
  h1 σ e B st H wd er _ _ (fun B1 st1 H1 u y g1 w1 r1 h1' => h2 σ e B1 st1 H1 w1 (er.mono g1.ex) _ _ (fun B2 st2 H2 z x g2 w2 r2 h2' => by
    obtain ⟨o, hg, hΦ⟩ := h2'
    obtain ⟨a, ov, rfl, hd, hh⟩ := hg.rd w2 r2 (Rp.mono g2.ex y u r1)
    refine ⟨a, ov, rfl, hd, k B2 st2 H2 _ (.bl (!o.isSome)) (g1.trans g2) w2 ?_ hΦ⟩
    rw [isSome_of hh]; rfl) h1') h
theorem ls_dput (h1 : LE K ca ta wa) (h2 : LE K ca tb wb) (h3 : LE K ca tc wc) : LS K ca (sDPut ta tb tc) (wDPut wa wb wc) := fun σ e B st H wd er E F r h =>
  h3 σ e B st H wd er _ _ (fun B1 st1 H1 v d g1 w1 r1 h1' => h1 σ e B1 st1 H1 w1 (er.mono g1.ex) _ _ (fun B2 st2 H2 u x g2 w2 r2 h2' => h2 σ e B2 st2 H2 w2 (er.mono (g1.ex.trans g2.ex)) _ _ (fun B3 st3 H3 z y g3 w3 r3 h3' => by
    obtain ⟨st4, ⟨j, a, rfl, hp⟩, hn⟩ := h3'
    cases (show u = .ref a from r2)
    have rd := Rp.mono (g2.ex.trans g3.ex) d v r1
    have g03 := (g1.trans g2).trans g3
    have er3 := er.mono g03.ex
    rcases hp with ⟨kvs, kk, hj, rfl, hl, rfl⟩ | ⟨kvs, kk, hj, rfl, hl, rfl⟩
    · obtain ⟨ob, ho, ws, rfl, e1, rr⟩ := w3.at' hj
      obtain ⟨p1, p2⟩ := put_rp rd kk e1 rr
      obtain ⟨w4, g4⟩ := w3.put (c := .dk (putD kvs kk d)) (o := .dK (putK ws kk v)) hj ⟨_, rfl, p1, p2⟩
      have el : ws.length = kvs.length := by simpa using congrArg List.length e1
      refine ⟨a, _, rfl, ?_, r.nx σ e B3 _ _ (g03.trans g4) w4 er3 hn⟩
      rw [kd_rp r3]
      exact DPut.k ho (by rw [el]; exact Nat.lt_of_lt_of_le hl (by decide))
    · obtain ⟨ob, ho, ws, rfl, e1, rr⟩ := w3.at' hj
      obtain ⟨p1, p2⟩ := put_rp rd kk e1 rr
      obtain ⟨w4, g4⟩ := w3.put (c := .dt (putD kvs kk d)) (o := .dT (putK ws kk v)) hj ⟨_, rfl, p1, p2⟩
      have el : ws.length = kvs.length := by simpa using congrArg List.length e1
      obtain ⟨b, xs, rfl, hb, rb⟩ := tup_rd w3 r3
      rw [kds_rp rb] at hb
      exact ⟨a, _, rfl, DPut.t ho hb (by rw [el]; exact Nat.lt_of_lt_of_le hl (by decide)), r.nx σ e B3 _ _ (g03.trans g4) w4 er3 hn⟩) h2') h1') h
theorem le_dnewK : LE K ca tDNewK wDNewK := fun σ e B st H wd er Φ Q k h p hp => by
  obtain ⟨w2, g2⟩ := wd.allocE (b := .dk []) (o := .dK []) hp ⟨[], rfl, rfl, rfl⟩
  exact k _ _ _ _ (.own p) g2 w2 rfl (h p)
theorem le_dnewT : LE K ca tDNewT wDNewT := fun σ e B st H wd er Φ Q k h p hp => by
  obtain ⟨w2, g2⟩ := wd.allocE (b := .dt []) (o := .dT []) hp ⟨[], rfl, rfl, rfl⟩
  exact k _ _ _ _ (.own p) g2 w2 rfl (h p)
end
end DL

set_option Elab.async false
set_option linter.all false
set_option maxRecDepth 100000
set_option maxHeartbeats 0
namespace DL
open PySem L2 PyProof.Rows PySem.Spec
/-! ### enumerate(tuple) -/
theorem meets_enum0 {v : Value} {o : Obj} {H : Heap → Prop} (B : Begins v o H) :
    Meets (Builtin.«enumerate.__new__» ⟨[.type "enumerate", v], []⟩) (fun _ R s => H s.heap ∧
      R (.ok (.ret (.ref (s.heap.push o).objs.size))) { s with heap := (s.heap.push o).push { cls := .type "enumerate", data := .fields #[.none, .bool false, .ref s.heap.objs.size, rawInt 0, .none, .none] } }) :=
  .of_wp fun prog w A R s h => by
    obtain ⟨hp, g, d, tk, os⟩ := s; obtain ⟨h1, h⟩ := h
    have hsub := sub_enumerate
    have q1 : ∀ {A' : Around} {E : Value → Shared → Prop} {Q : Value → Shared → Prop}, Q (.ref hp.objs.size) ⟨hp.push o, g, d, tk, os⟩ → wpAny (model prog w) A' (pyIter v) Q E ⟨hp, g, d, tk, os⟩ :=
      fun q => B.iter prog w _ _ ⟨hp, g, d, tk, os⟩ _ h1 q
    wp_walk using q1
    refine wpAny_stack_any fun st => wpAny_pure ?_
    split
    · rename_i c _ _ _ _ _
      cases (c == Value.type "enumerate")
      · wp_walk using q1
        exact ⟨_, rfl, h⟩
      · wp_walk using q1
        exact ⟨_, rfl, h⟩
    · wp_walk using q1
      exact ⟨_, rfl, h⟩
theorem call_enum0 {prog : Program} {w : World} {A : Around} {E : Value → Shared → Prop} {s : Shared} {v : Value} {o : Obj} {H : Heap → Prop} {Q : Value → Shared → Prop} (B : Begins v o H) (h1 : H s.heap)
    (h : ∀ h', IsEnum h' (s.heap.objs.size + 1) s.heap.objs.size 0 .none → h'.get? s.heap.objs.size = some o → h'.objs.size = s.heap.objs.size + 2 →
      (∀ b o, s.heap.get? b = some o → h'.get? b = some o) → Q (.ref (s.heap.objs.size + 1)) { s with heap := h' }) :
    wpAny (model prog w) A (call (.type "enumerate") [v]) Q E s := by
  refine callType_new F.called_enumerate (by decide) (F.typeCall_enumerate_1 _) (F.newCall_enumerate_1 _) (fun obj => F.args_object_init_2 obj _) F.entry_enumerate_new
    (meets_enum0 B) ⟨h1, ?_⟩
  have hz : (s.heap.push o).objs.size = s.heap.objs.size + 1 := Heap.size_push ..
  show _ ∧ _
  rw [hz]
  have he : IsEnum ((s.heap.push o).push { cls := .type "enumerate", data := .fields #[.none, .bool false, .ref s.heap.objs.size, rawInt 0, .none, .none] }) (s.heap.objs.size + 1) s.heap.objs.size 0 .none := by
    have := Heap.get?_push_size (s.heap.push o) (o := { cls := .type "enumerate", data := .fields #[.none, .bool false, .ref s.heap.objs.size, rawInt 0, .none, .none] }) rfl
    rw [hz] at this; exact this
  refine ⟨⟨_, he, rfl⟩, h _ he (Heap.get?_push_of_some _ (Heap.get?_push_size _ B.free)) (by rw [Heap.size_push, hz]) fun b o x => Heap.get?_push_of_some _ (Heap.get?_push_of_some _ x)⟩
/-- the tuple at a, each item in a new pair -/
def IteT (K : PySem.W.Frag) (a : Addr) : It :=
  ⟨fun i H => ∃ (xs : List V) (x : V), SqT K H a xs ∧ xs[i]? = some x, fun i H v H' => ∃ T x, v = .ref T ∧ H T = none ∧ H' = upd H T (.tup [.int (i : Nat), x]) ∧ ∀ xs, SqT K H a xs → xs[i]? = some x, fun i H => ∃ xs : List V, SqT K H a xs ∧ xs.length = i⟩
theorem turn_enumT {P : Program} {w : World} {K : PySem.W.Frag} {elts : List Expr} {kk : Nat} {tpos : Pos} (a e it : Addr) (hne' : a ≠ it) (hae : a ≠ e) :
    Turn P w K (.Tuple elts kk tpos) (IteT K a) [e, it] e (fun i h => (∃ old, IsEnum h e it ((i : Nat) : Int) old) ∧ h.IsTupleIter it a i ∧ e ≠ it) where
  mem := by simp
  obj := fun i h st b hb => by
    obtain ⟨⟨old, he⟩, ⟨o, ho, hc, hd⟩, _⟩ := st
    have e' : b = e ∨ b = it := by simpa using hb
    rcases e' with z | z
    · rw [z]; exact ⟨_, he, fun v q => nomatch q⟩
    · rw [z]; exact ⟨o, ho, fun v q => by rw [hd] at q; cases q⟩
  keep := fun i h h' st k => let ⟨⟨old, he⟩, hi, hne⟩ := st; ⟨⟨old, k e (by simp) _ he⟩, hi.at fun o q => k it (by simp) o q, hne⟩
  item := by
    intro X hP hw hK hc i pins s σ H E I hf st hg
    subst hP hw hK
    obtain ⟨⟨old, he⟩, hit, hne⟩ := st
    obtain ⟨xs, x, hq, hx⟩ := hg
    obtain ⟨its, rv, p, hz⟩ := I.tuple hq
    obtain ⟨u, hu, ru⟩ := rv.get hx
    have hel : e < s.heap.objs.size := Heap.lt_size he
    have hil : it < s.heap.objs.size := by obtain ⟨_, q, _⟩ := hit; exact Heap.lt_size q
    have hlt : i < its.toArray.size := by
      have := (List.getElem?_eq_some_iff.mp hu).1
      simpa using this
    refine wpAny_pyNext_enum_itemC (Draws.tuple (A := X.A.in1) (I.ok.hd hc) it a hne' its.toArray) he ⟨hit, (show s.heap.IsTuple a its.toArray from p)⟩ hlt hne (by simp [Ne.symm hae, hne]) fun y h' tk hy ho hst hT hsz hk => ?_
    have hyu : y = u := by
      have h1 : its[i]? = some y := by simpa using hy
      rw [hu] at h1
      exact (Option.some.inj h1).symm
    subst hyu
    have hit' := hst.1
    refine ⟨_, rfl, wpAny_letOwnedTupleGo_enum (s := { s with heap := h', toks := tk + 1 }) ho fun h'' he' sb => ?_⟩
    have hT2 : h''.get? s.heap.objs.size = some { cls := .type "tuple", data := .seq #[.int i tk, y] } := (sb.2 _ (Nat.ne_of_gt hel)).trans hT
    have new : ObjOk X.prog X.w (upd H s.heap.objs.size (.tup [.int (i : Nat), x])) h'' s.heap.objs.size (.tup [.int (i : Nat), x]) :=
      ⟨by show 2 ≤ sizeLine; decide, [.int i tk, y], .cons ⟨_, rfl⟩ (.cons ru .nil), ⟨_, hT2, rfl, _, rfl⟩⟩
    have I1 : Inv X pins σ (upd H s.heap.objs.size (.tup [.int (i : Nat), x])) { s with heap := h'', toks := tk + 1 } :=
      I.turnedNew (ch := [e, it]) (fun b ob hb q => (sb.2 b (fun z => hb (by simp [z]))).trans (hk b ob (fun z => hb (by simp [z])) (fun z => hb (by simp [z])) q)) hf (Nat.le_refl _) new
    refine ⟨.ref s.heap.objs.size, _, I1, rfl, ⟨_, x, rfl, I.hok.fresh (Nat.le_refl _), rfl, fun ys hy => by rw [I.tuple_inj hy hq]; exact hx⟩, ⟨⟨y, ?_⟩, hit'.at fun o q => (sb.2 it (Ne.symm hne)).trans q, hne⟩, fun b hb => ?_⟩
    · have e1 : ((i + 1 : Nat) : Int) = (i : Int) + 1 := by omega
      rw [e1]; exact he'
    · have hb' : b < s.heap.objs.size := by
        have e' : b = e ∨ b = it := by simpa using hb
        rcases e' with z | z
        · rw [z]; exact hel
        · rw [z]; exact hil
      rw [upd_ne (Nat.ne_of_lt hb')]
      exact (hf b hb).1
  done := by
    intro X hP hw hK hc i pins s σ H E I hf st hg
    subst hP hw hK
    obtain ⟨⟨old, he⟩, hit, hne⟩ := st
    obtain ⟨xs, hq, hx⟩ := hg
    obtain ⟨its, rv, p, hz⟩ := I.tuple hq
    obtain ⟨f0, f1, f2, f3, f4, f5⟩ := hf it (by simp)
    have hl := rv.length
    have hi : its.toArray.size = i := by simp; omega
    refine wpAny_pyNext_enum_endD (Draws.tuple (A := X.A.in1) (I.ok.hd hc) it a hne' its.toArray) he ⟨by rw [hi]; exact hit, (show s.heap.IsTuple a its.toArray from p)⟩ fun h' eb => ⟨rfl, I.turned (t' := s.toks) (fun b o hb q => eb b o hb q) f0 f1 f3 f4 f5⟩
  self := fun A i s Q E st h => let ⟨⟨_, he⟩, _⟩ := st; wpAny_pyIter_enum he h
def iEnumT (K : PySem.W.Frag) (ta : TA) : TI := fun σ H R => ta σ H fun vs H1 => ∃ a xs, vs = [.ref a] ∧ SqT K H1 a xs ∧ R (IteT K a) H1
theorem pi_enumT {X : Cx} {e : Expr} {ta : TA} {p pos tpos : Pos} {elts : List Expr} {kk : Nat} (hg : Gl X "enumerate") (hm : X.mg "enumerate" = none) (ha : PA X [e] ta) (hs : starEach [e] X.env = [(false, eval e X.env)] := by rfl) :
    PI X (.Tuple elts kk tpos) (.Call (.Name "enumerate" p) [e] [] pos) (iEnumT X.K ta) := by
  refine ⟨fun pins s σ H R I h => ?_⟩
  refine Call_ (ld_blt I hg hm boot_enumerate (PyProof.Rows.callWith_type1 (thn (ha.run pos pins s σ H _ I h) fun us s1 ⟨vs, H1, I1, r1, q1⟩ => ?_) hs rfl))
  obtain ⟨a, xs, ex, hq, q⟩ := q1
  subst ex
  cases r1 with
  | cons r rr =>
    cases rr
    cases r
    obtain ⟨its, rv, p', hz⟩ := I1.tuple hq
    have pt : s1.heap.IsTuple a its.toArray := p'
    have hal : a < s1.heap.objs.size := by obtain ⟨o, q, _⟩ := pt; exact Heap.lt_size q
    refine call_enum0 (begins_tuple a its.toArray) pt fun h' he hit hsz hk => wpAny_pyIter_enum he ?_
    have I2 : Inv X pins σ H1 { s1 with heap := h' } := I1.kept (t' := s1.toks) hk
    refine ⟨s1.heap.objs.size + 1, [s1.heap.objs.size + 1, s1.heap.objs.size], _, _, H1, rfl, I2, turn_enumT a (s1.heap.objs.size + 1) s1.heap.objs.size (Nat.ne_of_lt hal) (Nat.ne_of_lt (Nat.lt_succ_of_lt hal)), ⟨⟨.none, he⟩, ⟨_, hit, rfl, rfl⟩, Nat.succ_ne_self _⟩, fun b hb => ?_, q⟩
    have e' : b = s1.heap.objs.size + 1 ∨ b = s1.heap.objs.size := by simpa using hb
    have hle : s1.heap.objs.size ≤ b := by
      rcases e' with z | z
      · rw [z]; exact Nat.le_add_right _ _
      · rw [z]; exact Nat.le_refl _
    exact I1.fpOk hle (I1.hok.fresh hle)
end DL

set_option Elab.async false
set_option linter.all false
set_option maxRecDepth 100000
set_option maxHeartbeats 0
namespace DL
open PySem L2 PyProof.Rows PySem.Spec
/-! ### what a loop walks -/
structure WkC (K : PySem.W.Frag) (ca : Cl → Addr) (J : It) (B : Hp) (ds : List D) (C : Sto → Prop) : Prop where
  go : ∀ (i : Nat) (B2 : Hp) (st : Sto) (H : Hp), i < ds.length → Ex B B2 → Wd K ca B2 st H → C st → J.go i H
  stop : ∀ (B2 : Hp) (st : Sto) (H : Hp), Ex B B2 → Wd K ca B2 st H → C st → J.stop ds.length H
  yld : ∀ (i : Nat) H x H' B2 st, i < ds.length → Ex B B2 → Wd K ca B2 st H → C st → J.yld i H x H' → ∃ B' d, Go B2 st H B' st H' ∧ Wd K ca B' st H' ∧ ds[i]? = some d ∧ Rp K ca B' d x
theorem Wk.toC {K : PySem.W.Frag} {ca : Cl → Addr} {J : It} {B : Hp} {ds : List D} (k : Wk K ca J B ds) : WkC K ca J B ds fun _ => True :=
  ⟨fun i B2 st H h x w _ => k.go i H h (x.trans w.ex), fun B2 st H x w _ => k.stop H (x.trans w.ex), fun i H x H' B2 st h e w _ y => k.yld i H x H' B2 st h e w y⟩
def ItOf (x : D) (ds : List D) : Prop := x = .lst ds ∨ ∃ ns : List Int, x = .scr ns ∧ ds = ns.map D.int
def wiLst (wa : WE) : WA := fun e st Φ => wa e st fun x st1 => ∃ ds, ItOf x ds ∧ Φ ds st1
def wiTup (wa : WE) : WA := fun e st Φ => wa e st fun x st1 => ∃ ds, x = .tup ds ∧ Φ ds st1
def wiRg (w : WA) : WA := fun e st Φ => w e st fun ds st1 => ∃ n : Int, ds = [.int n] ∧ n ≤ 100000 ∧ -100000 ≤ n ∧ Φ (intsD n) st1
def wiRev (wa : WE) : WA := fun e st Φ => wa e st fun x st1 => ∃ n : Int, x = .int n ∧ 0 ≤ n ∧ n ≤ 100000 ∧ Φ (intsD n).reverse st1
def enumD : Nat → List D → List D
  | _, [] => []
  | i, d :: r => .tup [.int (i : Nat), d] :: enumD (i + 1) r
def wiEnL (w : WA) : WA := fun e st Φ => w e st fun as st1 => ∃ ds, as = [.lst ds] ∧ Φ (enumD 0 ds) st1
def wiEnT (w : WA) : WA := fun e st Φ => w e st fun as st1 => ∃ ds, as = [.tup ds] ∧ Φ (enumD 0 ds) st1
theorem enumD_len : ∀ (i : Nat) (ds : List D), (enumD i ds).length = ds.length
  | _, [] => rfl
  | i, d :: r => by show (enumD (i + 1) r).length + 1 = r.length + 1; rw [enumD_len]
theorem enumD_get : ∀ (k : Nat) (ds : List D) (i : Nat) (d : D), ds[i]? = some d → (enumD k ds)[i]? = some (.tup [.int ((k + i : Nat) : Int), d])
  | k, [], i, d, h => by simp at h
  | k, x :: r, 0, d, h => by simp at h; subst h; rfl
  | k, x :: r, i + 1, d, h => by
    have := enumD_get (k + 1) r i d (by simpa using h)
    show (enumD (k + 1) r)[i]? = _
    rw [this, show k + 1 + i = k + (i + 1) by omega]
theorem intsD_len (n : Int) : (intsD n).length = n.toNat := by unfold intsD; rw [List.length_map, List.length_range]
theorem intsD_get {n : Int} {i : Nat} (h : i < n.toNat) : (intsD n)[i]? = some (.int (i : Nat)) := by
  unfold intsD; rw [List.getElem?_map, List.getElem?_range h]; rfl
section
variable {K : PySem.W.Frag} {ca : Cl → Addr} {ta tb tc te : TE} {wa wb wc we : WE} {t : TA} {w : WA}
theorem li_lst (h1 : LE K ca ta wa) : LI K ca (iList K ta) (wiLst wa) := fun σ e B st H wd er Φ R k h =>
  h1 σ e B st H wd er _ _ (fun B1 st1 H1 v x g1 w1 r1 h1' => by
    obtain ⟨ds, hi, hΦ⟩ := h1'
    have key : ∃ a xs, v = .ref a ∧ SqL K B1 a xs ∧ RpA K ca B1 ds xs := by
      rcases hi with rfl | ⟨ns, rfl, rfl⟩
      · obtain ⟨a, xs, rfl, q, r⟩ := r1
        exact ⟨a, xs, rfl, SqL.of q, r⟩
      · obtain ⟨a, rfl, q⟩ := r1
        refine ⟨a, _, rfl, q, ?_⟩
        clear q hΦ h1
        induction ns with
        | nil => exact rfl
        | cons n ns ih => exact RpA.cons rfl ih
    obtain ⟨a, xs, rfl, q, r⟩ := key
    refine ⟨a, rfl, ⟨xs, Same.seq w1.ex q⟩, k B1 st1 H1 _ ds g1 w1 ⟨fun i H' hi ex => ?_, fun H' ex => ⟨xs, Same.seq ex q, by rw [r.len]; exact Nat.le_refl _⟩, fun i H' x' H2 B2 st2 hi ex w2 hy => ?_⟩ hΦ⟩
    · have hx : i < xs.length := by rw [r.len]; exact hi
      exact ⟨xs, xs[i], Same.seq ex q, by simp [hx]⟩
    · obtain ⟨rfl, hy⟩ := hy
      have hx := hy xs (Same.seq (ex.trans w2.ex) q)
      obtain ⟨d, hd, rd⟩ := r.getV hx
      exact ⟨B2, d, Go.refl w2.ex, w2, hd, Rp.mono ex d _ rd⟩) h
theorem li_tup (h1 : LE K ca ta wa) : LI K ca (iTup K ta) (wiTup wa) := fun σ e B st H wd er Φ R k h =>
  h1 σ e B st H wd er _ _ (fun B1 st1 H1 v x g1 w1 r1 h1' => by
    obtain ⟨ds, rfl, hΦ⟩ := h1'
    obtain ⟨a, xs, rfl, q, r⟩ := r1
    refine ⟨a, rfl, ⟨xs, SqT.of (w1.ex _ _ q)⟩, k B1 st1 H1 _ ds g1 w1 ⟨fun i H' hi ex => ?_, fun H' ex => ⟨xs, SqT.of (ex _ _ q), by rw [r.len]; exact Nat.le_refl _⟩, fun i H' x' H2 B2 st2 hi ex w2 hy => ?_⟩ hΦ⟩
    · have hx : i < xs.length := by rw [r.len]; exact hi
      exact ⟨xs, xs[i], SqT.of (ex _ _ q), by simp [hx]⟩
    · obtain ⟨rfl, hy⟩ := hy
      have hx := hy xs (SqT.of (w2.ex _ _ (ex _ _ q)))
      obtain ⟨d, hd, rd⟩ := r.getV hx
      exact ⟨B2, d, Go.refl w2.ex, w2, hd, Rp.mono ex d _ rd⟩) h
theorem li_rg (h1 : LA K ca t w) : LI K ca (iRng1 t) (wiRg w) := fun σ e B st H wd er Φ R k h =>
  h1 σ e B st H wd er _ _ (fun B1 st1 H1 vs xs g1 w1 r1 h1' => by
    obtain ⟨n, rfl, hn, hn', hΦ⟩ := h1'
    obtain ⟨v, rfl, rv⟩ := rp1 r1
    cases (show v = .int n from rv)
    have e62 : (2:Int)^62 = 4611686018427387904 := by decide
    refine ⟨n, rfl, by omega, by omega, k B1 st1 H1 _ (intsD n) g1 w1 ⟨fun i H' hi ex => by rw [intsD_len] at hi; exact hi, fun H' ex => by rw [intsD_len]; exact Nat.le_refl _, fun i H' x' H2 B2 st2 hi ex w2 hy => ?_⟩ hΦ⟩
    obtain ⟨rfl, rfl⟩ := hy
    rw [intsD_len] at hi
    exact ⟨B2, _, Go.refl w2.ex, w2, intsD_get hi, by show V.int (0 + (i : Int)) = V.int (i : Nat); rw [Int.zero_add]⟩) h
theorem li_rev (h1 : LE K ca ta wa) : LI K ca (iRevR (tRg1 ta)) (wiRev wa) := fun σ e B st H wd er Φ R k h =>
  h1 σ e B st H wd er _ _ (fun B1 st1 H1 v x g1 w1 r1 h1' => by
    obtain ⟨n, rfl, h0, hn, hΦ⟩ := h1'
    have e62 : (2:Int)^62 = 4611686018427387904 := by decide
    have hl : (intsD n).reverse.length = (n - 0).toNat := by rw [List.length_reverse, intsD_len, Int.sub_zero]
    refine ⟨n, r1, by omega, by omega, by omega, by omega, k B1 st1 H1 _ (intsD n).reverse g1 w1 ⟨fun i H' hi ex => by rw [hl] at hi; exact hi, fun H' ex => by rw [hl]; exact Nat.le_refl _, fun i H' x' H2 B2 st2 hi ex w2 hy => ?_⟩ hΦ⟩
    obtain ⟨rfl, rfl⟩ := hy
    rw [hl] at hi
    refine ⟨B2, .int ((n.toNat - 1 - i : Nat) : Int), Go.refl w2.ex, w2, ?_, ?_⟩
    · rw [List.getElem?_reverse (by rw [intsD_len]; omega), intsD_len]
      exact intsD_get (by omega)
    · show V.int _ = V.int _
      congr 1
      omega) h
theorem li_enL (h1 : LA K ca t w) : LI K ca (iEnum K t) (wiEnL w) := fun σ e B st H wd er Φ R k h =>
  h1 σ e B st H wd er _ _ (fun B1 st1 H1 vs xs g1 w1 r1 h1' => by
    obtain ⟨ds, rfl, hΦ⟩ := h1'
    obtain ⟨v, rfl, rv⟩ := rp1 r1
    obtain ⟨a, ys, rfl, q, r⟩ := rv
    refine ⟨a, ys, rfl, SqL.of (w1.ex _ _ q), k B1 st1 H1 _ (enumD 0 ds) g1 w1 ⟨fun i H' hi ex => ?_, fun H' ex => ⟨ys, SqL.of (ex _ _ q), by rw [enumD_len, r.len]; exact Nat.le_refl _⟩, fun i H' x' H2 B2 st2 hi ex w2 hy => ?_⟩ hΦ⟩
    · have hx : i < ys.length := by rw [r.len]; rw [enumD_len] at hi; exact hi
      exact ⟨ys, ys[i], SqL.of (ex _ _ q), by simp [hx]⟩
    · obtain ⟨T, y, rfl, hT, rfl, hy⟩ := hy
      have hx := hy ys (SqL.of (w2.ex _ _ (ex _ _ q)))
      obtain ⟨d, hd, rd⟩ := r.getV hx
      obtain ⟨w3, g3⟩ := w2.new (o := .tup [.int (i : Nat), y]) hT
      refine ⟨_, _, g3, w3, enumD_get 0 ds i d hd, T, _, rfl, upd_same, ?_⟩
      rw [Nat.zero_add]
      exact RpA.cons rfl (RpA.cons (Rp.mono (ex.trans g3.ex) d _ rd) rfl)) h
theorem li_enT (h1 : LA K ca t w) : LI K ca (iEnumT K t) (wiEnT w) := fun σ e B st H wd er Φ R k h =>
  h1 σ e B st H wd er _ _ (fun B1 st1 H1 vs xs g1 w1 r1 h1' => by
    obtain ⟨ds, rfl, hΦ⟩ := h1'
    obtain ⟨v, rfl, rv⟩ := rp1 r1
    obtain ⟨a, ys, rfl, q, r⟩ := rv
    refine ⟨a, ys, rfl, SqT.of (w1.ex _ _ q), k B1 st1 H1 _ (enumD 0 ds) g1 w1 ⟨fun i H' hi ex => ?_, fun H' ex => ⟨ys, SqT.of (ex _ _ q), by rw [enumD_len, r.len]⟩, fun i H' x' H2 B2 st2 hi ex w2 hy => ?_⟩ hΦ⟩
    · have hx : i < ys.length := by rw [r.len]; rw [enumD_len] at hi; exact hi
      exact ⟨ys, ys[i], SqT.of (ex _ _ q), by simp [hx]⟩
    · obtain ⟨T, y, rfl, hT, rfl, hy⟩ := hy
      have hx := hy ys (SqT.of (w2.ex _ _ (ex _ _ q)))
      obtain ⟨d, hd, rd⟩ := r.getV hx
      obtain ⟨w3, g3⟩ := w2.new (o := .tup [.int (i : Nat), y]) hT
      refine ⟨_, _, g3, w3, enumD_get 0 ds i d hd, T, _, rfl, upd_same, ?_⟩
      rw [Nat.zero_add]
      exact RpA.cons rfl (RpA.cons (Rp.mono (ex.trans g3.ex) d _ rd) rfl)) h
end
section
variable {X : Cx} {ca : Cl → Addr} {ta tb tc te : TE} {wa wb wc we : WE} {t : TA} {w : WA} {tg e : Expr} {elts : List Expr} {kk : Nat} {p pos tpos q1 q2 : Pos}
theorem di_lst (h1 : DE X ca e ta wa) : DI X ca tg e (iList X.K ta) (wiLst wa) := ⟨pi_list h1.pe, li_lst h1.le⟩
theorem di_tup (h1 : DE X ca e ta wa) : DI X ca tg e (iTup X.K ta) (wiTup wa) := ⟨pi_tup h1.pe, li_tup h1.le⟩
theorem di_rg (hm : X.mg "range" = none) (ha : DA X ca [e] t w) (hg : Gl X "range" := by rfl) (hs : starEach [e] X.env = [(false, eval e X.env)] := by rfl) : DI X ca tg (.Call (.Name "range" p) [e] [] pos) (iRng1 t) (wiRg w) := ⟨pi_range1 hg hm ha.pa hs, li_rg ha.le⟩
theorem di_rev (hm : X.mg "reversed" = none) (hm2 : X.mg "range" = none) (h1 : DE X ca e ta wa) (hg : Gl X "reversed" := by rfl) (hg2 : Gl X "range" := by rfl) (na2 : starEach [e] X.env = (false, eval e X.env) :: starEach [] X.env := by rfl)
    (na : starEach [.Call (.Name "range" q1) [e] [] q2] X.env = (false, eval (.Call (.Name "range" q1) [e] [] q2) X.env) :: starEach [] X.env := by rfl) :
    DI X ca tg (.Call (.Name "reversed" p) [.Call (.Name "range" q1) [e] [] q2] [] pos) (iRevR (tRg1 ta)) (wiRev wa) := ⟨pi_revR hg hm (prg_1 hg2 hm2 h1.pe na2) na, li_rev h1.le⟩
theorem di_enL (hm : X.mg "enumerate" = none) (ha : DA X ca [e] t w) (hg : Gl X "enumerate" := by rfl) (hs : starEach [e] X.env = [(false, eval e X.env)] := by rfl) : DI X ca (.Tuple elts kk tpos) (.Call (.Name "enumerate" p) [e] [] pos) (iEnum X.K t) (wiEnL w) := ⟨pi_enum hg hm ha.pa hs, li_enL ha.le⟩
theorem di_enT (hm : X.mg "enumerate" = none) (ha : DA X ca [e] t w) (hg : Gl X "enumerate" := by rfl) (hs : starEach [e] X.env = [(false, eval e X.env)] := by rfl) : DI X ca (.Tuple elts kk tpos) (.Call (.Name "enumerate" p) [e] [] pos) (iEnumT X.K t) (wiEnT w) := ⟨pi_enumT hg hm ha.pa hs, li_enT ha.le⟩
end
/-! ### targets of several names -/
abbrev WGs := List D → Env → Sto → (Env → Sto → Prop) → Prop
def LGs (K : PySem.W.Frag) (ca : Cl → Addr) (tg : TGs) (w : WGs) : Prop := ∀ (σ : L2.St) (e : Env) (B : Hp) (st : Sto) (H : Hp) (vs : List V) (ds : List D), Wd K ca B st H → EnvR K ca B σ e → RpA K ca B ds vs → ∀ (Φ : Env → Sto → Prop) (Q : L2.St → Hp → Prop),
  (∀ σ' e' B' st' H', Go B st H B' st' H' → Wd K ca B' st' H' → EnvR K ca B' σ' e' → Φ e' st' → Q σ' H') → w ds e st Φ → tg vs σ H Q
structure DGs (X : Cx) (ca : Cl → Addr) (es : List Expr) (tg : TGs) (w : WGs) : Prop where
  pg : PGs X es tg
  le : LGs X.K ca tg w
def gwNil : WGs := fun ds e st Φ => ds = [] ∧ Φ e st
def gwCons (wg : WG) (wr : WGs) : WGs := fun ds e st Φ => ∃ d r, ds = d :: r ∧ wg d e st fun e1 st1 => wr r e1 st1 Φ
def gwTup (n : Nat) (w : WGs) : WG := fun d e st Φ => ∃ ds, d = .tup ds ∧ ds.length = n ∧ w ds e st Φ
def gwUnl (n : Nat) (w : WGs) : WG := fun d e st Φ => ∃ ds, LstOf st d ds ∧ ds.length = n ∧ w ds e st Φ
section
variable {K : PySem.W.Frag} {ca : Cl → Addr} {tg : TG} {wg : WG} {tr : TGs} {wr : WGs} {n : Nat}
theorem lgs_nil : LGs K ca gNil gwNil := fun σ e B st H vs ds w er r Φ Q k h => by
  obtain ⟨rfl, hΦ⟩ := h
  cases (show vs = [] from r)
  exact ⟨rfl, k σ e B st H (Go.refl w.ex) w er hΦ⟩
theorem lgs_cons (h1 : LG K ca tg wg) (h2 : LGs K ca tr wr) : LGs K ca (gCons tg tr) (gwCons wg wr) := fun σ e B st H vs ds w er r Φ Q k h => by
  obtain ⟨d, rest, rfl, hΦ⟩ := h
  obtain ⟨x, xs, rfl, rx, rr⟩ := r
  exact ⟨x, xs, rfl, h1 σ e B st H x d w er rx _ _ (fun σ1 e1 B1 st1 H1 g1 w1 er1 hr => h2 σ1 e1 B1 st1 H1 xs rest w1 er1 (RpA.mono g1.ex _ _ rr) Φ Q (fun σ2 e2 B2 st2 H2 g2 => k σ2 e2 B2 st2 H2 (g1.trans g2)) hr) hΦ⟩
theorem lg_tup (h1 : LGs K ca tr wr) : LG K ca (gTup K n tr) (gwTup n wr) := fun σ e B st H v d w er r Φ Q k h => by
  obtain ⟨ds, rfl, hl, hΦ⟩ := h
  obtain ⟨a, xs, rfl, q, rr⟩ := tup_rd w r
  exact ⟨a, xs, rfl, SqT.of q, by rw [rr.len]; exact hl, h1 σ e B st H xs ds w er rr Φ Q k hΦ⟩
theorem lg_unl (h1 : LGs K ca tr wr) : LG K ca (gUnl K n tr) (gwUnl n wr) := fun σ e B st H v d w er r Φ Q k h => by
  obtain ⟨ds, hl, hn, hΦ⟩ := h
  obtain ⟨a, xs, rfl, q, rr⟩ := hl.rd w r
  exact ⟨a, xs, rfl, SqL.of q, by rw [rr.len]; exact hn, h1 σ e B st H xs ds w er rr Φ Q k hΦ⟩
end
section
variable {X : Cx} {ca : Cl → Addr} {tg : TG} {wg : WG} {tr : TGs} {wr : WGs} {n kk : Nat} {e o i : Expr} {es : List Expr} {pos : Pos} {ta tb : TE} {wa wb : WE}
theorem dgs_nil : DGs X ca [] gNil gwNil := ⟨pgs_nil, lgs_nil⟩
theorem dgs_cons (h1 : DG X ca e tg wg) (h2 : DGs X ca es tr wr) (hs : (assignEach (e :: es) X.env).map (·.2) = assign e X.env :: (assignEach es X.env).map (·.2) := by rfl) : DGs X ca (e :: es) (gCons tg tr) (gwCons wg wr) := ⟨pgs_cons h1.pg h2.pg hs, lgs_cons h1.le h2.le⟩
theorem dg_tup (n : Nat) (h : DGs X ca es tr wr) (hc : X.calm = true := by rfl) (hn : (assignEach es X.env).length = n := by rfl) (hst : (assignEach es X.env).findIdx? (·.1) = none := by rfl) : DG X ca (.Tuple es kk pos) (gTup X.K n tr) (gwTup n wr) := ⟨pg_tup hc h.pg hn hst, lg_tup h.le⟩
theorem dg_unl (n : Nat) (h : DGs X ca es tr wr) (hc : X.calm = true := by rfl) (hn : (assignEach es X.env).length = n := by rfl) (hst : (assignEach es X.env).findIdx? (·.1) = none := by rfl) : DG X ca (.Tuple es kk pos) (gUnl X.K n tr) (gwUnl n wr) := ⟨pg_unl hc h.pg hn hst, lg_unl h.le⟩
theorem dg_sub (h1 : DE X ca o ta wa) (h2 : DE X ca i tb wb) (ha : ∀ v, assign (.Subscript o i pos) X.env v = (do
      let ov ← holding [v] (eval o X.env)
      let iv ← holding [v, ov] (eval i X.env)
      standAt pos
      holding [v, ov, iv] (setItem ov iv v)
      release [v, ov, iv] []) := by intro _; rfl) : DG X ca (.Subscript o i pos) (gSub ta tb rSetL) (gwSub wa wb) := ⟨pg_sub h1.pe h2.pe set_list ha, lg_sub h1.le h2.le⟩
end
end DL

set_option Elab.async false
set_option linter.all false
set_option maxRecDepth 100000
set_option maxHeartbeats 0
namespace DL
open PySem L2 PyProof.Rows PySem.Spec
/-! ### comprehensions -/
def lcgoC (C : Sto → Prop) (j : Nat) (wt : WT) (we : WE) (e : Env) (Ψ : List D → Sto → Prop) : List D → List D → Sto → Prop
  | [], acc, st => Ψ acc st
  | d :: r, acc, st => wt (e.set j (some d)) st fun b st1 => if b = true then we (e.set j (some d)) st1 fun y st2 => C st2 ∧ lcgoC C j wt we e Ψ r (acc ++ [y]) st2 else C st1 ∧ lcgoC C j wt we e Ψ r acc st1
def lcgo (j : Nat) (wt : WT) (we : WE) (e : Env) (Ψ : List D → Sto → Prop) : List D → List D → Sto → Prop
  | [], acc, st => Ψ acc st
  | d :: r, acc, st => wt (e.set j (some d)) st fun b st1 => if b = true then we (e.set j (some d)) st1 fun y st2 => lcgo j wt we e Ψ r (acc ++ [y]) st2 else lcgo j wt we e Ψ r acc st1
theorem lcgo_eq (j : Nat) (wt : WT) (we : WE) (e : Env) (Ψ : List D → Sto → Prop) : ∀ (ds acc : List D) (st : Sto), lcgoC (fun _ => True) j wt we e Ψ ds acc st = lcgo j wt we e Ψ ds acc st
  | [], acc, st => rfl
  | d :: r, acc, st => by
    show (wt (e.set j (some d)) st fun b st1 => if b = true then we (e.set j (some d)) st1 fun y st2 => True ∧ lcgoC (fun _ => True) j wt we e Ψ r (acc ++ [y]) st2 else True ∧ lcgoC (fun _ => True) j wt we e Ψ r acc st1) = _
    simp only [true_and, lcgo_eq j wt we e Ψ r]
    rfl
/-- the new list is fixed -/
def wLc (wi : WA) (j : Nat) (wt : WT) (we : WE) : WE := fun e st Φ => wi e st fun ds st1 => ds.length ≤ 100000 ∧ lcgo j wt we e (fun acc st2 => Φ (.lst acc) st2) ds [] st1
/-- the new list may change -/
def wLcO (wi : WA) (j : Nat) (wt : WT) (we : WE) : WE := fun e st Φ => wi e st fun ds st1 => ds.length ≤ 100000 ∧ lcgo j wt we e (fun acc st2 => ∀ p, Φ (.own p) (st2 ++ [(p, .lst acc)])) ds [] st1
/-- over a list that may change, but does not -/
def wLcS (wa : WE) (j : Nat) (wt : WT) (we : WE) : WE := fun e st Φ => wa e st fun x st1 => ∃ (k : Nat) (a : Addr) (ds : List D), x = .own a ∧ st1[k]? = some (a, .lst ds) ∧ ds.length ≤ 100000 ∧ lcgoC (fun st2 => st2 = st1) j wt we e (fun acc st2 => Φ (.lst acc) st2) ds [] st1
section
variable {K : PySem.W.Frag} {ca : Cl → Addr} {B B' B1 H H' H1 : Hp} {st st' st1 : Sto} {L : Addr} {o : HO}
theorem Wd.stray (w : Wd K ca B st H) (hB : B L = none) (hs : L ∉ st.map (·.1)) : Wd K ca B st (upd H L o) := by
  refine ⟨fun a u ha => ?_, w.nd, w.fr, fun q m => ?_⟩
  · rw [upd_ne (ne_of_none ha hB)]; exact w.ex a u ha
  · obtain ⟨u, hu, r⟩ := w.at_ q m
    refine ⟨u, ?_, r⟩
    rw [upd_ne fun e => hs (List.mem_map.mpr ⟨q, m, e⟩)]; exact hu
theorem Go.stray (g : Go B st H B' st' H') (hL : H L = none) : Go B st H B' st' (upd H' L o) :=
  ⟨g.ex, fun a u ha m => by rw [upd_ne (ne_of_none ha hL)]; exact g.fm a u ha m, g.nw, g.nb⟩
theorem Wd.adopt (w : Wd K ca B st H) (hH : H L = some o) (hB : B L = none) (hs : L ∉ st.map (·.1)) : Wd K ca (upd B L o) st H := by
  refine ⟨fun a u ha => ?_, w.nd, fun q m => ?_, fun q m => ?_⟩
  · by_cases e : a = L
    · subst e; rw [upd_same] at ha; rw [hH]; exact ha
    · rw [upd_ne e] at ha; exact w.ex a u ha
  · rw [upd_ne fun e => hs (List.mem_map.mpr ⟨q, m, e⟩)]; exact w.fr q m
  · obtain ⟨u, hu, r⟩ := w.at_ q m
    exact ⟨u, hu, r.mono (Ex.new hB)⟩
theorem Go.adopt (g : Go B st H B' st' H') (hL : H L = none) (hB : B' L = none) : Go B st H (upd B' L o) st' H' :=
  ⟨g.ex.trans (Ex.new hB), g.fm, g.nw, fun a u ha => by
    by_cases e : a = L
    · subst e; exact .inr (.inl hL)
    · rw [upd_ne e] at ha; exact g.nb a u ha⟩
theorem Wd.take (w : Wd K ca B st H) {b : OB} (hH : H L = some o) (hB : B L = none) (hs : L ∉ st.map (·.1)) (r : ObR K ca B b o) : Wd K ca B (st ++ [(L, b)]) H := by
  refine ⟨w.ex, ?_, fun q m => ?_, fun q m => ?_⟩
  · rw [List.map_append, List.nodup_append]
    refine ⟨w.nd, by simp, fun a ha b hb e => ?_⟩
    have : b = L := by simpa using hb
    subst this; subst e; exact hs ha
  · rcases List.mem_append.mp m with m | m
    · exact w.fr q m
    · have : q = (L, b) := by simpa using m
      subst this; exact hB
  · rcases List.mem_append.mp m with m | m
    · exact w.at_ q m
    · have : q = (L, b) := by simpa using m
      subst this; exact ⟨o, hH, r⟩
theorem Go.take (g : Go B st H B' st' H') {b : OB} (hL : H L = none) : Go B st H B' (st' ++ [(L, b)]) H' :=
  ⟨g.ex, g.fm, fun a m => by
    rw [List.map_append, List.mem_append] at m
    rcases m with m | m
    · exact g.nw a m
    · have : a = L := by simpa using m
      subst this; exact .inr hL, g.nb⟩
end
section
variable {K : PySem.W.Frag} {ca : Cl → Addr} {te : TE} {we : WE} {tt : TT} {wt : WT} {wi : TI} {wI : WA} {j : Nat}
theorem Go.keepL {B B' H H' : Hp} {st st' : Sto} {L : Addr} {o : HO} (g : Go B st H B' st' H') (hH : H L = some o) (hB : B L = none) (hs : L ∉ st.map (·.1)) (ht : ∀ xs, o ≠ .tup xs := by intro _ e; cases e) : H' L = some o ∧ B' L = none ∧ L ∉ st'.map (·.1) := by
  refine ⟨g.fm L o hH hs, ?_, fun m => ?_⟩
  · cases e : B' L with
    | none => rfl
    | some u =>
      rcases g.nb L u e with z | z | z | ⟨xs, z⟩
      · rw [hB] at z; cases z
      · rw [hH] at z; cases z
      · exact absurd z hs
      · exact absurd z (by rw [hH]; intro q; exact ht xs (Option.some.inj q))
  · rcases g.nw L m with z | z
    · exact hs z
    · rw [hH] at z; cases z
def LcInv (K : PySem.W.Frag) (ca : Cl → Addr) (B1 : Hp) (st1 : Sto) (H1 : Hp) (C : Sto → Prop) (j : Nat) (wt : WT) (we : WE) (e : Env) (Ψ : List D → Sto → Prop) (ds : List D) (L : Addr) (i : Nat) (H' : Hp) : Prop :=
  ∃ B' st' xs acc, Go B1 st1 H1 B' st' H' ∧ Wd K ca B' st' H' ∧ H' L = some (.lst xs) ∧ RpA K ca B' acc xs ∧ B' L = none ∧ L ∉ st'.map (·.1) ∧ acc.length ≤ i ∧ C st' ∧ lcgoC C j wt we e Ψ (ds.drop i) acc st'
theorem lc_data {σ : L2.St} {e : Env} {B1 H1 : Hp} {st1 : Sto} {J : It} {ds : List D} {C : Sto → Prop} {Ψ : List D → Sto → Prop} {Q : VK} (ht : LT K ca tt wt) (he : LE K ca te we) (w1 : Wd K ca B1 st1 H1) (er : EnvR K ca B1 σ e) (wk : WkC K ca J B1 ds C) (hC : C st1) (hl : ds.length ≤ 100000)
    (hh : lcgoC C j wt we e Ψ ds [] st1)
    (fin : ∀ L B' st' H' xs acc, H1 L = none → Go B1 st1 H1 B' st' H' → Wd K ca B' st' H' → H' L = some (.lst xs) → RpA K ca B' acc xs → B' L = none → L ∉ st'.map (·.1) → Ψ acc st' → Q (.ref L) H') :
    ∀ L, H1 L = none → ∃ W : Nat → Nat → Hp → Prop, (∃ m, W 0 m (upd H1 L (.lst []))) ∧ ∀ i m H, W i m H →
      (J.stop i H ∧ Q (.ref L) H) ∨ (J.go i H ∧ ∃ Nx : Hp → Prop, (∀ H', Nx H' → ∃ m', m' < m ∧ W (i + 1) m' H') ∧ ∀ x H', J.yld i H x H' → gName j x (wipe σ [j]) H' fun σ2 H2 => wipe σ2 [j] = wipe σ [j] ∧ tt σ2 H2 fun b H3 =>
        if b = true then te σ2 H3 fun y H4 => ∃ acc, H4 L = some (.lst acc) ∧ acc.length < sizeLine ∧ Nx (upd H4 L (.lst (acc ++ [y]))) else Nx H3) := by
  intro L hL
  refine ⟨fun i m H' => m = ds.length - i ∧ i ≤ ds.length ∧ LcInv K ca B1 st1 H1 C j wt we e Ψ ds L i H', ⟨ds.length, rfl, Nat.zero_le _, B1, st1, [], [], (Go.refl w1.ex).stray hL, w1.stray ?_ ?_, upd_same, rfl, ?_, ?_, Nat.le_refl _, hC, hh⟩, fun i m H' hw => ?_⟩
  · cases e : B1 L with
    | none => rfl
    | some o => rw [w1.ex _ _ e] at hL; cases hL
  · intro m
    obtain ⟨q, hq, e⟩ := List.mem_map.mp m
    obtain ⟨o, ho, _⟩ := w1.at_ q hq
    rw [e, hL] at ho; cases ho
  · cases e : B1 L with
    | none => rfl
    | some o => rw [w1.ex _ _ e] at hL; cases hL
  · intro m
    obtain ⟨q, hq, e⟩ := List.mem_map.mp m
    obtain ⟨o, ho, _⟩ := w1.at_ q hq
    rw [e, hL] at ho; cases ho
  obtain ⟨rfl, hi, B', st', xs, acc, g', w', hH, hr, hB, hs, ha, hc, hf⟩ := hw
  by_cases hlt : i < ds.length
  · refine .inr ⟨wk.go i B' st' H' hlt g'.ex w' hc, fun H'' => LcInv K ca B1 st1 H1 C j wt we e Ψ ds L (i + 1) H'', fun H'' nx => ⟨ds.length - (i + 1), by omega, rfl, hlt, nx⟩, fun x H2 hy => ?_⟩
    obtain ⟨B2, d, g2, w2, hd, rd⟩ := wk.yld i H' x H2 B' st' hlt g'.ex w' hc hy
    obtain ⟨hH2, hB2, hs2⟩ := g2.keepL hH hB hs
    have e0 : ds.drop i = d :: ds.drop (i + 1) := by
      rw [List.drop_eq_getElem_cons hlt]
      rw [List.getElem?_eq_getElem hlt] at hd
      rw [Option.some.inj hd]
    rw [e0] at hf
    have er2 : EnvR K ca B2 ((wipe σ [j]).set j (some x)) (e.set j (some d)) := by
      have := ((er.mono (g'.ex.trans g2.ex)).wipe [j]).set j rd
      have ee : (wipeE e [j]).set j (some d) = e.set j (some d) := List.set_set ..
      rw [ee] at this
      exact this
    refine ⟨?_, ht _ _ B2 st' H2 w2 er2 _ _ (fun B3 st3 H3 b g3 w3 hb => ?_) hf⟩
    · show ((σ.set j none).set j (some x)).set j none = σ.set j none
      rw [List.set_set, List.set_set]
    · obtain ⟨hH3, hB3, hs3⟩ := g3.keepL hH2 hB2 hs2
      have g03 := (g'.trans g2).trans g3
      have x03 := g2.ex.trans g3.ex
      cases b with
      | false =>
        obtain ⟨hc3, hb⟩ := hb
        exact ⟨B3, st3, xs, acc, g03, w3, hH3, RpA.mono x03 _ _ hr, hB3, hs3, by omega, hc3, hb⟩
      | true =>
        refine he _ _ B3 st3 H3 w3 (er2.mono g3.ex) _ _ (fun B4 st4 H4 y dy g4 w4 ry h4 => ?_) hb
        obtain ⟨hc4, h4⟩ := h4
        obtain ⟨hH4, hB4, hs4⟩ := g4.keepL hH3 hB3 hs3
        refine ⟨xs, hH4, ?_, B4, st4, xs ++ [y], acc ++ [dy], (g03.trans g4).stray hL, w4.stray hB4 hs4, upd_same, (RpA.mono (x03.trans g4.ex) _ _ hr).append (RpA.cons ry RpA.nil), hB4, hs4, ?_, hc4, h4⟩
        · rw [hr.len]
          have : 100000 < sizeLine := by decide
          omega
        · rw [List.length_append]; simp; omega
  · have ei : i = ds.length := by omega
    subst ei
    refine .inl ⟨wk.stop B' st' H' g'.ex w' hc, fin L B' st' H' xs acc hL g' w' hH hr hB hs ?_⟩
    rw [List.drop_length] at hf
    exact hf
theorem le_lc (h0 : LI K ca wi wI) (ht : LT K ca tt wt) (he : LE K ca te we) : LE K ca (tLc wi (gName j) tt te [j]) (wLc wI j wt we) := fun σ e B st H w er Φ Q k h =>
  h0 σ e B st H w er _ _ (fun B1 st1 H1 J ds g1 w1 wk hf => by
    obtain ⟨hl, hf⟩ := hf
    rw [← lcgo_eq] at hf
    exact lc_data ht he w1 (er.mono g1.ex) wk.toC trivial hl hf fun L B' st' H' xs acc hL g' w' hH hr hB hs hΦ =>
      k _ st' H' _ (.lst acc) (g1.trans (g'.adopt hL hB)) (w'.adopt hH hB hs) ⟨L, xs, rfl, upd_same, RpA.mono (Ex.new hB) _ _ hr⟩ hΦ) h
theorem le_lcO (h0 : LI K ca wi wI) (ht : LT K ca tt wt) (he : LE K ca te we) : LE K ca (tLc wi (gName j) tt te [j]) (wLcO wI j wt we) := fun σ e B st H w er Φ Q k h =>
  h0 σ e B st H w er _ _ (fun B1 st1 H1 J ds g1 w1 wk hf => by
    obtain ⟨hl, hf⟩ := hf
    rw [← lcgo_eq] at hf
    exact lc_data ht he w1 (er.mono g1.ex) wk.toC trivial hl hf fun L B' st' H' xs acc hL g' w' hH hr hB hs hΦ =>
      k _ _ H' _ (.own L) (g1.trans (g'.take hL)) (w'.take (b := .lst acc) hH hB hs ⟨xs, rfl, hr⟩) rfl (hΦ L)) h
theorem le_lcS {ta : TE} {wa : WE} (h0 : LE K ca ta wa) (ht : LT K ca tt wt) (he : LE K ca te we) : LE K ca (tLc (iList K ta) (gName j) tt te [j]) (wLcS wa j wt we) := fun σ e B st H w er Φ Q k h =>
  h0 σ e B st H w er _ _ (fun B1 st1 H1 v x g1 w1 r1 hf => by
    obtain ⟨n, a, ds, rfl, hj, hl, hf⟩ := hf
    obtain ⟨o, ho, xs, rfl, rr⟩ := w1.at' hj
    refine ⟨a, r1, ⟨xs, SqL.of ho⟩, lc_data (C := fun st2 => st2 = st1) ht he w1 (er.mono g1.ex) (ds := ds) ⟨fun i B2 st H hi x w2 hc => ?_, fun B2 st H x w2 hc => ?_, fun i H x H' B2 st hi ex w2 hc hy => ?_⟩ rfl hl hf fun L B' st' H' xs acc hL g' w' hH hr hB hs hΦ =>
      k _ st' H' _ (.lst acc) (g1.trans (g'.adopt hL hB)) (w'.adopt hH hB hs) ⟨L, xs, rfl, upd_same, RpA.mono (Ex.new hB) _ _ hr⟩ hΦ⟩
    · subst hc
      obtain ⟨o, ho, xs, rfl, rr⟩ := w2.at' hj
      have hx : i < xs.length := by rw [rr.len]; exact hi
      exact ⟨xs, xs[i], SqL.of ho, by simp [hx]⟩
    · subst hc
      obtain ⟨o, ho, xs, rfl, rr⟩ := w2.at' hj
      exact ⟨xs, SqL.of ho, by rw [rr.len]; exact Nat.le_refl _⟩
    · subst hc
      obtain ⟨rfl, hy⟩ := hy
      obtain ⟨o, ho, xs, rfl, rr⟩ := w2.at' hj
      obtain ⟨d, hd, rd⟩ := rr.getV (hy xs (SqL.of ho))
      exact ⟨B2, d, Go.refl w2.ex, w2, hd, rd⟩) h
end
structure DTs (X : Cx) (ca : Cl → Addr) (ifs : List Expr) (tt : TT) (w : WT) : Prop where
  pt : PTs X ifs tt
  le : LT X.K ca tt w
def wYes : WT := fun _ st Φ => Φ true st
section
variable {X : Cx} {ca : Cl → Addr} {te ta : TE} {we wa : WE} {tt : TT} {wt : WT} {wi : TI} {wI : WA} {elt iter c : Expr} {ifs : List Expr} {scope : Scope} {pos tp py spos : Pos} {x y : Str}
theorem dts_nil : DTs X ca [] tYes wYes := ⟨pts_nil, fun σ e B st H w er Φ Q k h => k B st H true (Go.refl w.ex) w h⟩
theorem dts_one (h : DT X ca c tt wt) : DTs X ca [c] tt wt := ⟨pts_one h.pt, h.le⟩
abbrev BlkT (α : Type) := Shared → Hp → Addr → List (Str × Addr) → List Addr → α
abbrev atX {α : Type} (X : Cx) (t : BlkT α) : α := t X.s_0 X.H_0 X.env.locals [] []
variable {teF : BlkT TE} {ttF : BlkT TT}
theorem blk_pt (h : ∀ (s : Shared) (H : Hp) (C : Addr) (cl : List (Str × Addr)) (fp : List Addr), DTs (X.blk s H scope (compEnvC scope cl C X.env) fp) ca ifs (ttF s H C cl fp) wt) : LT X.K ca (atX X ttF) wt := (h X.s_0 X.H_0 X.env.locals [] []).le
theorem blk_pe (h : ∀ (s : Shared) (H : Hp) (C : Addr) (cl : List (Str × Addr)) (fp : List Addr), DE (X.blk s H scope (compEnvC scope cl C X.env) fp) ca elt (teF s H C cl fp) we) : LE X.K ca (atX X teF) we := (h X.s_0 X.H_0 X.env.locals [] []).le
/-- [elt for x in iter if c] as a value -/
theorem de_lc (j : Nat) (hN : X.N.Nodup) (hi : DI X ca (.Name x tp) iter wi wI) (hg : ∀ (s : Shared) (H : Hp) (C : Addr) (cl : List (Str × Addr)) (fp : List Addr), DG (X.blk s H scope (compEnvC scope cl C X.env) fp) ca (.Name x tp) (gName j) (gwName j)) (ht : ∀ (s : Shared) (H : Hp) (C : Addr) (cl : List (Str × Addr)) (fp : List Addr), DTs (X.blk s H scope (compEnvC scope cl C X.env) fp) ca ifs (ttF s H C cl fp) wt) (he : ∀ (s : Shared) (H : Hp) (C : Addr) (cl : List (Str × Addr)) (fp : List Addr), DE (X.blk s H scope (compEnvC scope cl C X.env) fp) ca elt (teF s H C cl fp) we) (ok : BlkOk X.N X.env.scope scope [(x, j)]) (e1 : ∀ s H C cl fp, ttF s H C cl fp = atX X ttF := by intros; rfl) (e2 : ∀ s H C cl fp, teF s H C cl fp = atX X teF := by intros; rfl) (hc : X.calm = true := by rfl) (hs : ∀ x, foldedSetIterable iter X.env x = pure x := by intro _; rfl) :
    DE X ca (.ListComp elt [⟨.Name x tp, iter, ifs, 0⟩] scope pos) (tLc wi (gName j) (atX X ttF) (atX X teF) [j]) (wLc wI j wt we) :=
  ⟨pe_lc (own := [(x, j)]) hc hN hi.pi ok (fun s H C cl fp => (hg s H C cl fp).pg) (fun s H C cl fp => e1 s H C cl fp ▸ (ht s H C cl fp).pt) (fun s H C cl fp => e2 s H C cl fp ▸ (he s H C cl fp).pe) hs, le_lc hi.le (blk_pt ht) (blk_pe he)⟩
theorem de_lcO (j : Nat) (hN : X.N.Nodup) (hi : DI X ca (.Name x tp) iter wi wI) (hg : ∀ (s : Shared) (H : Hp) (C : Addr) (cl : List (Str × Addr)) (fp : List Addr), DG (X.blk s H scope (compEnvC scope cl C X.env) fp) ca (.Name x tp) (gName j) (gwName j)) (ht : ∀ (s : Shared) (H : Hp) (C : Addr) (cl : List (Str × Addr)) (fp : List Addr), DTs (X.blk s H scope (compEnvC scope cl C X.env) fp) ca ifs (ttF s H C cl fp) wt) (he : ∀ (s : Shared) (H : Hp) (C : Addr) (cl : List (Str × Addr)) (fp : List Addr), DE (X.blk s H scope (compEnvC scope cl C X.env) fp) ca elt (teF s H C cl fp) we) (ok : BlkOk X.N X.env.scope scope [(x, j)]) (e1 : ∀ s H C cl fp, ttF s H C cl fp = atX X ttF := by intros; rfl) (e2 : ∀ s H C cl fp, teF s H C cl fp = atX X teF := by intros; rfl) (hc : X.calm = true := by rfl) (hs : ∀ x, foldedSetIterable iter X.env x = pure x := by intro _; rfl) :
    DE X ca (.ListComp elt [⟨.Name x tp, iter, ifs, 0⟩] scope pos) (tLc wi (gName j) (atX X ttF) (atX X teF) [j]) (wLcO wI j wt we) :=
  ⟨pe_lc (own := [(x, j)]) hc hN hi.pi ok (fun s H C cl fp => (hg s H C cl fp).pg) (fun s H C cl fp => e1 s H C cl fp ▸ (ht s H C cl fp).pt) (fun s H C cl fp => e2 s H C cl fp ▸ (he s H C cl fp).pe) hs, le_lcO hi.le (blk_pt ht) (blk_pe he)⟩
theorem de_lcS (j : Nat) (hN : X.N.Nodup) (hi : DE X ca iter ta wa) (hg : ∀ (s : Shared) (H : Hp) (C : Addr) (cl : List (Str × Addr)) (fp : List Addr), DG (X.blk s H scope (compEnvC scope cl C X.env) fp) ca (.Name x tp) (gName j) (gwName j)) (ht : ∀ (s : Shared) (H : Hp) (C : Addr) (cl : List (Str × Addr)) (fp : List Addr), DTs (X.blk s H scope (compEnvC scope cl C X.env) fp) ca ifs (ttF s H C cl fp) wt) (he : ∀ (s : Shared) (H : Hp) (C : Addr) (cl : List (Str × Addr)) (fp : List Addr), DE (X.blk s H scope (compEnvC scope cl C X.env) fp) ca elt (teF s H C cl fp) we) (ok : BlkOk X.N X.env.scope scope [(x, j)]) (e1 : ∀ s H C cl fp, ttF s H C cl fp = atX X ttF := by intros; rfl) (e2 : ∀ s H C cl fp, teF s H C cl fp = atX X teF := by intros; rfl) (hc : X.calm = true := by rfl) (hs : ∀ x, foldedSetIterable iter X.env x = pure x := by intro _; rfl) :
    DE X ca (.ListComp elt [⟨.Name x tp, iter, ifs, 0⟩] scope pos) (tLc (iList X.K ta) (gName j) (atX X ttF) (atX X teF) [j]) (wLcS wa j wt we) :=
  ⟨pe_lc (own := [(x, j)]) hc hN (pi_list hi.pe) ok (fun s H C cl fp => (hg s H C cl fp).pg) (fun s H C cl fp => e1 s H C cl fp ▸ (ht s H C cl fp).pt) (fun s H C cl fp => e2 s H C cl fp ▸ (he s H C cl fp).pe) hs, le_lcS hi.le (blk_pt ht) (blk_pe he)⟩
/-- y = [..], y a local -/
theorem ds_setLc (i j : Nat) (hN : X.N.Nodup) (hi : DI X ca (.Name x tp) iter wi wI) (hg : ∀ (s : Shared) (H : Hp) (C : Addr) (cl : List (Str × Addr)) (fp : List Addr), DG (X.blk s H scope (compEnvC scope cl C X.env) fp) ca (.Name x tp) (gName j) (gwName j)) (ht : ∀ (s : Shared) (H : Hp) (C : Addr) (cl : List (Str × Addr)) (fp : List Addr), DTs (X.blk s H scope (compEnvC scope cl C X.env) fp) ca ifs (ttF s H C cl fp) wt) (he : ∀ (s : Shared) (H : Hp) (C : Addr) (cl : List (Str × Addr)) (fp : List Addr), DE (X.blk s H scope (compEnvC scope cl C X.env) fp) ca elt (teF s H C cl fp) we) (ok : BlkOk X.N X.env.scope scope [(x, j)]) (e1 : ∀ s H C cl fp, ttF s H C cl fp = atX X ttF := by intros; rfl) (e2 : ∀ s H C cl fp, teF s H C cl fp = atX X teF := by intros; rfl)
    (hy : X.N[i]? = some y := by rfl) (hyl : X.env.scope.names.lookup y = some .local := by rfl) (hsw : swapsWith (.ListComp elt [⟨.Name x tp, iter, ifs, 0⟩] scope pos) (some (.Name y py)) spos.line X.env = pure true := by exact sw_true rfl rfl rfl rfl) (hc : X.calm = true := by rfl) (hs : ∀ x, foldedSetIterable iter X.env x = pure x := by intro _; rfl) :
    DS X ca (.Assign [.Name y py] (.ListComp elt [⟨.Name x tp, iter, ifs, 0⟩] scope pos) spos) (tAsg (tLc wi (gName j) (atX X ttF) (atX X teF) [j]) (gName i)) (wAsg (wLc wI j wt we) (gwName i)) :=
  ⟨ps_setLc (own := [(x, j)]) hc hN hy hyl hsw hi.pi ok (fun s H C cl fp => (hg s H C cl fp).pg) (fun s H C cl fp => e1 s H C cl fp ▸ (ht s H C cl fp).pt) (fun s H C cl fp => e2 s H C cl fp ▸ (he s H C cl fp).pe) hs, ls_asg (le_lc hi.le (blk_pt ht) (blk_pe he)) lg_name⟩
theorem ds_setLcO (i j : Nat) (hN : X.N.Nodup) (hi : DI X ca (.Name x tp) iter wi wI) (hg : ∀ (s : Shared) (H : Hp) (C : Addr) (cl : List (Str × Addr)) (fp : List Addr), DG (X.blk s H scope (compEnvC scope cl C X.env) fp) ca (.Name x tp) (gName j) (gwName j)) (ht : ∀ (s : Shared) (H : Hp) (C : Addr) (cl : List (Str × Addr)) (fp : List Addr), DTs (X.blk s H scope (compEnvC scope cl C X.env) fp) ca ifs (ttF s H C cl fp) wt) (he : ∀ (s : Shared) (H : Hp) (C : Addr) (cl : List (Str × Addr)) (fp : List Addr), DE (X.blk s H scope (compEnvC scope cl C X.env) fp) ca elt (teF s H C cl fp) we) (ok : BlkOk X.N X.env.scope scope [(x, j)]) (e1 : ∀ s H C cl fp, ttF s H C cl fp = atX X ttF := by intros; rfl) (e2 : ∀ s H C cl fp, teF s H C cl fp = atX X teF := by intros; rfl)
    (hy : X.N[i]? = some y := by rfl) (hyl : X.env.scope.names.lookup y = some .local := by rfl) (hsw : swapsWith (.ListComp elt [⟨.Name x tp, iter, ifs, 0⟩] scope pos) (some (.Name y py)) spos.line X.env = pure true := by exact sw_true rfl rfl rfl rfl) (hc : X.calm = true := by rfl) (hs : ∀ x, foldedSetIterable iter X.env x = pure x := by intro _; rfl) :
    DS X ca (.Assign [.Name y py] (.ListComp elt [⟨.Name x tp, iter, ifs, 0⟩] scope pos) spos) (tAsg (tLc wi (gName j) (atX X ttF) (atX X teF) [j]) (gName i)) (wAsg (wLcO wI j wt we) (gwName i)) :=
  ⟨ps_setLc (own := [(x, j)]) hc hN hy hyl hsw hi.pi ok (fun s H C cl fp => (hg s H C cl fp).pg) (fun s H C cl fp => e1 s H C cl fp ▸ (ht s H C cl fp).pt) (fun s H C cl fp => e2 s H C cl fp ▸ (he s H C cl fp).pe) hs, ls_asg (le_lcO hi.le (blk_pt ht) (blk_pe he)) lg_name⟩
theorem ds_setLcS (i j : Nat) (hN : X.N.Nodup) (hi : DE X ca iter ta wa) (hg : ∀ (s : Shared) (H : Hp) (C : Addr) (cl : List (Str × Addr)) (fp : List Addr), DG (X.blk s H scope (compEnvC scope cl C X.env) fp) ca (.Name x tp) (gName j) (gwName j)) (ht : ∀ (s : Shared) (H : Hp) (C : Addr) (cl : List (Str × Addr)) (fp : List Addr), DTs (X.blk s H scope (compEnvC scope cl C X.env) fp) ca ifs (ttF s H C cl fp) wt) (he : ∀ (s : Shared) (H : Hp) (C : Addr) (cl : List (Str × Addr)) (fp : List Addr), DE (X.blk s H scope (compEnvC scope cl C X.env) fp) ca elt (teF s H C cl fp) we) (ok : BlkOk X.N X.env.scope scope [(x, j)]) (e1 : ∀ s H C cl fp, ttF s H C cl fp = atX X ttF := by intros; rfl) (e2 : ∀ s H C cl fp, teF s H C cl fp = atX X teF := by intros; rfl)
    (hy : X.N[i]? = some y := by rfl) (hyl : X.env.scope.names.lookup y = some .local := by rfl) (hsw : swapsWith (.ListComp elt [⟨.Name x tp, iter, ifs, 0⟩] scope pos) (some (.Name y py)) spos.line X.env = pure true := by exact sw_true rfl rfl rfl rfl) (hc : X.calm = true := by rfl) (hs : ∀ x, foldedSetIterable iter X.env x = pure x := by intro _; rfl) :
    DS X ca (.Assign [.Name y py] (.ListComp elt [⟨.Name x tp, iter, ifs, 0⟩] scope pos) spos) (tAsg (tLc (iList X.K ta) (gName j) (atX X ttF) (atX X teF) [j]) (gName i)) (wAsg (wLcS wa j wt we) (gwName i)) :=
  ⟨ps_setLc (own := [(x, j)]) hc hN hy hyl hsw (pi_list hi.pe) ok (fun s H C cl fp => (hg s H C cl fp).pg) (fun s H C cl fp => e1 s H C cl fp ▸ (ht s H C cl fp).pt) (fun s H C cl fp => e2 s H C cl fp ▸ (he s H C cl fp).pe) hs, ls_asg (le_lcS hi.le (blk_pt ht) (blk_pe he)) lg_name⟩
end
end DL

set_option Elab.async false
set_option linter.all false
set_option maxRecDepth 100000
set_option maxHeartbeats 0
namespace DL
open PySem L2 L2.DX PyProof.Rows PySem.Spec
section
variable {X : Cx}
/-! ### all(a tuple of bools) -/
def rAllT (K : PySem.W.Frag) : List V → Hp → VK → Prop := fun vs H Q => ∃ (a : Addr) (bs : List Bool), vs = [V.ref a] ∧ SqT K H a (bs.map V.bl) ∧ Q (.bl (bs.all id)) H
theorem cr_allT (hc : X.calm = true) : CallR X (.builtin "all") (rAllT X.K) := by
  intro pins s σ H vs us Q I r h
  obtain ⟨a, bs, rfl, hs, q⟩ := h
  obtain ⟨its, rv, hl, _⟩ := I.tuple hs
  have pt : s.heap.IsTuple a its.toArray := hl
  have hlt : a < s.heap.objs.size := by obtain ⟨o, e, _⟩ := pt; exact Heap.lt_size e
  rw [Vals.ref1 r]
  have hb := rv.bls
  refine call_all_walk (wpAny_pyIter_tuple pt ?_)
  refine ⟨_, _, _, _, _, _, _, rfl, Walks.tuple (A := X.A.in1) (I.ok.hd hc) _ a (Nat.ne_of_lt hlt) its.toArray, ⟨⟨_, Heap.get?_push_size _ rfl, rfl, rfl⟩, pt.at fun o e => Heap.get?_push_of_some _ e⟩, truth_bools hb, fun h' tk hk => ?_⟩
  refine ⟨.bl _, H, I.kept fun b o eo => hk b o (fun hmem => ?_) (Heap.get?_push_of_some _ eo), ?_, q⟩
  · rcases List.mem_cons.mp hmem with e1 | hmem
    · exact absurd (e1 ▸ Heap.lt_size eo) (Nat.lt_irrefl _)
    · cases hmem
  · show Value.bool _ = Value.bool _
    rw [← L2.all_range, hb, List.size_toArray, List.length_map]
/-! ### sorted(a list of data) -/
def rSortedDat (K : PySem.W.Frag) : List V → Hp → VK → Prop := fun vs H Q => ∃ (a : Addr) (bs : List (V × PyData)), vs = [V.ref a] ∧ SqL K H a (bs.map (·.1)) ∧ (∀ b ∈ bs, Dp K H b.1 b.2) ∧ PySem.W.AllAlike (bs.map (·.2)) ∧ PySem.W.Sortable (bs.map (·.2)) ∧ (∀ b ∈ bs, b.2.depth ≤ 40) ∧
  ∀ p, H p = none → Q (.ref p) (upd H p (.lst ((bs.mergeSort (PySem.W.dataLe false (·.2))).map (·.1))))
theorem each_of {H : Hp} {s : Shared} {R : Value → V × PyData → Prop} : ∀ {bs : List (V × PyData)} {its : List Value}, Vals (bs.map (·.1)) its → (∀ b ∈ bs, ∀ u, RelV b.1 u → R u b) → PySem.W.EachIs R its bs
  | [], _, r, h => by
    cases r
    exact .nil
  | b :: bs, _, r, h => by
    cases r with
    | cons r1 r2 => exact .cons (h b List.mem_cons_self _ r1) (each_of (H := H) (s := s) r2 fun c hc => h c (List.mem_cons_of_mem _ hc))
theorem vals_each : ∀ {bs : List (V × PyData)} {its : List Value}, PySem.W.EachIs (fun u (b : V × PyData) => RelV b.1 u) its bs → Vals (bs.map (·.1)) its
  | [], _, .nil => .nil
  | b :: bs, _, .cons h t => .cons h (vals_each t)
theorem cr_sortedDat (hu : X.A.units + 64 < cLine) : CallR X (.builtin "sorted") (rSortedDat X.K) := by
  intro pins s σ H vs us Q I r h
  obtain ⟨a, bs, rfl, hs, hd, hal, hk, hdp, q⟩ := h
  obtain ⟨its, rv, hl, hz⟩ := I.list hs
  rw [Vals.ref1 r]
  have e1 : PySem.W.EachIs (fun u (b : V × PyData) => RelV b.1 u) its bs := each_of (H := H) (s := s) rv fun b _ u r => r
  have e2 : PySem.W.EachIs (fun u (b : V × PyData) => ∃ as, Reads s.heap u b.2 as) its bs := each_of (H := H) (s := s) rv fun b hb u r => Dp.reads I b.2 b.1 u (hd b hb) r
  have hzl : bs.length ≤ sizeLine := by rw [List.length_map] at hz; exact hz
  refine PySem.W.sorted_data (vs := its) (enc := fun b : V × PyData => b.2) hl.isList e1 e2 hal hk hzl (fun b hb => ?_) fun out ho eo => ?_
  · have := hdp b hb
    omega
  · obtain ⟨ep, he'⟩ := PyProof.Rows.sortedAll_at s.heap its out.toArray
    refine ⟨.ref _, upd H (s.heap.objs.size + 1) (.lst ((bs.mergeSort (PySem.W.dataLe false (·.2))).map (·.1))), I.laid (t' := s.toks) (fun _ _ => PyProof.Rows.sortedAll_old) (Nat.le_succ _) ⟨?_, out, ep, vals_each eo, by simpa using he'⟩, rfl, q _ (I.hok.fresh (Nat.le_succ _))⟩
    rw [List.length_map, List.length_mergeSort]
    exact hzl
/-! ### list(d.items()), d a dict whose keys are tuples -/
def PairAt (H H' : Hp) (e : List L2.Key × V) (z : Addr × Addr) : Prop := H' z.1 = some (.tup [.ref z.2, e.2]) ∧ H z.2 = some (.tup (e.1.map kV)) ∧ H z.1 = none
def rListIt : List V → Hp → VK → Prop := fun vs H Q => ∃ (p a : Addr) (kvs : List (List L2.Key × V)), vs = [.ref p] ∧ H p = some (itemsO p a) ∧ H a = some (.dT kvs) ∧
  ∀ (H' : Hp) (l : Addr) (zs : List (Addr × Addr)), (∀ b o, H b = some o → H' b = some o) → H l = none → H' l = some (.lst (zs.map fun z => V.ref z.1)) → zs.length = kvs.length → (∀ (j : Nat) z, zs[j]? = some z → ∃ e, kvs[j]? = some e ∧ PairAt H H' e z) → Q (.ref l) H'
theorem cr_listIt (hc : X.calm = true) : CallR X (.type "list") rListIt := by
  intro pins s σ H xs us Q I r h
  obtain ⟨p, a, kvs, rfl, hp, ha, q⟩ := h
  obtain rfl := Vals.ref1 r
  have view : s.heap.IsItemsView p a := (show ObjOk X.prog X.w H s.heap p (itemsO p a) from I.hok p _ hp).1
  obtain ⟨z, hd, xs', rel, o, es, ep, ho, hx, hdat, hes, his, hn⟩ := dt_of I.hok ha
  have l1 : kvs.length = xs'.length := Paired.length rel
  have l2 : es.size = xs'.length := size_of_entries hes
  have hh : X.A.handled = none := I.ok.hd hc
  refine PySem.W.dil_call (es := es) (ep := ep) hh view ⟨o, ho, hx, hdat⟩ (by omega) fun h' tk acc c as hk hS hl hG hacc => ?_
  have lak : as.length = kvs.length := by omega
  have nd : as.Nodup := List.Pairwise.imp (fun h => Nat.ne_of_lt h) hG.rise
  have pr : ∀ (j : Nat) (b : Addr), as[j]? = some b → ∃ (e : List L2.Key × V) (kq : Addr) (u : Value), kvs[j]? = some e ∧ H kq = some (.tup (e.1.map kV)) ∧ RelV e.2 u ∧ h'.get? b = some { cls := .type "tuple", data := .seq #[Value.ref kq, u] } := by
    intro j b hj
    obtain ⟨hjl, hg⟩ := hG.pairs j b hj
    have he : es[j]? = some es[j] := Array.getElem?_eq_getElem hjl
    generalize es[j] = en at he hg
    rw [entry_at hes j] at he
    cases hxj : xs'[j]? with
    | none =>
      rw [hxj] at he
      exact nomatch (show (none : Option DictEntry) = some en from he)
    | some x =>
      rw [hxj] at he
      have een : entryOfKey (tupleKind (mixKind X.prog X.w)) x = en := Option.some.inj he
      obtain ⟨e0, he0, r1, r2, r3⟩ := pget rel hxj
      refine ⟨e0, x.2.1, x.2.2, he0, r2, r3, ?_⟩
      rw [hg, ← een]
      all_goals rfl
  have I1 : Inv X pins σ H { s with heap := h', toks := tk } := I.kept (t' := tk) hk
  have hn0 : H s.heap.objs.size = none := I.hok.fresh (Nat.le_refl _)
  have hlen : (as.map V.ref).length ≤ sizeLine := by rw [List.length_map]; omega
  have I2 : Inv X pins σ (upd H s.heap.objs.size (.lst (as.map V.ref))) { s with heap := h', toks := tk } :=
    I1.take (h' := h') (t' := tk) (fun b ob _ e => e) (I.fpOk (Nat.le_refl _) hn0) ⟨hlen, as.map Value.ref, c, vals_refs as, by rw [← hacc, Array.toArray_toList]; exact hS⟩
  obtain ⟨H2, I3, g, qt⟩ := takeT (P := fun b vs => ∃ (j : Nat) (e : List L2.Key × V) (kq : Addr), as[j]? = some b ∧ kvs[j]? = some e ∧ vs = [.ref kq, e.2] ∧ H kq = some (.tup (e.1.map kV))) I as _ I2 nd fun b hb => by
    obtain ⟨j, hj⟩ := List.mem_iff_getElem?.mp hb
    obtain ⟨e, kq, u, he, hkq, ru, hg⟩ := pr j b hj
    have hlt : s.heap.objs.size < b := hG.above b hb
    refine ⟨Nat.le_of_lt hlt, ?_, [.ref kq, e.2], ⟨j, e, kq, hj, he, rfl, hkq⟩, fun H2 => ⟨by show 2 ≤ sizeLine; decide, [.ref kq, u], .cons rfl (.cons ru .nil), ⟨_, hg, rfl, _, rfl⟩⟩⟩
    rw [upd_ne (Nat.ne_of_gt hlt)]
    exact I.hok.fresh (Nat.le_of_lt hlt)
  -- the pairs' keys
  have hzs : ∃ zs : List (Addr × Addr), zs.map (·.1) = as ∧ ∀ (j : Nat) z, zs[j]? = some z → ∃ e, kvs[j]? = some e ∧ PairAt H H2 e z := by
    have key : ∀ (j : Nat) (b : Addr), as[j]? = some b → ∃ kq e, kvs[j]? = some e ∧ PairAt H H2 e (b, kq) := by
      intro j b hj
      obtain ⟨vs, ⟨j', e, kq, hj', he, rfl, hkq⟩, ht⟩ := qt b (List.mem_of_getElem? hj)
      have : j' = j := nd_ix nd hj' hj
      subst this
      exact ⟨kq, e, he, ht, hkq, I.hok.fresh (Nat.le_of_lt (hG.above b (List.mem_of_getElem? hj)))⟩
    clear qt I3 g
    have gen : ∀ (as : List Addr) (kvs : List (List L2.Key × V)), (∀ (j : Nat) (b : Addr), as[j]? = some b → ∃ kq e, kvs[j]? = some e ∧ PairAt H H2 e (b, kq)) → ∃ zs : List (Addr × Addr), zs.map (·.1) = as ∧ ∀ (j : Nat) z, zs[j]? = some z → ∃ e, kvs[j]? = some e ∧ PairAt H H2 e z := by
      intro as
      induction as with
      | nil => intro kvs _; exact ⟨[], rfl, fun j z h => by simp at h⟩
      | cons a as ih =>
        intro kvs hk
        obtain ⟨kq, e, he, hp⟩ := hk 0 a rfl
        obtain ⟨zs, h1, h2⟩ := ih (kvs.drop 1) fun j b hj => by
          obtain ⟨kq, e, he, hp⟩ := hk (j + 1) b (by simpa using hj)
          exact ⟨kq, e, by rw [List.getElem?_drop, Nat.add_comm]; exact he, hp⟩
        refine ⟨(a, kq) :: zs, by rw [List.map_cons, h1], fun j z hj => ?_⟩
        cases j with
        | zero =>
          simp at hj
          subst hj
          exact ⟨e, he, hp⟩
        | succ j =>
          obtain ⟨e', he', hp'⟩ := h2 j z (by simpa using hj)
          rw [List.getElem?_drop, Nat.add_comm] at he'
          exact ⟨e', he', hp'⟩
    exact gen as kvs key
  obtain ⟨zs, hz1, hz2⟩ := hzs
  have ezs : (zs.map fun z => V.ref z.1) = as.map V.ref := by
    rw [← hz1, List.map_map]; rfl
  refine ⟨.ref s.heap.objs.size, H2, I3, rfl, q H2 _ zs (fun b o e => g b o (by rw [upd_ne (ne_of_none e hn0)]; exact e)) hn0 (by rw [ezs]; exact g _ _ upd_same) ?_ hz2⟩
  rw [← lak, ← hz1, List.length_map]
/-! ### tuple(l), t.index(x), the tuple's object known -/
def rTupF (K : PySem.W.Frag) : List V → Hp → VK → Prop := fun vs H Q => ∃ (p : Addr) (xs : List V), vs = [.ref p] ∧ SqL K H p xs ∧ ∀ (l : Addr) (o : Obj), H l = none → o.dict = none → Q (.ref l) (upd H l (.frz o (.tup xs)))
theorem cr_tupF : CallR X (.type "tuple") (rTupF X.K) := by
  intro pins s σ H vs us Q I r h
  obtain ⟨p, xs, rfl, hs, q⟩ := h
  rw [Vals.ref1 r]
  obtain ⟨its, rv, pl, hz⟩ := I.list hs
  refine call_tuple_list pl.isList (fun h' hk => ?_) (by rw [List.size_toArray, ← rv.length]; exact hz)
  have I1 : Inv X pins σ H { s with heap := h' } := I.kept (t' := s.toks) hk
  have I2 : Inv X pins σ (upd H h'.objs.size (.frz { cls := .type "tuple", data := .seq its.toArray } (.tup xs))) { s with heap := h'.push { cls := .type "tuple", data := .seq its.toArray } } :=
    I1.laid (t' := s.toks) (fun b o e => Heap.get?_push_of_some _ e) (Nat.le_refl _) (show ObjOk X.prog X.w _ _ _ (.frz _ (.tup xs)) from ⟨Heap.get?_push_size _ rfl, hz, its, rv, IsTup.new _ _⟩)
  exact ⟨.ref h'.objs.size, _, I2, rfl, q _ _ (I1.hok.fresh (Nat.le_refl _)) rfl⟩
def tTupIx (K : PySem.W.Frag) (to ta : TE) : TE := fun σ H Q => to σ H fun x H1 => (∃ a o xs, x = .ref a ∧ H1 a = some (.frz o (.tup xs)) ∧ o.dict = none) ∧ ta σ H1 fun y H2 => ∃ (a : Addr) (o : Obj) (xs : List V) (d : PyData) (ds : List PyData) (j : Nat) (z : PyData), x = V.ref a ∧ H2 a = some (.frz o (.tup xs)) ∧ DpAll K H2 xs ds ∧ Dp K H2 y d ∧
  SeqAt.shaped (.tuple ds) = true ∧ SeqAt.shaped d = true ∧ ds[j]? = some z ∧ PyData.eqv z d = true ∧ (∀ (m : Nat) (z' : PyData), m < j → ds[m]? = some z' → PyData.eqv z' d = false) ∧ Q (.int (j : Nat)) H2
theorem pe_tupIx {o e : Expr} {to ta : TE} {apos cpos : Pos} (hu : X.A.units + 65 < cLine) (ho : PE X o to) (ha : PE X e ta) (hbase : attributeBase o "index" X.env (eval o X.env) = eval o X.env := by rfl)
    (hfew : ((backTo cpos (starEach [e] X.env)).all (fun x => !x.1) && (backToKw cpos (keywordEach [] X.env)).all (fun x => x.1.isSome)
      && decide ([e].length + ([] : List Keyword).length + (if ([] : List Keyword).isEmpty then 0 else 1) < 30)) = true := by rfl)
    (hline : (apos.endLine == cpos.line) = true := by rfl) (hs : starEach [e] X.env = (false, eval e X.env) :: starEach [] X.env := by rfl) :
    PE X (.Call (.Attribute o "index" apos) [e] [] cpos) (tTupIx X.K to ta) := by
  refine ⟨fun pins s σ H Q I h => ?_⟩
  refine wpAny_Call_method_late hbase hfew hline rfl (thn (ho.run pins s σ H _ I h) fun v s1 ⟨x, H1, I1, r1, hx, q1⟩ => ?_)
  obtain ⟨a, ob, xs, rfl, hq, hod⟩ := hx
  cases r1
  obtain ⟨hat, hz, its, rv, hT⟩ := (show ObjOk X.prog X.w H1 s1.heap a (.frz ob (.tup xs)) from I1.hok a _ hq)
  obtain ⟨ob', hat', hcl, n, hdt⟩ := hT
  rw [hat] at hat'
  cases hat'
  refine ⟨"tuple", "tuple.index", PySem.F.plainAttrs_tuple, PySem.F.slot_tuple_index, PySem.F.type_tuple_index, ⟨ob, hat, hcl⟩, fun b e => by cases e; exact ⟨ob, hat, hod⟩, ?_⟩
  have hA := (pa_cons ha pa_nil hs).run cpos pins s1 σ H1 (fun vs H2 => match vs with
    | [y] => ∃ (a' : Addr) (o : Obj) (xs : List V) (d : PyData) (ds : List PyData) (j : Nat) (z : PyData), V.ref a = V.ref a' ∧ H2 a' = some (.frz o (.tup xs)) ∧ DpAll X.K H2 xs ds ∧ Dp X.K H2 y d ∧
      SeqAt.shaped (.tuple ds) = true ∧ SeqAt.shaped d = true ∧ ds[j]? = some z ∧ PyData.eqv z d = true ∧ (∀ (m : Nat) (z' : PyData), m < j → ds[m]? = some z' → PyData.eqv z' d = false) ∧ Q (.int (j : Nat)) H2
    | _ => False) I1 q1
  rw [hs] at hA ⊢
  refine Calls.callWith_builtin rfl (Calls.evalArgs_plain ?_)
  refine thn hA fun us s2 ⟨vs, H2, I2, r2, q2⟩ => ?_
  obtain ⟨y, rfl⟩ : ∃ y, vs = [y] := by
    match vs, q2 with
    | [y], _ => exact ⟨y, rfl⟩
  obtain ⟨a', o2, xs2, d, ds, j, z, ea, hq2, hda, hdy, sl, sd, hzj, hze, hno, q⟩ := q2
  cases ea
  obtain ⟨u, rfl, ru⟩ := r2.one
  obtain ⟨hat2, hz2, its2, rv2, hT2⟩ := (show ObjOk X.prog X.w H2 s2.heap a (.frz o2 (.tup xs2)) from I2.hok a _ hq2)
  obtain ⟨⟨cls, dd, data, sls⟩, ho, hc, n2, hd2⟩ := hT2
  simp only at hc hd2
  subst hc hd2
  obtain ⟨bs, rr1⟩ := Dp.reads I2 d y u hdy ru
  obtain ⟨as, h4⟩ := Dp.readsAll I2 ds _ its2 hda rv2
  have hxs : PyData.canLayAll0 ds = true := SeqAt.canLay_of_shaped (d := .tuple ds) sl
  have hroom : X.A.units + 1 + min (PyData.depthAll ds) d.depth < cLine := room_in_shaped sd hu
  have hn : its2.length = ds.length := SeqAt.ReadsAll.length ds its2 as h4
  have hmap : its2.map (SeqAt.readOf s2.heap) = ds := SeqAt.readsAll_map ds its2 as hxs h4
  obtain ⟨hjd, _⟩ := List.getElem?_eq_some_iff.mp hzj
  have hjl : j < its2.length := by omega
  have hj : j < its2.toArray.size := by simpa using hjl
  have at_ : ∀ (m : Nat) (hm : m < its2.toArray.size) (z' : PyData), ds[m]? = some z' → SeqAt.readOf s2.heap its2.toArray[m] = z' := by
    intro m hm z' hz'
    have hml : m < its2.length := by simpa using hm
    rw [← hmap, List.getElem?_map, List.getElem?_eq_getElem hml] at hz'
    have e1 : SeqAt.readOf s2.heap its2[m] = z' := Option.some.inj (show some (SeqAt.readOf s2.heap its2[m]) = some z' from hz')
    simpa using e1
  refine call_meets PySem.F.slot_tuple_index ⟨_, ho, rfl⟩ PySem.F.entry_tuple_index (PySem.F.args_tuple_index_2 _ _)
    (TI.tuple_indexAt a its2.toArray n2 dd sls u (fun u => PyData.eqv (SeqAt.readOf s2.heap u) d) j hj ?_ ?_) ⟨ho, SeqAt.items_eqAt (vs := its2.toArray) (show ReadsAll s2.heap its2.toArray.toList ds as from h4) rr1 hxs (SeqAt.canLay_of_shaped sd) hroom, ?_⟩
  · show PyData.eqv (SeqAt.readOf s2.heap its2.toArray[j]) d = true
    rw [at_ j hj z hzj]
    exact hze
  · intro m hm hmj
    have hmd : m < ds.length := by omega
    have hz' : ds[m]? = some ds[m] := List.getElem?_eq_getElem hmd
    show PyData.eqv (SeqAt.readOf s2.heap its2.toArray[m]) d = false
    rw [at_ m hm _ hz']
    exact hno m _ hmj hz'
  · exact ⟨.int (j : Nat), H2, I2.tok _, ⟨_, rfl⟩, q⟩
end
end DL

set_option Elab.async false
set_option linter.all false
set_option maxRecDepth 100000
set_option maxHeartbeats 0
namespace DL
open PySem L2 L2.DX PyProof.Rows PySem.Spec
def PAllT : List D → Sto → D → Prop := fun as st d => ∃ (bs : List Bool), as = [.tup (bs.map D.bl)] ∧ d = .bl (bs.all id)
def SortOk (ds : List D) : Prop := (∀ d ∈ ds, okI 7 d = true) ∧ PySem.W.AllAlike (ds.map (toPy 7)) ∧ PySem.W.Sortable (ds.map (toPy 7))
def sortD (ds : List D) : List D := ds.mergeSort (PySem.W.dataLe false (toPy 7))
def PSorted : List D → Sto → D → Prop := fun as st d => ∃ x ds, as = [x] ∧ LstOf st x ds ∧ SortOk ds ∧ d = .lst (sortD ds)
def PTupF : List D → Sto → D → Prop := fun as st d => ∃ x ds, as = [x] ∧ LstOf st x ds ∧ d = .ftp ds
section
variable {K : PySem.W.Frag} {ca : Cl → Addr}
theorem sc_allT : SC K ca (rAllT K) PAllT := fun B st H xs as d Q w r p k => by
  obtain ⟨bs, rfl, rfl⟩ := p
  obtain ⟨v, rfl, rv⟩ := rp1 r
  obtain ⟨a, ys, rfl, hq, ry⟩ := tup_rd w rv
  rw [rpa_bls ry] at hq
  exact ⟨a, bs, rfl, SqT.of hq, k B H _ (Go.refl w.ex) w rfl⟩
theorem sc_tupF : SC K ca (rTupF K) PTupF := fun B st H xs as d Q w r p k => by
  obtain ⟨x, ds, rfl, hl, rfl⟩ := p
  obtain ⟨v, rfl, rv⟩ := rp1 r
  obtain ⟨a, ys, rfl, hq, ry⟩ := hl.rd w rv
  refine ⟨a, ys, rfl, SqL.of hq, fun l o hl ho => ?_⟩
  obtain ⟨w2, g2⟩ := w.new (o := .frz o (.tup ys)) hl
  exact k _ _ _ g2 w2 ⟨l, o, ys, rfl, upd_same, ho, RpA.mono g2.ex _ _ ry⟩
theorem rpa_zip {B : Hp} : ∀ {ds : List D} {xs : List V}, RpA K ca B ds xs → ∃ cs : List (V × D), cs.map (·.1) = xs ∧ cs.map (·.2) = ds ∧ ∀ c ∈ cs, Rp K ca B c.2 c.1
  | [], xs, h => by
    cases (show xs = [] from h)
    exact ⟨[], rfl, rfl, fun c m => nomatch m⟩
  | d :: ds, xs, h => by
    obtain ⟨x, t, rfl, r1, r2⟩ := h
    obtain ⟨cs, h1, h2, h3⟩ := rpa_zip r2
    refine ⟨(x, d) :: cs, by rw [List.map_cons, h1], by rw [List.map_cons, h2], fun c m => ?_⟩
    rcases List.mem_cons.mp m with rfl | m
    · exact r1
    · exact h3 c m
theorem zip_rpa {B : Hp} : ∀ {cs : List (V × D)}, (∀ c ∈ cs, Rp K ca B c.2 c.1) → RpA K ca B (cs.map (·.2)) (cs.map (·.1))
  | [], _ => rfl
  | c :: cs, h => RpA.cons (h c List.mem_cons_self) (zip_rpa fun e m => h e (List.mem_cons_of_mem _ m))
theorem sc_sorted : SC K ca (rSortedDat K) PSorted := fun B st H xs as d Q w r p k => by
  obtain ⟨x, ds, rfl, hl, ⟨ok, hal, hso⟩, rfl⟩ := p
  obtain ⟨v, rfl, rv⟩ := rp1 r
  obtain ⟨a, ys, rfl, hq, ry⟩ := hl.rd w rv
  obtain ⟨cs, rfl, rfl, hc⟩ := rpa_zip ry
  have e1 : (cs.map fun c => (c.1, toPy 7 c.2)).map (·.1) = cs.map (·.1) := by rw [List.map_map]; rfl
  have e2 : (cs.map fun c => (c.1, toPy 7 c.2)).map (·.2) = (cs.map (·.2)).map (toPy 7) := by rw [List.map_map, List.map_map]; rfl
  refine ⟨a, cs.map fun c => (c.1, toPy 7 c.2), rfl, by rw [e1]; exact SqL.of hq, fun b hb => ?_, by rw [e2]; exact hal, by rw [e2]; exact hso, fun b hb => ?_, fun p hp => ?_⟩
  · obtain ⟨c, hcm, rfl⟩ := List.mem_map.mp hb
    exact dp_of w.ex 7 c.2 c.1 (ok _ (List.mem_map.mpr ⟨c, hcm, rfl⟩)) (hc c hcm)
  · obtain ⟨c, hcm, rfl⟩ := List.mem_map.mp hb
    have := (lay_of 7 c.2 (ok _ (List.mem_map.mpr ⟨c, hcm, rfl⟩))).2
    show (toPy 7 c.2).depth ≤ 40
    omega
  · have es : (((cs.map fun c => (c.1, toPy 7 c.2)).mergeSort (PySem.W.dataLe false (·.2))).map (·.1)) = (cs.mergeSort (PySem.W.dataLe false fun c => toPy 7 c.2)).map (·.1) := by
      rw [← List.map_mergeSort (r := PySem.W.dataLe false fun c : V × D => toPy 7 c.2) (s := PySem.W.dataLe false (·.2)) (f := fun c : V × D => (c.1, toPy 7 c.2)) (fun a _ b _ => rfl), List.map_map]
      rfl
    have ed : (cs.mergeSort (PySem.W.dataLe false fun c => toPy 7 c.2)).map (·.2) = sortD (cs.map (·.2)) :=
      List.map_mergeSort (r := PySem.W.dataLe false fun c : V × D => toPy 7 c.2) (s := PySem.W.dataLe false (toPy 7)) (f := fun c : V × D => c.2) (fun a _ b _ => rfl)
    obtain ⟨w2, g2⟩ := w.new (o := .lst (((cs.map fun c => (c.1, toPy 7 c.2)).mergeSort (PySem.W.dataLe false (·.2))).map (·.1))) hp
    refine k _ _ _ g2 w2 ⟨p, _, rfl, upd_same, RpA.mono g2.ex _ _ ?_⟩
    rw [es, ← ed]
    refine zip_rpa fun c hcm => ?_
    exact hc c ((List.mergeSort_perm cs _).mem_iff.mp hcm)
end
/-! ### list(d.items()) -/
def wItems (wd : WE) : WE := fun e st Φ => wd e st fun x st1 => ∃ (j : Nat) (a : Addr) (kvs : List (List Key × D)), x = .own a ∧ st1[j]? = some (a, .dt kvs) ∧ Φ (.lst (kvs.map fun kv => .tup [.tup (kv.1.map kD), kv.2])) st1
section
variable {K : PySem.W.Frag} {ca : Cl → Addr} {ta tb : TE} {wa wb : WE}
theorem kds_to {B : Hp} : ∀ ks : List Key, RpA K ca B (ks.map kD) (ks.map kV)
  | [] => rfl
  | .inl k :: ks => RpA.cons rfl (kds_to ks)
  | .inr k :: ks => RpA.cons rfl (kds_to ks)
theorem le_items (h1 : LE K ca ta wa) : LE K ca (tCB rListIt (tCons (tBM0 K "dict" rItemsT ta) tNil)) (wItems wa) := fun σ e B st H wd er Φ Q k h =>
  h1 σ e B st H wd er _ _ (fun B1 st1 H1 v x g1 w1 r1 h1' => by
    obtain ⟨j, a, kvs, rfl, hj, hΦ⟩ := h1'
    obtain ⟨ob, ho, ws, rfl, ek, rr⟩ := w1.at' hj
    cases (show v = .ref a from r1)
    refine ⟨.inr (.inr (.inl ⟨rfl, .inr ⟨ws, ho⟩⟩)), a, ws, rfl, rfl, ho, fun p hp => ?_⟩
    have bp : B1 p = none := by
      cases e : B1 p with
      | none => rfl
      | some u => rw [w1.ex p u e] at hp; cases hp
    have sp : ∀ q ∈ st1, q.1 ≠ p := fun q m e => by
      obtain ⟨u, hu, _⟩ := w1.at_ q m
      rw [e, hp] at hu; cases hu
    have np : p ≠ a := fun e => by rw [e, ho] at hp; cases hp
    refine ⟨p, a, ws, rfl, upd_same, by rw [upd_ne np.symm]; exact ho, fun H' l zs hx hl hlst hlen hz => ?_⟩
    have xH : Ex H1 H' := fun b o e => hx b o (by rw [upd_ne (ne_of_none e hp)]; exact e)
    have hl1 : H1 l = none := by
      by_cases e : l = p
      · rw [e]; exact hp
      · rw [upd_ne e] at hl; exact hl
    -- the new base
    let NB : Hp := fun b => if b = l ∨ (∃ z ∈ zs, b = z.1 ∨ b = z.2) then H' b else B1 b
    have eb : Ex B1 NB := fun b o e => by
      show (if _ then H' b else B1 b) = some o
      split
      · exact xH b o (w1.ex b o e)
      · exact e
    have key2 : ∀ z ∈ zs, ∃ ks : List Key, H1 z.2 = some (.tup (ks.map kV)) ∧ H1 z.1 = none := fun z hzm => by
      obtain ⟨i, hi⟩ := List.mem_iff_getElem?.mp hzm
      obtain ⟨e, he, h1, h2, h3⟩ := hz i z hi
      refine ⟨e.1, ?_, ?_⟩
      · by_cases ep : z.2 = p
        · rw [ep, upd_same] at h2
          cases h2
        · rw [upd_ne ep] at h2; exact h2
      · by_cases ep : z.1 = p
        · rw [ep]; exact hp
        · rw [upd_ne ep] at h3; exact h3
    have nst : ∀ q ∈ st1, NB q.1 = none := fun q m => by
      show (if _ then H' q.1 else B1 q.1) = none
      obtain ⟨u, hu, ru⟩ := w1.at_ q m
      split
      · rename_i hc
        rcases hc with e | ⟨z, hzm, e | e⟩
        · rw [e, hl1] at hu; cases hu
        · obtain ⟨ks, _, h⟩ := key2 z hzm
          rw [e, h] at hu; cases hu
        · obtain ⟨ks, h, _⟩ := key2 z hzm
          rw [e, h] at hu
          cases hu
          exact absurd rfl (ru.noTup _)
      · exact w1.fr q m
    have w2 : Wd K ca NB st1 H' := ⟨fun b o e => by
        have e : (if _ then H' b else B1 b) = some o := e
        split at e
        · exact e
        · exact xH b o (w1.ex b o e), w1.nd, nst, fun q m => by
        obtain ⟨u, hu, ru⟩ := w1.at_ q m
        exact ⟨u, xH _ _ hu, ru.mono eb⟩⟩
    have g2 : Go B1 st1 H1 NB st1 H' := ⟨eb, fun b o e _ => xH b o e, fun b m => .inl m, fun b o e => by
      have e : (if _ then H' b else B1 b) = some o := e
      split at e
      · rename_i hc
        rcases hc with eb | ⟨z, hzm, eb | eb⟩
        · exact .inr (.inl (eb ▸ hl1))
        · obtain ⟨ks, _, h⟩ := key2 z hzm
          exact .inr (.inl (eb ▸ h))
        · obtain ⟨ks, h, _⟩ := key2 z hzm
          exact .inr (.inr (.inr ⟨_, eb ▸ h⟩))
      · exact .inl e⟩
    refine k NB st1 H' _ (.lst _) (g1.trans g2) w2 ⟨l, zs.map fun z => V.ref z.1, rfl, ?_, ?_⟩ hΦ
    · show (if _ then H' l else B1 l) = _
      rw [if_pos (.inl rfl)]
      exact hlst
    · have inNB : ∀ z ∈ zs, NB z.1 = H' z.1 ∧ NB z.2 = H' z.2 := fun z hzm => ⟨if_pos (.inr ⟨z, hzm, .inl rfl⟩), if_pos (.inr ⟨z, hzm, .inr rfl⟩)⟩
      have hkey : ∀ z ∈ zs, ∀ ks : List Key, upd H1 p (itemsO p a) z.2 = some (.tup (ks.map kV)) → H' z.2 = some (.tup (ks.map kV)) := fun z _ ks h => hx _ _ h
      have gen : ∀ (kvs : List (List Key × D)) (ws : List (List Key × V)) (zs : List (Addr × Addr)), ws.map (·.1) = kvs.map (·.1) → RpA K ca B1 (kvs.map (·.2)) (ws.map (·.2)) → zs.length = ws.length → (∀ z ∈ zs, NB z.1 = H' z.1 ∧ NB z.2 = H' z.2) →
          (∀ (j : Nat) z, zs[j]? = some z → ∃ e, ws[j]? = some e ∧ PairAt (upd H1 p (itemsO p a)) H' e z) → RpA K ca NB (kvs.map fun kv => .tup [.tup (kv.1.map kD), kv.2]) (zs.map fun z => V.ref z.1) := by
        intro kvs
        induction kvs with
        | nil =>
          intro ws zs e r hl hn hz
          have : ws = [] := by simpa using e
          subst this
          have : zs = [] := List.length_eq_zero_iff.mp hl
          subst this
          exact rfl
        | cons kv kvs ih =>
          intro ws zs e r hl hn hz
          cases ws with
          | nil => cases e
          | cons w ws =>
            cases zs with
            | nil => cases hl
            | cons z zs =>
              obtain ⟨k1, d1⟩ := kv
              obtain ⟨k2, v2⟩ := w
              injection e with e1 e2
              have e1 : k2 = k1 := e1
              subst e1
              obtain ⟨x, t, ex, r1, r2⟩ := r
              injection ex with ex1 ex2
              subst ex1 ex2
              obtain ⟨e', he', h1, h2, h3⟩ := hz 0 z rfl
              cases he'
              obtain ⟨n1, n2⟩ := hn z List.mem_cons_self
              refine RpA.cons ⟨z.1, [.ref z.2, v2], rfl, by rw [n1]; exact h1, RpA.cons ⟨z.2, _, rfl, by rw [n2]; exact hx _ _ h2, kds_to k2⟩ (RpA.cons (Rp.mono eb d1 v2 r1) rfl)⟩ ?_
              exact ih ws zs e2 r2 (by simpa using hl) (fun y m => hn y (List.mem_cons_of_mem _ m)) fun j y hj => hz (j + 1) y (by simpa using hj)
      exact gen kvs ws zs ek rr (by rw [hlen]) inNB hz) h
/-- t.index(x), t a plain tuple -/
def wTupIx (wa wb : WE) : WE := fun e st Φ => wa e st fun x st1 => ∃ ds, x = .ftp ds ∧ wb e st1 fun y st2 => okI 7 y = true ∧ (∀ d ∈ ds, okI 7 d = true) ∧ ∃ j : Nat, ds[j]? = some y ∧ (∀ m, m < j → ds[m]? ≠ some y) ∧ Φ (.int (j : Nat)) st2
theorem le_tupIx (h1 : LE K ca ta wa) (h2 : LE K ca tb wb) : LE K ca (tTupIx K ta tb) (wTupIx wa wb) := fun σ e B st H wd er Φ Q k h =>
  h1 σ e B st H wd er _ _ (fun B1 st1 H1 v x g1 w1 r1 h1' => by
    obtain ⟨ds, rfl, hr⟩ := h1'
    obtain ⟨a, o, xs, rfl, hq, od, rr⟩ := r1
    refine ⟨⟨a, o, xs, rfl, w1.ex _ _ hq, od⟩, h2 σ e B1 st1 H1 w1 (er.mono g1.ex) _ _ (fun B2 st2 H2 u y g2 w2 r2 h2' => ?_) hr⟩
    obtain ⟨oy, ok, j, hj, hno, hΦ⟩ := h2'
    have oj := ok y (List.mem_of_getElem? hj)
    refine ⟨a, o, xs, toPy 7 y, ds.map (toPy 7), j, toPy 7 y, rfl, w2.ex _ _ (g2.ex _ _ hq), dp_all (fun d v => dp_of w2.ex 7 d v) ds xs (List.all_eq_true.mpr ok) (RpA.mono g2.ex _ _ rr), dp_of w2.ex 7 y u oy r2, shaped_of (n := 8) (d := .tup ds) (by decide) (List.all_eq_true.mpr ok), shaped_of (by decide) oy, ?_, (eqv_of 7 y y oy oy).mpr rfl, fun m z' hm hz => ?_, k B2 st2 H2 _ (.int (j : Nat)) (g1.trans g2) w2 rfl hΦ⟩
    · rw [List.getElem?_map, hj]; rfl
    · rw [List.getElem?_map] at hz
      cases e : ds[m]? with
      | none => rw [e] at hz; cases hz
      | some d =>
        rw [e] at hz
        have : toPy 7 d = z' := Option.some.inj hz
        subst this
        cases hb : PyData.eqv (toPy 7 d) (toPy 7 y) with
        | false => rfl
        | true =>
          have := (eqv_of 7 d y (ok d (List.mem_of_getElem? e)) oy).mp hb
          subst this
          exact absurd e (hno m hm)) h
/-- x not in a fixed tuple of texts -/
def wNotIn2 (a b : Str) (wa : WE) : WE := fun e st Φ => wa e st fun x st1 => ∃ s, x = .str s ∧ Φ (.bl (!(decide (s = a) || decide (s = b)))) st1
theorem le_notIn2 {p : Addr} {a b : Str} (hp : ∀ H, SqT K H p [.str a, .str b]) (h1 : LE K ca ta wa) : LE K ca (tOp (rIn K true) ta (tC (.ref p))) (wNotIn2 a b wa) := fun σ e B st H wd er Φ Q k h =>
  h1 σ e B st H wd er _ _ (fun B1 st1 H1 v x g1 w1 r1 h1' => by
    obtain ⟨s, rfl, hΦ⟩ := h1'
    cases (show v = .str s from r1)
    refine ⟨p, _, rfl, .inr (hp H1), rfl, by simp [flatV], k B1 st1 H1 _ _ g1 w1 ?_ hΦ⟩
    show V.bl _ = V.bl _
    congr 1
    simp only [inV, List.any_cons, List.any_nil, Bool.or_false, eqV]
    by_cases h1 : s = a
    · subst h1; simp
    · by_cases h2 : s = b
      · subst h2; simp
      · have h1' : ¬ a = s := fun e => h1 e.symm
        have h2' : ¬ b = s := fun e => h2 e.symm
        simp [h1, h2, h1', h2']) h
end
end DL

set_option Elab.async false
set_option linter.all false
set_option maxRecDepth 100000
set_option maxHeartbeats 0
namespace DL
open PySem L2 L2.DX PyProof.Rows PySem.Spec
section
variable {X : Cx} {ca : Cl → Addr} {ta tb tc te : TE} {wa wb wc we : WE} {tl th : TO} {wl wh : WO} {t : TA} {w : WA} {e a o i f value : Expr} {es : List Expr} {lo hi : Option Expr} {pos p p2 apos cpos pos' p1 p3 q1 q2 : Pos} {kk : Nat} {x : Str}
theorem do_none : DO X ca none tNoPart wONone := ⟨po_none, lo_none⟩
theorem do_some (h : DE X ca e ta wa) : DO X ca (some e) (tPart ta) (wOSome wa) := ⟨po_some h.pe, lo_some h.le⟩
theorem de_sl (h1 : DE X ca e ta wa) (h2 : DO X ca lo tl wl) (h3 : DO X ca hi th wh) : DE X ca (.Subscript e (.Slice lo hi none p2) pos) (tSl (rSl X.K) ta tl th) (wSl wa wl wh) := ⟨pe_slice (SlR.or sl_list sl_tupA) h1.pe h2.po h3.po, le_sl h1.le h2.le h3.le⟩
theorem de_rev (h1 : DE X ca e ta wa) : DE X ca (.Subscript e (.Slice none none (some (.UnaryOp .USub (.Constant (.int 1) kk p1) p2)) p3) pos) (tRevL X.K ta) (wRev wa) := ⟨pe_revL h1.pe, le_rev h1.le⟩
theorem de_app (h1 : DE X ca o ta wa) (h2 : DE X ca e tb wb) (hbase : attributeBase o "append" X.env (eval o X.env) = eval o X.env := by rfl)
    (hfew : ((backTo cpos (starEach [e] X.env)).all (fun x => !x.1) && (backToKw cpos (keywordEach [] X.env)).all (fun x => x.1.isSome)
      && decide ([e].length + ([] : List Keyword).length + (if ([] : List Keyword).isEmpty then 0 else 1) < 30)) = true := by rfl)
    (hline : (apos.endLine == cpos.line) = true := by rfl) (hs : starEach [e] X.env = (false, eval e X.env) :: starEach [] X.env := by rfl) :
    DE X ca (.Call (.Attribute o "append" apos) [e] [] cpos) (tBM X.K "list" rAppend ta (tCons tb tNil)) (wApp wa (wCons wb wNil)) :=
  ⟨pe_bm PySem.F.plainAttrs_list PySem.F.slot_list_append PySem.F.type_list_append mt_append h1.pe (pa_cons h2.pe pa_nil hs) hbase hfew hline hs rfl, le_app h1.le (la_cons h2.le la_nil)⟩
theorem de_pop (h1 : DE X ca o ta wa) (h2 : DE X ca e tb wb) (hbase : attributeBase o "pop" X.env (eval o X.env) = eval o X.env := by rfl)
    (hfew : ((backTo cpos (starEach [e] X.env)).all (fun x => !x.1) && (backToKw cpos (keywordEach [] X.env)).all (fun x => x.1.isSome)
      && decide ([e].length + ([] : List Keyword).length + (if ([] : List Keyword).isEmpty then 0 else 1) < 30)) = true := by rfl)
    (hline : (apos.endLine == cpos.line) = true := by rfl) (hs : starEach [e] X.env = (false, eval e X.env) :: starEach [] X.env := by rfl) :
    DE X ca (.Call (.Attribute o "pop" apos) [e] [] cpos) (tBM X.K "list" rPopAt ta (tCons tb tNil)) (wPop wa (wCons wb wNil)) :=
  ⟨pe_bm PySem.F.plainAttrs_list PySem.F.slot_list_pop PySem.F.type_list_pop mt_popAt h1.pe (pa_cons h2.pe pa_nil hs) hbase hfew hline hs rfl, le_pop h1.le (la_cons h2.le la_nil)⟩
theorem de_dget (hu : X.A.units + 1 < cLine) (h1 : DE X ca o ta wa) (h2 : DE X ca i tb wb) (hs : NoSl i := by exact fun _ _ => rfl) : DE X ca (.Subscript o i pos) (tDGet ta tb) (wDGet wa wb) := ⟨pe_dget hu h1.pe h2.pe hs, le_dget h1.le h2.le⟩
theorem de_dget2 (hu : X.A.units + 1 < cLine) (h1 : DE X ca o ta wa) (h2 : DE X ca e tb wb) (h3 : DE X ca f tc wc) (m : M2 X o "get" apos e f cpos := by exact ⟨rfl, rfl, rfl, rfl⟩) : DE X ca (.Call (.Attribute o "get" apos) [e, f] [] cpos) (tDGet2 ta tb tc) (wDGet2 wa wb wc) := ⟨pe_dget2 hu h1.pe h2.pe h3.pe m, le_dget2 h1.le h2.le h3.le⟩
theorem de_din (hu : X.A.units + 1 < cLine) (h1 : DE X ca a ta wa) (h2 : DE X ca o tb wb) (hm : behindInMarks .In o = false := by first | exact nomark _ | rfl) : DE X ca (.Compare a [.In] [o] pos) (tDIn ta tb) (wDIn false wa wb) := ⟨pe_cmp (pc_din hu h1.pe h2.pe) hm, le_din h1.le h2.le⟩
theorem de_dnotin (hu : X.A.units + 1 < cLine) (h1 : DE X ca a ta wa) (h2 : DE X ca o tb wb) (hm : behindInMarks .NotIn o = false := by first | exact nomark _ | rfl) : DE X ca (.Compare a [.NotIn] [o] pos) (tDNotIn ta tb) (wDIn true wa wb) := ⟨pe_cmp (pc_dnotin hu h1.pe h2.pe) hm, le_dnotin h1.le h2.le⟩
theorem dt_din (hu : X.A.units + 1 < cLine) (h1 : DE X ca a ta wa) (h2 : DE X ca o tb wb) (hm : behindInMarks .In o = false := by first | exact nomark _ | rfl) : DT X ca (.Compare a [.In] [o] pos) (tB (tDIn ta tb)) (wTst (wDIn false wa wb)) := ⟨pt_cmp (pc_din hu h1.pe h2.pe) hm, lt_tB (le_din h1.le h2.le)⟩
theorem dt_dnotin (hu : X.A.units + 1 < cLine) (h1 : DE X ca a ta wa) (h2 : DE X ca o tb wb) (hm : behindInMarks .NotIn o = false := by first | exact nomark _ | rfl) : DT X ca (.Compare a [.NotIn] [o] pos) (tB (tDNotIn ta tb)) (wTst (wDIn true wa wb)) := ⟨pt_cmp (pc_dnotin hu h1.pe h2.pe) hm, lt_tB (le_dnotin h1.le h2.le)⟩
theorem ds_dput (hu : X.A.units + 1 < cLine) (h1 : DE X ca o ta wa) (h2 : DE X ca i tb wb) (h3 : DE X ca value tc wc) (hs : swapsWith value (some (.Subscript o i pos')) pos.line X.env = pure false := by rfl) : DS X ca (.Assign [.Subscript o i pos'] value pos) (sDPut ta tb tc) (wDPut wa wb wc) := ⟨ps_dput hu h1.pe h2.pe h3.pe hs, ls_dput h1.le h2.le h3.le⟩
theorem de_dnewK : DE X ca (.Dict [] [] pos) tDNewK wDNewK := ⟨pe_dnewK, le_dnewK⟩
theorem de_dnewT : DE X ca (.Dict [] [] pos) tDNewT wDNewT := ⟨pe_dnewT, le_dnewT⟩
theorem de_tupIx (hu : X.A.units + 65 < cLine) (h1 : DE X ca o ta wa) (h2 : DE X ca e tb wb) (hbase : attributeBase o "index" X.env (eval o X.env) = eval o X.env := by rfl)
    (hfew : ((backTo cpos (starEach [e] X.env)).all (fun x => !x.1) && (backToKw cpos (keywordEach [] X.env)).all (fun x => x.1.isSome)
      && decide ([e].length + ([] : List Keyword).length + (if ([] : List Keyword).isEmpty then 0 else 1) < 30)) = true := by rfl)
    (hline : (apos.endLine == cpos.line) = true := by rfl) (hs : starEach [e] X.env = (false, eval e X.env) :: starEach [] X.env := by rfl) :
    DE X ca (.Call (.Attribute o "index" apos) [e] [] cpos) (tTupIx X.K ta tb) (wTupIx wa wb) := ⟨pe_tupIx hu h1.pe h2.pe hbase hfew hline hs, le_tupIx h1.le h2.le⟩
/-- list(d.items()) -/
theorem de_items (hm : X.mg "list" = none) (h1 : DE X ca o ta wa) (hc : X.calm = true := by rfl) (hg : Gl X "list" := by rfl) (hbase : attributeBase o "items" X.env (eval o X.env) = eval o X.env := by rfl) (hline : (apos.endLine == cpos.line) = true := by rfl)
    (he : starEach [.Call (.Attribute o "items" apos) [] [] cpos] X.env = (false, eval (.Call (.Attribute o "items" apos) [] [] cpos) X.env) :: starEach [] X.env := by rfl) :
    DE X ca (.Call (.Name "list" p) [.Call (.Attribute o "items" apos) [] [] cpos] [] pos) (tCB rListIt (tCons (tBM0 X.K "dict" rItemsT ta) tNil)) (wItems wa) :=
  ⟨pe_callTy (cr_listIt hc) hg hm boot_list (pa_cons (pe_bm0 PySem.F.plainAttrs_dict PySem.F.slot_dict_items PySem.F.type_dict_items mt_itemsT h1.pe hbase hline) pa_nil he) (by decide) (by decide) he rfl, le_items h1.le⟩
/-- (*x, y) -/
def wStar (wa : WE) (wr : WA) : WA := fun e st Φ => wa e st fun x st1 => ∃ ds, SqOf st1 x ds ∧ wr e st1 fun es st2 => Φ (ds ++ es) st2
theorem la_star {K : PySem.W.Frag} (h1 : LE K ca ta wa) (h2 : LA K ca t w) : LA K ca (StX.tStar K ta t) (wStar wa w) := fun σ e B st H wd er Φ Q k h =>
  h1 σ e B st H wd er _ _ (fun B1 st1 H1 v x g1 w1 r1 h1' => by
    obtain ⟨ds, hs, hr⟩ := h1'
    obtain ⟨a, xs, rfl, hq, rr⟩ := hs.rd w1 r1
    exact ⟨a, xs, rfl, hq.elim (fun q => .inr (SqL.of q)) (fun q => .inl (SqT.of q)), h2 σ e B1 st1 H1 w1 (er.mono g1.ex) _ _ (fun B2 st2 H2 vs es g2 w2 r2 hΦ => k B2 st2 H2 _ _ (g1.trans g2) w2 ((RpA.mono g2.ex _ _ rr).append r2) hΦ) hr⟩) h
theorem da_star (h1 : DE X ca e ta wa) (h2 : DA X ca es t w) (hs : starEach (.Starred e p :: es) X.env = (true, eval e X.env) :: starEach es X.env := by rfl) : DA X ca (.Starred e p :: es) (StX.tStar X.K ta t) (wStar wa w) := ⟨StX.pa_star h1.pe h2.pa hs, la_star h1.le h2.le⟩
theorem dt_notIn2 {q : Addr} {u v : Str} (hg : Gl X x) (hm : X.mg x = some (.ref q)) (hq : ∀ H, SqT X.K H q [.str u, .str v]) (h1 : DE X ca a ta wa) (hd : (x == ("__debug__" : Str)) = false := by decide) :
    DT X ca (.Compare a [.NotIn] [.Name x p] pos) (tTest (tOp (rIn X.K true) ta (tC (.ref q)))) (wTst (wNotIn2 u v wa)) := ⟨pt_cmpR op_notIn_seq h1.pe (pe_glob hg hm rfl hd) (by first | exact nomark _ | rfl), lt_tst (le_notIn2 hq h1.le)⟩
/-- o.f, f a property -/
structure Prp (P : Program) (w : World) (K : PySem.W.Frag) (mg : Str → Option Value) (base : Heap) (k : Nat) (C : Addr) (m : Str) (sp : Sp) : Prop where
  ex : ∃ (p g : Addr) (fd : FuncData) (ps : List Str), Cls K C ∧ PropOf K C m p g ∧ FnOk P w K mg base CX0 k g fd ps sp ∧ Binds K fd ps []
theorem de_prop {m : Str} {spd : Spd} {k j : Nat} (c : Cl) (cc : Prp X.prog X.w X.K X.mg X.base k (ca c) m (SpOf X.K ca spd)) (hr : Room j X.A) (h1 : DE X ca o ta wa) (hk : k + 1 ≤ j := by decide) (hab : attributeBase o m X.env (eval o X.env) = eval o X.env := by rfl) :
    DE X ca (.Attribute o m pos) (tProp (ca c) (SpOf X.K ca spd) [] E0 ta) (wProp c spd wa) := by
  obtain ⟨p, g, fd, ps, hc, hp, F, hb⟩ := cc.ex
  exact ⟨pe_prop h1.pe hc hp F (hr.mono hk) hb .nil pass0 hab, le_prop h1.le⟩
/-! ### a range in a name -/
def iRgO (tl : TE) : TI := fun σ H R => tl σ H fun x H1 => ∃ (a : Addr) (n : Int), x = .ref a ∧ H1 a = some (.rng 0 n) ∧ -(2 ^ 62) ≤ n ∧ n < 2 ^ 62 ∧ R (Itr 0 n.toNat) H1
theorem pi_rgO {tg l : Expr} {tl : TE} (hl : PE X l tl) : PI X tg l (iRgO tl) := by
  refine ⟨fun pins s σ H R I h => ?_⟩
  refine thn (hl.run pins s σ H _ I h) fun v s1 ⟨x, H1, I1, r1, q1⟩ => ?_
  obtain ⟨a, n, rfl, hq, h1, h2, q⟩ := q1
  cases r1
  obtain ⟨t, u, v, hr⟩ := (show ObjOk X.prog X.w H1 s1.heap a (.rng 0 n) from I1.hok a _ hq)
  have IR : IsRange s1.heap a 0 n 1 t u v := hr
  have e62 : (2:Int)^62 = 4611686018427387904 := by decide
  refine wpAny_pyIter_range IR (small_one (by omega) (by omega) h1 h2) ?_
  refine pi_one (tk := s1.toks) I1 _ (turn_range _ 0 n.toNat) ?_ q
  have e1 : (0 : Int) + ((0 : Nat) : Int) * 1 = 0 := by simp
  have e2 : ((n.toNat : Nat) : Int) - ((0 : Nat) : Int) = Builtin.Range.rangeSize 0 n 1 := by rw [rangeSize_one]; split <;> omega
  show IsRangeIter _ _ ((0 : Int) + ((0 : Nat) : Int) * 1) (((n.toNat : Nat) : Int) - ((0 : Nat) : Int)) 1
  rw [e1, e2]
  exact Heap.get?_push_size _ rfl
theorem cr_range1 : CallR X (.type "range") (fun vs H Q => ∃ j, vs = [V.int j] ∧ ∀ p, H p = none → Q (.ref p) (upd H p (.rng 0 j))) := by
  intro pins s σ H vs us Q I r h
  obtain ⟨j, rfl, q⟩ := h
  obtain ⟨u, rfl, ru⟩ := r.one
  obtain ⟨t, rfl⟩ := ru
  exact call_range_1 ⟨.ref s.heap.objs.size, upd H s.heap.objs.size (.rng 0 j), I.laid (o := .rng 0 j) (t' := s.toks + 2) (fun b o e => Heap.get?_push_of_some _ e) (Nat.le_refl _) (show ∃ t u v, _ from ⟨_, _, _, Heap.get?_push_size _ rfl⟩), rfl, q _ (I.hok.fresh (Nat.le_refl _))⟩
def PRgO : List D → Sto → D → Prop := fun as _ d => ∃ n, as = [.int n] ∧ d = .rg n
theorem sc_rgO {K : PySem.W.Frag} : SC K ca (fun vs H Q => ∃ j, vs = [V.int j] ∧ ∀ p, H p = none → Q (.ref p) (upd H p (.rng 0 j))) PRgO := fun B st H xs as d Q w r p k => by
  obtain ⟨n, rfl, rfl⟩ := p
  obtain ⟨v, rfl, rv⟩ := rp1 r
  refine ⟨n, by rw [show v = .int n from rv], fun p hp => ?_⟩
  obtain ⟨w2, g2⟩ := w.new (o := .rng 0 n) hp
  exact k _ _ _ g2 w2 ⟨p, rfl, upd_same⟩
def wiRgO (wa : WE) : WA := fun e st Φ => wa e st fun x st1 => ∃ n : Int, x = .rg n ∧ n ≤ 100000 ∧ -100000 ≤ n ∧ Φ (intsD n) st1
theorem li_rgO {K : PySem.W.Frag} (h1 : LE K ca ta wa) : LI K ca (iRgO ta) (wiRgO wa) := fun σ e B st H wd er Φ R k h =>
  h1 σ e B st H wd er _ _ (fun B1 st1 H1 v x g1 w1 r1 h1' => by
    obtain ⟨n, rfl, hn, hn', hΦ⟩ := h1'
    obtain ⟨a, rfl, hq⟩ := r1
    have e62 : (2:Int)^62 = 4611686018427387904 := by decide
    refine ⟨a, n, rfl, w1.ex _ _ hq, by omega, by omega, k B1 st1 H1 _ (intsD n) g1 w1 ⟨fun i H' hi ex => by rw [intsD_len] at hi; exact hi, fun H' ex => by rw [intsD_len]; exact Nat.le_refl _, fun i H' x' H2 B2 st2 hi ex w2 hy => ?_⟩ hΦ⟩
    obtain ⟨rfl, rfl⟩ := hy
    rw [intsD_len] at hi
    exact ⟨B2, _, Go.refl w2.ex, w2, intsD_get hi, by show V.int (0 + (i : Int)) = V.int (i : Nat); rw [Int.zero_add]⟩) h
theorem di_rgO {tg : Expr} (h1 : DE X ca e ta wa) : DI X ca tg e (iRgO ta) (wiRgO wa) := ⟨pi_rgO h1.pe, li_rgO h1.le⟩
end
end DL

set_option Elab.async false
set_option linter.all false
set_option maxRecDepth 100000
set_option maxHeartbeats 0
namespace Cw
open PySem L2 L2.DX PyProof.Rows PySem.Spec DL
/-! ### the readings of the defs -/
def W_check_worth : WS := (wSeq (wIf (wOrT (wNotT (wTst (wIs isInt (wVar 1)))) (wOrT (wTst (wIs isBool (wVar 1))) (wNotT (wTst (wChain PLe PLt (wC (.int 0)) (wVar 1) (wFld .lat 1 (wVar 0))))))) wNever wNext) (wRet (wVar 1)))
def N_check_worth : List Str := ["lattice", "worth"]
def W_checked_rows : WS := (wSeq (wIf (wOrT (wNotT (wTst (wIs isLT (wVar 0)))) (wNotT (wTst (wChain PLe PLe (wC (.int 1)) (wCB PLen (wCons (wVar 0) wNil)) (wC (.int 16)))))) wNever wNext) (wSeq (wAsg (wLstO wNil) (gwName 1)) (wSeq (wFor (wiEnL (wCons (wVar 0) wNil)) (gwTup 2 (gwCons (gwName 2) (gwCons (gwName 3) gwNil))) (wSeq (wIf (wOrT (wNotT (wTst (wIs isLT (wVar 3)))) (wTst (wBin PNe (wCB PLen (wCons (wVar 3) wNil)) (wCB PLen (wCons (wVar 0) wNil))))) wNever wNext) (wSeq (wFor (wiEnL (wCons (wVar 3) wNil)) (gwTup 2 (gwCons (gwName 4) (gwCons (gwName 5) gwNil))) (wIf (wNotT (wTst (wIs isBool (wVar 5)))) wNever wNext)) (wDrop (wApp (wVar 1) (wCons (wCB PTupOf (wCons (wVar 3) wNil)) wNil)))))) (wRet (wCB PTupOf (wCons (wVar 1) wNil))))))
def N_checked_rows : List Str := ["table", "rows", "x", "row", "y", "entry"]
def W_check_order : WS := (wSeq (wAsg (wLRg (wCB PLen (wCons (wVar 0) wNil))) (gwName 1)) (wSeq (wFor (wiLst (wVar 1)) (gwName 2) (wIf (wNotT (wTst (wBin PIx (wBin PIx (wVar 0) (wVar 2)) (wVar 2)))) wNever wNext)) (wSeq (wFor (wiLst (wVar 1)) (gwName 2) (wFor (wiLst (wSl (wVar 1) (wOSome (wBin PAdd (wVar 2) (wC (.int 1)))) wONone)) (gwName 3) (wIf (wAndT (wTst (wBin PIx (wBin PIx (wVar 0) (wVar 2)) (wVar 3))) (wTst (wBin PIx (wBin PIx (wVar 0) (wVar 3)) (wVar 2)))) wNever wNext))) (wFor (wiLst (wVar 1)) (gwName 2) (wFor (wiLst (wVar 1)) (gwName 3) (wIf (wTst (wBin PIx (wBin PIx (wVar 0) (wVar 2)) (wVar 3))) (wFor (wiLst (wVar 1)) (gwName 4) (wIf (wAndT (wTst (wBin PIx (wBin PIx (wVar 0) (wVar 3)) (wVar 4))) (wNotT (wTst (wBin PIx (wBin PIx (wVar 0) (wVar 2)) (wVar 4))))) wNever wNext)) wNext))))))
def N_check_order : List Str := ["table", "numbers", "x", "y", "z"]
def W_turned_rows : WS := (wSeq (wAsg (wLRg (wCB PLen (wCons (wVar 0) wNil))) (gwName 1)) (wRet (wCB PTupOf (wCons (wLc (wiLst (wVar 1)) 2 wYes (wCB PTupOf (wCons (wLc (wiLst (wVar 1)) 3 wYes (wBin PIx (wBin PIx (wVar 0) (wVar 3)) (wVar 2))) wNil))) wNil))))
def N_turned_rows : List Str := ["table", "numbers", "x", "y"]
def W_least_above : WS := (wSeq (wAsg (wLc (wiRg (wCons (wCB PLen (wCons (wVar 0) wNil)) wNil)) 3 (wAndT (wTst (wBin PIx (wBin PIx (wVar 0) (wVar 1)) (wVar 3))) (wTst (wBin PIx (wBin PIx (wVar 0) (wVar 2)) (wVar 3)))) (wVar 3)) (gwName 4)) (wSeq (wFor (wiLst (wVar 4)) (gwName 3) (wIf (wTst (wCB PAll (wCons (wLc (wiLst (wVar 4)) 5 wYes (wBin PIx (wBin PIx (wVar 0) (wVar 3)) (wVar 5))) wNil))) (wRet (wVar 3)) wNext)) (wRet (wC .non))))
def N_least_above : List Str := ["table", "one", "other", "z", "above", "w"]
def W_bound_rows (S1 : Spd) : WS := (wSeq (wAsg (wLRg (wCB PLen (wCons (wVar 0) wNil))) (gwName 2)) (wSeq (wAsg (wLcO (wiLst (wVar 2)) 3 wYes (wLcO (wiLst (wVar 2)) 4 wYes (wVar 3))) (gwName 5)) (wSeq (wFor (wiLst (wVar 2)) (gwName 3) (wFor (wiLst (wSl (wVar 2) (wOSome (wBin PAdd (wVar 3) (wC (.int 1)))) wONone)) (gwName 4) (wSeq (wAsg (wCall S1 (wCons (wVar 0) (wCons (wVar 3) (wCons (wVar 4) wNil)))) (gwName 6)) (wSeq (wIf (wTst (wBin (PIsN false) (wVar 6) (wC .non))) wNever wNext) (wSeq (wAsg (wVar 6) (gwSub (wBin PIx (wVar 5) (wVar 3)) (wVar 4))) (wAsg (wVar 6) (gwSub (wBin PIx (wVar 5) (wVar 4)) (wVar 3)))))))) (wFrz 5 (wRet (wCB PTupOf (wCons (wLc (wiLst (wVar 5)) 7 wYes (wCB PTupOf (wCons (wVar 7) wNil))) wNil)))))))
def N_bound_rows : List Str := ["table", "what", "numbers", "x", "y", "rows", "found", "row"]
def W_lower_covers : WS := (wSeq (wAsg (wLc (wiRg (wCons (wCB PLen (wCons (wVar 0) wNil)) wNil)) 3 (wAndT (wTst (wBin PNe (wVar 3) (wVar 1))) (wTst (wBin PIx (wBin PIx (wVar 0) (wVar 3)) (wVar 1)))) (wVar 3)) (gwName 2)) (wRet (wCB PTupOf (wCons (wLc (wiLst (wVar 2)) 3 (wNotT (wTst (wCB PAny (wCons (wLc (wiLst (wVar 2)) 4 wYes (wAndV (wBin PNe (wVar 4) (wVar 3)) (wBin PIx (wBin PIx (wVar 0) (wVar 3)) (wVar 4)))) wNil)))) (wVar 3)) wNil))))
def N_lower_covers : List Str := ["table", "worth", "below", "x", "z"]
def W_Lattice_init (S1 S2 S3 S4 S5 : Spd) : WS := (wSeq (wSetF .lat 0 (wVar 0) (wCall S1 (wCons (wVar 1) wNil))) (wSeq (wDrop (wCall S2 (wCons (wFld .lat 0 (wVar 0)) wNil))) (wSeq (wSetF .lat 1 (wVar 0) (wCB PLen (wCons (wFld .lat 0 (wVar 0)) wNil))) (wSeq (wSetF .lat 2 (wVar 0) (wCall S3 (wCons (wFld .lat 0 (wVar 0)) (wCons (wC (.str "join")) wNil)))) (wSeq (wSetF .lat 3 (wVar 0) (wCall S3 (wCons (wCall S4 (wCons (wFld .lat 0 (wVar 0)) wNil)) (wCons (wC (.str "meet")) wNil)))) (wSeq (wAsg (wLRg (wFld .lat 1 (wVar 0))) (gwName 2)) (wSeq (wSetF .lat 4 (wVar 0) (wBin PIx (wLc (wiLst (wVar 2)) 3 (wTst (wCB PAllT (wCons (wBin PIx (wFld .lat 0 (wVar 0)) (wVar 3)) wNil))) (wVar 3)) (wC (.int 0)))) (wSeq (wSetF .lat 5 (wVar 0) (wBin PIx (wLc (wiLst (wVar 2)) 3 (wTst (wCB PAll (wCons (wLc (wiTup (wFld .lat 0 (wVar 0))) 4 wYes (wBin PIx (wVar 4) (wVar 3))) wNil))) (wVar 3)) (wC (.int 0)))) (wSetF .lat 6 (wVar 0) (wCB PTupOf (wCons (wLc (wiLst (wVar 2)) 3 (wTst (wBin PEq (wCB PLen (wCons (wCall S5 (wCons (wFld .lat 0 (wVar 0)) (wCons (wVar 3) wNil))) wNil)) (wC (.int 1)))) (wVar 3)) wNil)))))))))))
def N_Lattice_init : List Str := ["self", "table", "numbers", "x", "row"]
def W_Lattice_at_most : WS := (wRet (wBin PIx (wBin PIx (wFld .lat 0 (wVar 0)) (wVar 1)) (wVar 2)))
def N_Lattice_at_most : List Str := ["self", "one", "other"]
def W_Lattice_join_of : WS := (wRet (wBin PIx (wBin PIx (wFld .lat 2 (wVar 0)) (wVar 1)) (wVar 2)))
def N_Lattice_join_of : List Str := ["self", "one", "other"]
def W_Lattice_meet_of : WS := (wRet (wBin PIx (wBin PIx (wFld .lat 3 (wVar 0)) (wVar 1)) (wVar 2)))
def N_Lattice_meet_of : List Str := ["self", "one", "other"]
def W_Lattice_join_all : WS := (wSeq (wAsg (wFld .lat 4 (wVar 0)) (gwName 2)) (wSeq (wFor (wiLst (wVar 1)) (gwName 3) (wAsg (wBin PIx (wBin PIx (wFld .lat 2 (wVar 0)) (wVar 2)) (wVar 3)) (gwName 2))) (wRet (wVar 2))))
def N_Lattice_join_all : List Str := ["self", "worths", "total", "worth"]
def W_Lattice_meet_all : WS := (wSeq (wAsg (wFld .lat 5 (wVar 0)) (gwName 2)) (wSeq (wFor (wiLst (wVar 1)) (gwName 3) (wAsg (wBin PIx (wBin PIx (wFld .lat 3 (wVar 0)) (wVar 2)) (wVar 3)) (gwName 2))) (wRet (wVar 2))))
def N_Lattice_meet_all : List Str := ["self", "worths", "total", "worth"]
def W_is_number : WS := (wRet (wAndV (wIs isInt (wVar 0)) (wAndV (wNotV (wIs isBool (wVar 0))) (wChain PLe PLe (wVar 1) (wVar 0) (wVar 2)))))
def N_is_number : List Str := ["thing", "low", "high"]
def W_check_node : WS := (wSeq (wIf (wTst (wBin PGt (wCB PLen (wCons (wVar 1) wNil)) (wC (.int 40)))) wNever wNext) (wSeq (wIf (wAndT (wTst (wIs isInt (wVar 0))) (wNotT (wTst (wIs isBool (wVar 0))))) (wSeq (wIf (wNotT (wTst (wChain PLe PLe (wC (.int 0)) (wVar 0) (wC (.int 15))))) wNever wNext) (wSeq (wIf (wTst (wBin PEq (wVar 2) (wC (.int 4000)))) wNever wNext) wRetN)) wNext) (wSeq (wIf (wOrT (wNotT (wTst (wIs isLT (wVar 0)))) (wTst (wBin PNe (wCB PLen (wCons (wVar 0) wNil)) (wC (.int 2))))) wNever wNext) (wSeq (wIf (wOrT (wNotT (wTst (wIs isStr (wBin PIx (wVar 0) (wC (.int 0)))))) (wTst (wNotIn2 "joins" "meets" (wBin PIx (wVar 0) (wC (.int 0)))))) wNever wNext) (wIf (wOrT (wNotT (wTst (wIs isLT (wBin PIx (wVar 0) (wC (.int 1)))))) (wTst (wBin PEq (wCB PLen (wCons (wBin PIx (wVar 0) (wC (.int 1))) wNil)) (wC (.int 0))))) wNever wNext)))))
def N_check_node : List Str := ["thing", "road", "many"]
def W_lay_out (S1 S2 : Spd) : WS := (wSeq (wDrop (wCall S1 (wCons (wVar 0) (wCons (wVar 1) (wCons (wCB PLen (wCons (wVar 4) wNil)) wNil))))) (wSeq (wAsg (wCB PLen (wCons (wVar 2) wNil)) (gwName 5)) (wSeq (wDrop (wApp (wVar 2) (wCons (wVar 0) wNil))) (wSeq (wIf (wTst (wIs isInt (wVar 0))) (wSeq (wDrop (wApp (wVar 4) (wCons (wVar 5) wNil))) (wRet (wVar 0))) wNext) (wSeq (wAsg (wLstO wNil) (gwName 6)) (wSeq (wAsg (wLstO wNil) (gwName 7)) (wSeq (wFor (wiEnT (wCons (wBin PIx (wVar 0) (wC (.int 1))) wNil)) (gwTup 2 (gwCons (gwName 8) (gwCons (gwName 9) gwNil))) (wSeq (wDrop (wApp (wVar 7) (wCons (wCB PLen (wCons (wVar 2) wNil)) wNil))) (wSeq (wDrop (wApp (wVar 3) (wCons (wVar 5) wNil))) (wDrop (wApp (wVar 6) (wCons (wCall S2 (wCons (wVar 9) (wCons (wBin PAdd (wVar 1) (wTup (wCons (wVar 8) wNil))) (wCons (wVar 2) (wCons (wVar 3) (wCons (wVar 4) wNil)))))) wNil)))))) (wSeq (wAsg (wTup (wCons (wBin PIx (wVar 0) (wC (.int 0))) (wCons (wCB PTupOf (wCons (wVar 7) wNil)) wNil))) (gwSub (wVar 2) (wVar 5))) (wRet (wTup (wCons (wBin PIx (wVar 0) (wC (.int 0))) (wCons (wCB PTupOf (wCons (wVar 6) wNil)) wNil))))))))))))
def N_lay_out : List Str := ["thing", "road", "nodes", "parents", "leaves", "number", "shapes", "numbers", "at", "child"]
def W_Tree_init (S1 : Spd) : WS := (wSeq (wAsg (wLstO wNil) (gwName 2)) (wSeq (wAsg (wLstO (wCons (wC .non) wNil)) (gwName 3)) (wSeq (wAsg (wLstO wNil) (gwName 4)) (wSeq (wSetF .tre 0 (wVar 0) (wCall S1 (wCons (wVar 1) (wCons (wTup wNil) (wCons (wVar 2) (wCons (wVar 3) (wCons (wVar 4) wNil))))))) (wSeq (wSetF .tre 1 (wVar 0) (wCB PTupOf (wCons (wVar 2) wNil))) (wSeq (wSetF .tre 2 (wVar 0) (wCB PTupOf (wCons (wVar 3) wNil))) (wSeq (wSetF .tre 3 (wVar 0) (wCB PTupOf (wCons (wVar 4) wNil))) (wSetF .tre 4 (wVar 0) (wCB PTupOf (wCons (wLcS (wVar 4) 5 wYes (wBin PIx (wVar 2) (wVar 5))) wNil))))))))))
def N_Tree_init : List Str := ["self", "shape", "nodes", "parents", "leaves", "leaf"]
def W_Tree_node_at (S1 : Spd) : WS := (wSeq (wAsg (wC (.int 0)) (gwName 2)) (wSeq (wFor (wiTup (wVar 1)) (gwName 3) (wSeq (wAsg (wBin PIx (wFld .tre 1 (wVar 0)) (wVar 2)) (gwName 4)) (wSeq (wIf (wOrT (wTst (wIs isInt (wVar 4))) (wNotT (wTst (wCall S1 (wCons (wVar 3) (wCons (wC (.int 0)) (wCons (wBin PSub (wCB PLen (wCons (wBin PIx (wVar 4) (wC (.int 1))) wNil)) (wC (.int 1))) wNil))))))) wNever wNext) (wAsg (wBin PIx (wBin PIx (wVar 4) (wC (.int 1))) (wVar 3)) (gwName 2))))) (wRet (wVar 2))))
def N_Tree_node_at : List Str := ["self", "road", "here", "at", "node"]
def W_folded_worths (S1 S2 : Spd) : WS := (wSeq (wIf (wTst (wBin PEq (wVar 1) (wC (.str "joins")))) (wRet (wMeth .lat S1 (wVar 0) (wCons (wVar 2) wNil))) wNext) (wRet (wMeth .lat S2 (wVar 0) (wCons (wVar 2) wNil))))
def N_folded_worths : List Str := ["lattice", "sign", "worths"]
def W_is_number_below : WS := (wRet (wAndV (wIs isInt (wVar 0)) (wAndV (wNotV (wIs isBool (wVar 0))) (wChain PLe PLt (wC (.int 0)) (wVar 0) (wVar 1)))))
def N_is_number_below : List Str := ["thing", "limit"]
def W_worths_beneath (S1 : Spd) : WS := (wSeq (wAsg (wLcO (wiTup (wFld .tre 1 (wVar 1))) 8 wYes (wFld .lat 4 (wVar 0))) (gwName 3)) (wSeq (wFor (wiEnT (wCons (wFld .tre 3 (wVar 1)) wNil)) (gwTup 2 (gwCons (gwName 4) (gwCons (gwName 5) gwNil))) (wAsg (wBin PIx (wVar 2) (wVar 4)) (gwSub (wVar 3) (wVar 5)))) (wSeq (wFor (wiRev (wCB PLen (wCons (wFld .tre 1 (wVar 1)) wNil))) (gwName 5) (wIf (wTst (wIs isTup (wBin PIx (wFld .tre 1 (wVar 1)) (wVar 5)))) (wSeq (wAsg (wBin PIx (wFld .tre 1 (wVar 1)) (wVar 5)) (gwTup 2 (gwCons (gwName 6) (gwCons (gwName 7) gwNil)))) (wAsg (wCall S1 (wCons (wVar 0) (wCons (wVar 6) (wCons (wLc (wiTup (wVar 7)) 9 wYes (wBin PIx (wVar 3) (wVar 9))) wNil)))) (gwSub (wVar 3) (wVar 5)))) wNext)) (wRet (wVar 3)))))
def N_worths_beneath : List Str := ["lattice", "tree", "worths", "told", "leaf", "node", "sign", "children", "_", "child"]
def W_folds_of_others (S1 : Spd) : WS := (wSeq (wAsg (wCB PLen (wCons (wVar 2) wNil)) (gwName 3)) (wSeq (wAsg (wLstO (wCons (wCall S1 (wCons (wVar 0) (wCons (wVar 1) (wCons (wLst wNil) wNil)))) wNil)) (gwName 4)) (wSeq (wFor (wiLst (wVar 2)) (gwName 5) (wDrop (wApp (wVar 4) (wCons (wCall S1 (wCons (wVar 0) (wCons (wVar 1) (wCons (wLst (wCons (wBin PIx (wVar 4) (wC (.int (-1)))) (wCons (wVar 5) wNil))) wNil)))) wNil)))) (wSeq (wAsg (wLstO wNil) (gwName 6)) (wSeq (wAsg (wCall S1 (wCons (wVar 0) (wCons (wVar 1) (wCons (wLst wNil) wNil)))) (gwName 7)) (wSeq (wFor (wiRev (wVar 3)) (gwName 8) (wSeq (wDrop (wApp (wVar 6) (wCons (wCall S1 (wCons (wVar 0) (wCons (wVar 1) (wCons (wLst (wCons (wBin PIx (wVar 4) (wVar 8)) (wCons (wVar 7) wNil))) wNil)))) wNil))) (wAsg (wCall S1 (wCons (wVar 0) (wCons (wVar 1) (wCons (wLst (wCons (wVar 7) (wCons (wBin PIx (wVar 2) (wVar 8)) wNil))) wNil)))) (gwName 7)))) (wRet (wRev (wVar 6)))))))))
def N_folds_of_others : List Str := ["lattice", "sign", "worths", "many", "before", "worth", "told", "behind", "at"]
def W_contexts_beneath (S1 S2 S3 : Spd) : WS := (wSeq (wAsg (wLcO (wiTup (wFld .tre 1 (wVar 1))) 16 wYes (wTup (wCons (wFld .lat 4 (wVar 0)) (wCons (wFld .lat 5 (wVar 0)) wNil)))) (gwName 4)) (wSeq (wFor (wiEnT (wCons (wFld .tre 1 (wVar 1)) wNil)) (gwTup 2 (gwCons (gwName 5) (gwCons (gwName 6) gwNil))) (wIf (wTst (wIs isTup (wVar 6))) (wSeq (wAsg (wVar 6) (gwTup 2 (gwCons (gwName 7) (gwCons (gwName 8) gwNil)))) (wSeq (wAsg (wBin PIx (wVar 4) (wVar 5)) (gwTup 2 (gwCons (gwName 9) (gwCons (gwName 10) gwNil)))) (wSeq (wAsg (wIfE (wTst (wBin PEq (wVar 7) (wC (.str "joins")))) (wVar 2) (wVar 3)) (gwName 11)) (wSeq (wAsg (wCall S1 (wCons (wVar 0) (wCons (wVar 7) (wCons (wLc (wiTup (wVar 8)) 12 wYes (wBin PIx (wVar 11) (wVar 12))) wNil)))) (gwName 13)) (wFor (wiEnT (wCons (wVar 8) wNil)) (gwTup 2 (gwCons (gwName 14) (gwCons (gwName 12) gwNil))) (wSeq (wAsg (wMeth .lat S2 (wVar 0) (wCons (wVar 10) (wCons (wBin PIx (wVar 13) (wVar 14)) wNil))) (gwName 15)) (wAsg (wIfE (wTst (wBin PEq (wVar 7) (wC (.str "joins")))) (wTup (wCons (wMeth .lat S3 (wVar 0) (wCons (wVar 9) (wCons (wVar 15) wNil))) (wCons (wVar 10) wNil))) (wTup (wCons (wVar 9) (wCons (wVar 15) wNil)))) (gwSub (wVar 4) (wVar 12))))))))) wNext)) (wRet (wVar 4))))
def N_contexts_beneath : List Str := ["lattice", "tree", "lows", "highs", "contexts", "node", "row", "sign", "children", "low", "high", "bounds", "child", "others", "at", "share", "_"]
def W_Asking_init (S1 : Spd) : WS := (wSeq (wSetF .ask 0 (wVar 0) (wVar 1)) (wSeq (wSetF .ask 1 (wVar 0) (wVar 2)) (wSeq (wSetF .ask 2 (wVar 0) (wTup wNil)) (wSeq (wSetF .ask 3 (wVar 0) wDNewK) (wDrop (wMeth .ask S1 (wVar 0) wNil))))))
def N_Asking_init : List Str := ["self", "lattice", "tree"]
def W_Asking_refresh_all (S1 S2 : Spd) : WS := (wSeq (wAsg (wFld .ask 0 (wVar 0)) (gwName 1)) (wSeq (wAsg (wCB PRgO (wCons (wCB PLen (wCons (wFld .tre 3 (wFld .ask 1 (wVar 0))) wNil)) wNil)) (gwName 2)) (wSeq (wAsg (wLc (wiRgO (wVar 2)) 5 wYes (wDGet2 (wFld .ask 3 (wVar 0)) (wVar 5) (wFld .lat 4 (wVar 1)))) (gwName 3)) (wSeq (wAsg (wLc (wiRgO (wVar 2)) 5 wYes (wDGet2 (wFld .ask 3 (wVar 0)) (wVar 5) (wFld .lat 5 (wVar 1)))) (gwName 4)) (wSeq (wSetF .ask 4 (wVar 0) (wCall S1 (wCons (wVar 1) (wCons (wFld .ask 1 (wVar 0)) (wCons (wVar 3) wNil))))) (wSeq (wSetF .ask 5 (wVar 0) (wCall S1 (wCons (wVar 1) (wCons (wFld .ask 1 (wVar 0)) (wCons (wVar 4) wNil))))) (wSetF .ask 6 (wVar 0) (wCall S2 (wCons (wVar 1) (wCons (wFld .ask 1 (wVar 0)) (wCons (wFld .ask 4 (wVar 0)) (wCons (wFld .ask 5 (wVar 0)) wNil))))))))))))
def N_Asking_refresh_all : List Str := ["self", "lattice", "leaves", "lows", "highs", "leaf"]
def W_Asking_refuse_leaf (S1 : Spd) : WS := (wIf (wNotT (wTst (wCall S1 (wCons (wVar 1) (wCons (wCB PLen (wCons (wFld .tre 3 (wFld .ask 1 (wVar 0))) wNil)) wNil))))) wNever wNext)
def N_Asking_refuse_leaf : List Str := ["self", "leaf"]
def W_Asking_leaf_hangs (S1 : Spd) : WS := (wSeq (wAsg (wBin PIx (wFld .ask 6 (wVar 0)) (wBin PIx (wFld .tre 3 (wFld .ask 1 (wVar 0))) (wVar 1))) (gwTup 2 (gwCons (gwName 2) (gwCons (gwName 3) gwNil)))) (wRet (wNotV (wMeth .lat S1 (wFld .ask 0 (wVar 0)) (wCons (wVar 3) (wCons (wVar 2) wNil))))))
def N_Asking_leaf_hangs : List Str := ["self", "leaf", "low", "high"]
def W_Asking_set_kept (S1 : Spd) : WS := (wSeq (wDPut (wFld .ask 3 (wVar 0)) (wVar 1) (wVar 2)) (wSeq (wSetF .ask 2 (wVar 0) (wTup (wStar (wFld .ask 2 (wVar 0)) (wCons (wVar 1) wNil)))) (wDrop (wMeth .ask S1 (wVar 0) wNil))))
def N_Asking_set_kept : List Str := ["self", "leaf", "worth"]
def W_Asking_note_leaf (S1 S2 S3 : Spd) : WS := (wSeq (wDrop (wMeth .ask S1 (wVar 0) (wCons (wVar 1) wNil))) (wSeq (wDrop (wCall S2 (wCons (wFld .ask 0 (wVar 0)) (wCons (wVar 2) wNil)))) (wSeq (wIf (wTst (wDIn false (wVar 1) (wFld .ask 3 (wVar 0)))) wNever wNext) (wDrop (wMeth .ask S3 (wVar 0) (wCons (wVar 1) (wCons (wVar 2) wNil)))))))
def N_Asking_note_leaf : List Str := ["self", "leaf", "worth"]
def W_Asking_hanging_now (S1 : Spd) : WS := (wSeq (wAsg (wCB PRgO (wCons (wCB PLen (wCons (wFld .tre 3 (wFld .ask 1 (wVar 0))) wNil)) wNil)) (gwName 1)) (wRet (wCB PTupOf (wCons (wLc (wiRgO (wVar 1)) 2 (wAndT (wTst (wDIn true (wVar 2) (wFld .ask 3 (wVar 0)))) (wTst (wMeth .ask S1 (wVar 0) (wCons (wVar 2) wNil)))) (wVar 2)) wNil))))
def N_Asking_hanging_now : List Str := ["self", "leaves", "leaf"]
def W_Asking_bounds_at (S1 : Spd) : WS := (wSeq (wAsg (wMeth .tre S1 (wFld .ask 1 (wVar 0)) (wCons (wVar 1) wNil)) (gwName 2)) (wRet (wTup (wCons (wBin PIx (wFld .ask 4 (wVar 0)) (wVar 2)) (wCons (wBin PIx (wFld .ask 5 (wVar 0)) (wVar 2)) wNil)))))
def N_Asking_bounds_at : List Str := ["self", "road", "node"]
def W_Asking_context_at (S1 : Spd) : WS := (wRet (wBin PIx (wFld .ask 6 (wVar 0)) (wMeth .tre S1 (wFld .ask 1 (wVar 0)) (wCons (wVar 1) wNil))))
def N_Asking_context_at : List Str := ["self", "road"]
def W_stands_in : WS := (wRet (wAndV (wIs isInt (wVar 1)) (wAndV (wNotV (wIs isBool (wVar 1))) (wChain PLe PLt (wC (.int 0)) (wVar 1) (wFld .lat 1 (wVar 0))))))
def N_stands_in : List Str := ["lattice", "thing"]
def W_Job_init : WS := (wSeq (wSetF .job 0 (wVar 0) (wVar 1)) (wSeq (wSetF .job 1 (wVar 0) (wVar 2)) (wSeq (wSetF .job 2 (wVar 0) (wVar 3)) (wSetF .job 3 (wVar 0) (wVar 4)))))
def N_Job_init : List Str := ["self", "number", "hand", "road", "context"]
def W_upper_shape (S1 S2 S3 S4 : Spd) : WS := (wSeq (wIf (wOrT (wTst (wBin PEq (wVar 2) (wC (.int 0)))) (wTst (wMeth .gro S1 (wVar 0) (wCons (wVar 1) wNil)))) (wSeq (wIf (wTst (wBin PEq (wCB PLen (wCons (wVar 4) wNil)) (wC (.int 400)))) wNever wNext) (wSeq (wDrop (wApp (wVar 4) (wCons (wVar 3) wNil))) (wRet (wC (.int 0))))) wNext) (wSeq (wAsg (wLstO wNil) (gwName 5)) (wSeq (wFor (wiEnT (wCons (wMeth .gro S2 (wVar 0) (wCons (wVar 1) wNil)) wNil)) (gwTup 2 (gwCons (gwName 6) (gwCons (gwName 7) gwNil))) (wDrop (wApp (wVar 5) (wCons (wCall S3 (wCons (wVar 0) (wCons (wVar 7) (wCons (wBin PSub (wVar 2) (wC (.int 1))) (wCons (wBin PAdd (wVar 3) (wTup (wCons (wVar 6) wNil))) (wCons (wVar 4) wNil)))))) wNil)))) (wRet (wTup (wCons (wMeth .gro S4 (wVar 0) (wCons (wVar 1) wNil)) (wCons (wCB PTupOf (wCons (wVar 5) wNil)) wNil)))))))
def N_upper_shape : List Str := ["ground", "node", "depth", "road", "roads", "shapes", "at", "child"]
def W_Pool_init (S1 S2 S3 S4 S5 : Spd) : WS := (wSeq (wIf (wNotT (wTst (wCall S1 (wCons (wVar 3) (wCons (wC (.int 0)) (wCons (wC (.int 40)) wNil)))))) wNever wNext) (wSeq (wSetF .pool 0 (wVar 0) (wVar 1)) (wSeq (wSetF .pool 1 (wVar 0) (wVar 2)) (wSeq (wSetF .pool 2 (wVar 0) (wVar 3)) (wSeq (wAsg (wLstO wNil) (gwName 4)) (wSeq (wSetF .pool 3 (wVar 0) (wMake .tre S2 [] (wCons (wCall S3 (wCons (wVar 2) (wCons (wMeth .gro S4 (wVar 2) wNil) (wCons (wVar 3) (wCons (wTup wNil) (wCons (wVar 4) wNil)))))) wNil))) (wSeq (wSetF .pool 4 (wVar 0) (wCB PTupF (wCons (wVar 4) wNil))) (wSeq (wSetF .pool 5 (wVar 0) (wTup wNil)) (wSeq (wSetF .pool 6 (wVar 0) (wTup wNil)) (wSetF .pool 7 (wVar 0) (wMakeO .ask S5 [] (wCons (wVar 1) (wCons (wFld .pool 3 (wVar 0)) wNil)))))))))))))
def N_Pool_init : List Str := ["self", "lattice", "ground", "depth", "roads"]
def W_Pool_is_done (S1 : Spd) : WS := (wRet (wBin PEq (wMeth .pool S1 (wVar 0) wNil) (wTup wNil)))
def N_Pool_is_done : List Str := ["self"]
def W_Pool_spot_bounds (S1 : Spd) : WS := (wRet (wMeth .ask S1 (wFld .pool 7 (wVar 0)) (wCons (wVar 1) wNil)))
def N_Pool_spot_bounds : List Str := ["self", "road"]
def W_Pool_spot_context (S1 : Spd) : WS := (wRet (wMeth .ask S1 (wFld .pool 7 (wVar 0)) (wCons (wVar 1) wNil)))
def N_Pool_spot_context : List Str := ["self", "road"]
def W_Pool_hanging_spots (S1 : Spd) : WS := (wRet (wCB PTupOf (wCons (wLc (wiTup (wMeth .ask S1 (wFld .pool 7 (wVar 0)) wNil)) 1 wYes (wBin PIx (wFld .pool 4 (wVar 0)) (wVar 1))) wNil)))
def N_Pool_hanging_spots : List Str := ["self", "leaf"]
def W_Pool_take_job (S1 S2 S3 S4 : Spd) : WS := (wSeq (wIf (wNotT (wTst (wCall S1 (wCons (wVar 1) (wCons (wC (.int 0)) (wCons (wC (.int 7)) wNil)))))) wNever wNext) (wSeq (wAsg (wLc (wiTup (wFld .pool 6 (wVar 0))) 7 (wTst (wBin PEq (wBin PIx (wVar 7) (wC (.int 3))) (wC (.str "out")))) (wVar 7)) (gwName 2)) (wSeq (wIf (wTst (wBin PIn (wVar 1) (wLc (wiLst (wVar 2)) 7 wYes (wBin PIx (wVar 7) (wC (.int 0)))))) wNever wNext) (wSeq (wAsg (wLc (wiLst (wVar 2)) 7 wYes (wBin PIx (wVar 7) (wC (.int 1)))) (gwName 3)) (wSeq (wFor (wiTup (wMeth .pool S2 (wVar 0) wNil)) (gwName 4) (wIf (wTst (wBin PNotIn (wVar 4) (wVar 3))) (wSeq (wAsg (wMeth .pool S3 (wVar 0) (wCons (wVar 4) wNil)) (gwName 5)) (wSeq (wAsg (wCB PLen (wCons (wFld .pool 6 (wVar 0)) wNil)) (gwName 6)) (wSeq (wSetF .pool 6 (wVar 0) (wBin PAdd (wFld .pool 6 (wVar 0)) (wTup (wCons (wTup (wCons (wVar 1) (wCons (wVar 4) (wCons (wVar 5) (wCons (wC (.str "out")) wNil))))) wNil)))) (wRet (wMake .job S4 [] (wCons (wVar 6) (wCons (wVar 1) (wCons (wVar 4) (wCons (wVar 5) wNil))))))))) wNext)) (wRet (wC .non)))))))
def N_Pool_take_job : List Str := ["self", "hand", "held", "taken", "road", "context", "number", "job"]
def W_Pool_job_at (S1 : Spd) : WS := (wSeq (wIf (wNotT (wTst (wCall S1 (wCons (wVar 1) (wCons (wC (.int 0)) (wCons (wBin PSub (wCB PLen (wCons (wFld .pool 6 (wVar 0)) wNil)) (wC (.int 1))) wNil)))))) wNever wNext) (wRet (wBin PIx (wFld .pool 6 (wVar 0)) (wVar 1))))
def N_Pool_job_at : List Str := ["self", "number"]
def W_Pool_set_standing : WS := (wSeq (wAsg (wLstOfO (wCons (wFld .pool 6 (wVar 0)) wNil)) (gwName 3)) (wSeq (wAsg (wBin PAdd (wSl (wBin PIx (wVar 3) (wVar 1)) wONone (wOSome (wC (.int 3)))) (wTup (wCons (wVar 2) wNil))) (gwSub (wVar 3) (wVar 1))) (wSetF .pool 6 (wVar 0) (wCB PTupOf (wCons (wVar 3) wNil)))))
def N_Pool_set_standing : List Str := ["self", "number", "standing", "jobs"]
def W_Pool_note_spot (S1 : Spd) : WS := (wSeq (wDrop (wMeth .ask S1 (wFld .pool 7 (wVar 0)) (wCons (wTupIx (wFld .pool 4 (wVar 0)) (wVar 1)) (wCons (wVar 2) wNil)))) (wSetF .pool 5 (wVar 0) (wCB PTupOf (wCons (wCB PSorted (wCons (wBin PAdd (wCB PLstOf (wCons (wFld .pool 5 (wVar 0)) wNil)) (wLst (wCons (wTup (wCons (wVar 1) (wCons (wVar 2) wNil))) wNil))) wNil)) wNil))))
def N_Pool_note_spot : List Str := ["self", "road", "worth"]
def W_Pool_give_job (S1 S2 S3 S4 : Spd) : WS := (wSeq (wAsg (wMeth .pool S1 (wVar 0) (wCons (wVar 1) wNil)) (gwName 3)) (wSeq (wIf (wTst (wBin PEq (wBin PIx (wVar 3) (wC (.int 3))) (wC (.str "given")))) wNever wNext) (wSeq (wIf (wNotT (wTst (wCall S2 (wCons (wFld .pool 0 (wVar 0)) (wCons (wVar 2) wNil))))) wNever wNext) (wSeq (wDrop (wMeth .pool S3 (wVar 0) (wCons (wVar 1) (wCons (wC (.str "given")) wNil)))) (wSeq (wIf (wTst (wBin PIn (wBin PIx (wVar 3) (wC (.int 1))) (wLc (wiTup (wFld .pool 5 (wVar 0))) 4 wYes (wBin PIx (wVar 4) (wC (.int 0)))))) (wRet (wC (.bl false))) wNext) (wSeq (wDrop (wMeth .pool S4 (wVar 0) (wCons (wBin PIx (wVar 3) (wC (.int 1))) (wCons (wVar 2) wNil)))) (wRet (wC (.bl true)))))))))
def N_Pool_give_job : List Str := ["self", "number", "worth", "job", "row"]
def W_TreeGround_init : WS := (wSeq (wSetF .gro 0 (wVar 0) (wVar 1)) (wSetF .gro 1 (wVar 0) (wVar 2)))
def N_TreeGround_init : List Str := ["self", "tree", "start"]
def W_TreeGround_root_node : WS := (wRet (wFld .gro 1 (wVar 0)))
def N_TreeGround_root_node : List Str := ["self"]
def W_TreeGround_is_end : WS := (wRet (wIs isInt (wBin PIx (wFld .tre 1 (wFld .gro 0 (wVar 0))) (wVar 1))))
def N_TreeGround_is_end : List Str := ["self", "node"]
def W_TreeGround_sign_of : WS := (wRet (wBin PIx (wBin PIx (wFld .tre 1 (wFld .gro 0 (wVar 0))) (wVar 1)) (wC (.int 0))))
def N_TreeGround_sign_of : List Str := ["self", "node"]
def W_TreeGround_children_of : WS := (wRet (wBin PIx (wBin PIx (wFld .tre 1 (wFld .gro 0 (wVar 0))) (wVar 1)) (wC (.int 1))))
def N_TreeGround_children_of : List Str := ["self", "node"]
def W_L_hand : WS := (wSeq (wAsg (wBin PAdd (wCB PLen (wCons (wVar 0) wNil)) (wC (.int 71))) (gwName 1)) (wSeq (wAsg (wLstO wNil) (gwName 2)) (wSeq (wFor (wiLst (wVar 0)) (gwName 3) (wSeq (wAsg (wBin PMod (wCB PInt (wCons (wBin PAdd (wBin PMul (wVar 1) (wC (.int 3001))) (wCB PInt (wCons (wVar 3) wNil))) wNil)) (wC (.int 2147483563))) (gwName 1)) (wDrop (wApp (wVar 2) (wCons (wCB PAbs (wCons (wCB PInt (wCons (wVar 3) wNil)) wNil)) wNil))))) (wFrz 2 (wRet (wLstO (wCons (wVar 2) (wCons (wC (.int 0)) (wCons (wC (.int 0)) (wCons (wVar 1) wNil))))))))))
def N_L_hand : List Str := ["_law_script", "_law_total", "_law_cells", "_law_cell"]
def W_L_mixed : WS := (wSeq (wAsg (wBin PMod (wCB PInt (wCons (wBin PAdd (wBin PAdd (wBin PMul (wVar 0) (wC (.int 40014))) (wBin PMul (wVar 1) (wC (.int 7907)))) (wC (.int 60013))) wNil)) (wC (.int 2147483399))) (gwName 2)) (wSeq (wAsg (wBin PMod (wCB PInt (wCons (wBin PAdd (wBin PAdd (wBin PMul (wVar 2) (wVar 2)) (wBin PMul (wVar 1) (wC (.int 90031)))) (wBin PDiv (wVar 2) (wC (.int 139)))) wNil)) (wC (.int 2147483629))) (gwName 3)) (wRet (wBin PDiv (wCB PInt (wCons (wBin PMod (wCB PInt (wCons (wBin PAdd (wBin PMul (wVar 3) (wC (.int 68111))) (wBin PDiv (wVar 2) (wC (.int 13)))) wNil)) (wC (.int 2147483587))) wNil)) (wC (.int 64))))))
def N_L_mixed : List Str := ["_law_number", "_law_turn", "_law_once", "_law_twice"]
def W_L_take (S1 : Spd) : WS := (wSeq (wIf (wAndT (wTst (wBin PEq (wBin PIx (wVar 0) (wC (.int 2))) (wC (.int 0)))) (wTst (wBin PLt (wBin PIx (wVar 0) (wC (.int 1))) (wCB PLen (wCons (wBin PIx (wVar 0) (wC (.int 0))) wNil))))) (wSeq (wAsg (wBin PIx (wBin PIx (wVar 0) (wC (.int 0))) (wBin PIx (wVar 0) (wC (.int 1)))) (gwName 2)) (wSeq (wAsg (wBin PAdd (wBin PIx (wVar 0) (wC (.int 1))) (wC (.int 1))) (gwSub (wVar 0) (wC (.int 1)))) (wSeq (wIf (wTst (wBin PLt (wVar 2) (wBin PPow (wC (.int 10)) (wC (.int 18))))) (wRet (wBin PMod (wCB PInt (wCons (wCall S1 (wCons (wBin PMod (wCB PInt (wCons (wVar 2) wNil)) (wC (.int 2147483399))) (wCons (wBin PIx (wVar 0) (wC (.int 1))) wNil))) wNil)) (wVar 1))) wNext) (wAsg (wVar 2) (gwSub (wVar 0) (wC (.int 2))))))) wNext) (wSeq (wIf (wTst (wBin PGt (wBin PIx (wVar 0) (wC (.int 2))) (wC (.int 0)))) (wSeq (wAsg (wBin PIx (wVar 0) (wC (.int 2))) (gwName 3)) (wSeq (wAsg (wBin PDiv (wCB PInt (wCons (wVar 3) wNil)) (wVar 1)) (gwSub (wVar 0) (wC (.int 2)))) (wRet (wBin PMod (wCB PInt (wCons (wVar 3) wNil)) (wVar 1))))) wNext) (wSeq (wAsg (wBin PMod (wCB PInt (wCons (wBin PAdd (wBin PIx (wVar 0) (wC (.int 3))) (wC (.int 1))) wNil)) (wC (.int 2147483549))) (gwSub (wVar 0) (wC (.int 3)))) (wRet (wBin PMod (wCB PInt (wCons (wCall S1 (wCons (wBin PIx (wVar 0) (wC (.int 3))) (wCons (wBin PIx (wVar 0) (wC (.int 1))) wNil))) wNil)) (wVar 1))))))
def N_L_take : List Str := ["_law_hand_here", "_law_many", "_law_cell", "_law_rest"]
def W_L_whole : WS := (wRet (wAndV (wIs isInt (wVar 0)) (wNotV (wIs isBool (wVar 0)))))
def N_L_whole : List Str := ["_law_thing"]
def W_L_lattice (S1 : Spd) : WS := (wSeq (wAsg (wCB PLen (wCons (wVar 0) wNil)) (gwName 1)) (wSeq (wAsg (wLstO wNil) (gwName 2)) (wSeq (wFor (wiLst (wVar 0)) (gwName 3) (wDrop (wApp (wVar 2) (wCons (wLc (wiLst (wVar 0)) 9 wYes (wBin PEq (wCB PLen (wCons (wLc (wiTup (wVar 3)) 4 (wTst (wBin PNotIn (wVar 4) (wVar 9))) (wVar 4)) wNil)) (wC (.int 0)))) wNil)))) (wFrz 2 (wSeq (wAsg (wLstO wNil) (gwName 5)) (wSeq (wAsg (wLstO wNil) (gwName 6)) (wSeq (wFor (wiRg (wCons (wVar 1) wNil)) (gwName 4) (wSeq (wDrop (wApp (wVar 5) (wCons (wLc (wiRg (wCons (wVar 1) wNil)) 10 wYes (wCall S1 (wCons (wVar 2) (wCons (wVar 1) (wCons (wVar 4) (wCons (wVar 10) (wCons (wC (.bl true)) wNil))))))) wNil))) (wDrop (wApp (wVar 6) (wCons (wLc (wiRg (wCons (wVar 1) wNil)) 10 wYes (wCall S1 (wCons (wVar 2) (wCons (wVar 1) (wCons (wVar 4) (wCons (wVar 10) (wCons (wC (.bl false)) wNil))))))) wNil))))) (wFrz 5 (wFrz 6 (wSeq (wAsg (wBin PIx (wLc (wiRg (wCons (wVar 1) wNil)) 4 (wTst (wBin PEq (wCB PLen (wCons (wLc (wiRg (wCons (wVar 1) wNil)) 10 (wTst (wBin PIx (wBin PIx (wVar 2) (wVar 4)) (wVar 10))) (wVar 10)) wNil)) (wVar 1))) (wVar 4)) (wC (.int 0))) (gwName 7)) (wSeq (wAsg (wBin PIx (wLc (wiRg (wCons (wVar 1) wNil)) 4 (wTst (wBin PEq (wCB PLen (wCons (wLc (wiRg (wCons (wVar 1) wNil)) 10 (wTst (wBin PIx (wBin PIx (wVar 2) (wVar 10)) (wVar 4))) (wVar 10)) wNil)) (wVar 1))) (wVar 4)) (wC (.int 0))) (gwName 8)) (wRet (wLst (wCons (wVar 1) (wCons (wVar 2) (wCons (wVar 5) (wCons (wVar 6) (wCons (wVar 7) (wCons (wVar 8) wNil)))))))))))))))))))
def N_L_lattice : List Str := ["_law_sets", "_law_size", "_law_table", "_law_one", "_law_x", "_law_joins", "_law_meets", "_law_bottom", "_law_top", "_law_other", "_law_y"]
def W_L_bound : WS := (wSeq (wIf (wTst (wVar 4)) (wSeq (wAsg (wLc (wiRg (wCons (wVar 1) wNil)) 6 (wAndT (wTst (wBin PIx (wBin PIx (wVar 0) (wVar 2)) (wVar 6))) (wTst (wBin PIx (wBin PIx (wVar 0) (wVar 3)) (wVar 6)))) (wVar 6)) (gwName 5)) (wRet (wBin PIx (wLc (wiLst (wVar 5)) 6 (wTst (wBin PEq (wCB PLen (wCons (wLc (wiLst (wVar 5)) 7 (wTst (wBin PIx (wBin PIx (wVar 0) (wVar 6)) (wVar 7))) (wVar 7)) wNil)) (wCB PLen (wCons (wVar 5) wNil)))) (wVar 6)) (wC (.int 0))))) wNext) (wSeq (wAsg (wLc (wiRg (wCons (wVar 1) wNil)) 6 (wAndT (wTst (wBin PIx (wBin PIx (wVar 0) (wVar 6)) (wVar 2))) (wTst (wBin PIx (wBin PIx (wVar 0) (wVar 6)) (wVar 3)))) (wVar 6)) (gwName 5)) (wRet (wBin PIx (wLc (wiLst (wVar 5)) 6 (wTst (wBin PEq (wCB PLen (wCons (wLc (wiLst (wVar 5)) 7 (wTst (wBin PIx (wBin PIx (wVar 0) (wVar 7)) (wVar 6))) (wVar 7)) wNil)) (wCB PLen (wCons (wVar 5) wNil)))) (wVar 6)) (wC (.int 0))))))
def N_L_bound : List Str := ["_law_table", "_law_size", "_law_x", "_law_y", "_law_up", "_law_both", "_law_z", "_law_w"]
def W_L_lowers : WS := (wSeq (wAsg (wLst (wCons (wTup wNil) wNil)) (gwName 2)) (wSeq (wFor (wiRg (wCons (wVar 0) wNil)) (gwName 3) (wSeq (wAsg (wLstO wNil) (gwName 4)) (wSeq (wFor (wiLst (wVar 2)) (gwName 5) (wIf (wTst (wBin PEq (wCB PLen (wCons (wLc (wiLst (wBin PIx (wVar 1) (wVar 3))) 6 (wTst (wBin PNotIn (wVar 6) (wVar 5))) (wVar 6)) wNil)) (wC (.int 0)))) (wDrop (wApp (wVar 4) (wCons (wBin PAdd (wVar 5) (wTup (wCons (wVar 3) wNil))) wNil))) wNext)) (wFrz 4 (wAsg (wBin PAdd (wVar 2) (wVar 4)) (gwName 2)))))) (wRet (wVar 2))))
def N_L_lowers : List Str := ["_law_n", "_law_below", "_law_found", "_law_p", "_law_more", "_law_one", "_law_q"]
def W_L_drawn_lowers (S1 S2 : Spd) : WS := (wSeq (wAsg (wCall S1 (wCons (wVar 0) (wCons (wBin PAdd (wVar 1) (wC (.int 1))) wNil))) (gwName 3)) (wSeq (wAsg (wLstO wNil) (gwName 4)) (wSeq (wFor (wiRg (wCons (wVar 3) wNil)) (gwName 5) (wDrop (wApp (wVar 4) (wCons (wLc (wiRg (wCons (wVar 5) wNil)) 8 (wTst (wBin PEq (wCall S1 (wCons (wVar 0) (wCons (wC (.int 3)) wNil))) (wC (.int 0)))) (wVar 8)) wNil)))) (wFrz 4 (wSeq (wFor (wiRg (wCons (wBin PAdd (wVar 3) (wC (.int 1))) wNil)) (gwName 6) (wSeq (wAsg (wCall S2 (wCons (wVar 3) (wCons (wVar 4) wNil))) (gwName 7)) (wSeq (wIf (wTst (wBin PLe (wCB PLen (wCons (wVar 7) wNil)) (wVar 2))) (wRet (wVar 7)) wNext) (wAsg (wBin PSub (wVar 3) (wC (.int 1))) (gwName 3))))) (wRet (wLst (wCons (wTup wNil) wNil))))))))
def N_L_drawn_lowers : List Str := ["_law_hand_here", "_law_points", "_law_most", "_law_n", "_law_below", "_law_p", "_law_turn", "_law_sets", "_law_q"]
def W_L_shuffled (S1 : Spd) : WS := (wSeq (wAsg (wLstOfO (wCons (wVar 1) wNil)) (gwName 2)) (wSeq (wAsg (wLstO wNil) (gwName 3)) (wSeq (wFor (wiRg (wCons (wCB PLen (wCons (wVar 1) wNil)) wNil)) (gwName 4) (wDrop (wApp (wVar 3) (wCons (wPop (wVar 2) (wCons (wCall S1 (wCons (wVar 0) (wCons (wCB PLen (wCons (wVar 2) wNil)) wNil))) wNil)) wNil)))) (wRet (wVar 3)))))
def N_L_shuffled : List Str := ["_law_hand_here", "_law_things", "_law_left", "_law_told", "_law_turn"]
def W_L_join_all : WS := (wSeq (wAsg (wBin PIx (wVar 0) (wC (.int 4))) (gwName 2)) (wSeq (wFor (wiLst (wVar 1)) (gwName 3) (wAsg (wBin PIx (wBin PIx (wBin PIx (wVar 0) (wC (.int 2))) (wVar 2)) (wVar 3)) (gwName 2))) (wRet (wVar 2))))
def N_L_join_all : List Str := ["_law_plain_here", "_law_worths", "_law_total", "_law_worth"]
def W_L_meet_all : WS := (wSeq (wAsg (wBin PIx (wVar 0) (wC (.int 5))) (gwName 2)) (wSeq (wFor (wiLst (wVar 1)) (gwName 3) (wAsg (wBin PIx (wBin PIx (wBin PIx (wVar 0) (wC (.int 3))) (wVar 2)) (wVar 3)) (gwName 2))) (wRet (wVar 2))))
def N_L_meet_all : List Str := ["_law_plain_here", "_law_worths", "_law_total", "_law_worth"]
def W_L_value : WS := (wRet (wBin PIx (wBin PIx (wBin PIx (wVar 0) (wC (.int 2))) (wBin PIx (wVar 1) (wC (.int 0)))) (wBin PIx (wBin PIx (wBin PIx (wVar 0) (wC (.int 3))) (wBin PIx (wVar 1) (wC (.int 1)))) (wVar 2))))
def N_L_value : List Str := ["_law_plain_here", "_law_context", "_law_worth"]
def W_L_hangs : WS := (wRet (wNotV (wBin PIx (wBin PIx (wBin PIx (wVar 0) (wC (.int 1))) (wBin PIx (wVar 1) (wC (.int 1)))) (wBin PIx (wVar 1) (wC (.int 0))))))
def N_L_hangs : List Str := ["_law_plain_here", "_law_context"]
def W_L_inner : WS := (wSeq (wIf (wTst (wBin PEq (wVar 1) (wC (.str "joins")))) (wRet (wTup (wCons (wBin PIx (wBin PIx (wBin PIx (wVar 0) (wC (.int 2))) (wBin PIx (wVar 2) (wC (.int 0)))) (wBin PIx (wBin PIx (wBin PIx (wVar 0) (wC (.int 3))) (wBin PIx (wVar 2) (wC (.int 1)))) (wVar 3))) (wCons (wBin PIx (wVar 2) (wC (.int 1))) wNil)))) wNext) (wRet (wTup (wCons (wBin PIx (wVar 2) (wC (.int 0))) (wCons (wBin PIx (wBin PIx (wBin PIx (wVar 0) (wC (.int 3))) (wBin PIx (wVar 2) (wC (.int 1)))) (wVar 3)) wNil)))))
def N_L_inner : List Str := ["_law_plain_here", "_law_sign", "_law_context", "_law_so_far"]
def W_L_drawn_tree (S1 S2 : Spd) : WS := (wSeq (wAsg (wLRg (wVar 1)) (gwName 4)) (wSeq (wIf (wTst (wBin PEq (wCall S1 (wCons (wVar 0) (wCons (wC (.int 2)) wNil))) (wC (.int 0)))) (wAsg (wLc (wiRg (wCons (wC (.int 3)) wNil)) 5 wYes (wCall S1 (wCons (wVar 0) (wCons (wVar 1) wNil)))) (gwName 4)) wNext) (wRet (wCall S2 (wCons (wVar 0) (wCons (wVar 4) (wCons (wVar 2) (wCons (wVar 3) (wCons (wCall S1 (wCons (wVar 0) (wCons (wC (.int 2)) wNil))) wNil)))))))))
def N_L_drawn_tree : List Str := ["_law_hand_here", "_law_size", "_law_budget", "_law_deep", "_law_pool", "_law_k"]
def W_L_grown (S1 S2 S3 : Spd) : WS := (wSeq (wIf (wOrT (wTst (wBin PEq (wVar 3) (wC (.int 0)))) (wOrT (wTst (wBin PLe (wVar 2) (wC (.int 1)))) (wAndT (wTst (wBin PLt (wVar 2) (wC (.int 10)))) (wTst (wBin PEq (wCall S1 (wCons (wVar 0) (wCons (wC (.int 7)) wNil))) (wC (.int 0))))))) (wRet (wBin PIx (wVar 1) (wCall S1 (wCons (wVar 0) (wCons (wCB PLen (wCons (wVar 1) wNil)) wNil))))) wNext) (wSeq (wAsg (wBin PAdd (wC (.int 1)) (wCall S1 (wCons (wVar 0) (wCons (wC (.int 3)) wNil)))) (gwName 5)) (wSeq (wIf (wAndT (wTst (wBin PEq (wVar 5) (wC (.int 1)))) (wTst (wBin PGt (wCall S1 (wCons (wVar 0) (wCons (wC (.int 3)) wNil))) (wC (.int 0))))) (wAsg (wC (.int 2)) (gwName 5)) wNext) (wSeq (wAsg (wCB PMin (wCons (wVar 5) (wCons (wVar 2) wNil))) (gwName 5)) (wSeq (wAsg (wLstO wNil) (gwName 6)) (wSeq (wAsg (wVar 2) (gwName 7)) (wSeq (wFor (wiRg (wCons (wVar 5) wNil)) (gwName 8) (wSeq (wAsg (wCB PMax (wCons (wC (.int 1)) (wCons (wBin PDiv (wBin PSub (wVar 7) (wBin PSub (wBin PSub (wVar 5) (wC (.int 1))) (wVar 8))) (wBin PSub (wVar 5) (wVar 8))) wNil))) (gwName 9)) (wSeq (wIf (wAndT (wTst (wBin PLt (wVar 8) (wBin PSub (wVar 5) (wC (.int 1))))) (wTst (wBin PEq (wCall S1 (wCons (wVar 0) (wCons (wC (.int 2)) wNil))) (wC (.int 0))))) (wAsg (wCB PMax (wCons (wC (.int 1)) (wCons (wBin PSub (wVar 7) (wBin PSub (wBin PSub (wVar 5) (wC (.int 1))) (wVar 8))) wNil))) (gwName 9)) wNext) (wSeq (wAsg (wBin PSub (wC (.int 1)) (wVar 4)) (gwName 10)) (wSeq (wIf (wTst (wBin PEq (wCall S1 (wCons (wVar 0) (wCons (wC (.int 6)) wNil))) (wC (.int 0)))) (wAsg (wVar 4) (gwName 10)) wNext) (wSeq (wAsg (wCall S2 (wCons (wVar 0) (wCons (wVar 1) (wCons (wVar 9) (wCons (wBin PSub (wVar 3) (wC (.int 1))) (wCons (wVar 10) wNil)))))) (gwName 11)) (wSeq (wDrop (wApp (wVar 6) (wCons (wVar 11) wNil))) (wAsg (wCB PMax (wCons (wC (.int 1)) (wCons (wBin PSub (wVar 7) (wCall S3 (wCons (wVar 11) wNil))) wNil))) (gwName 7))))))))) (wRet (wTup (wCons (wBin PIx (wTup (wCons (wC (.str "joins")) (wCons (wC (.str "meets")) wNil))) (wVar 4)) (wCons (wCB PTupOf (wCons (wVar 6) wNil)) wNil)))))))))))
def N_L_grown : List Str := ["_law_hand_here", "_law_pool", "_law_budget", "_law_deep", "_law_turn", "_law_many", "_law_children", "_law_left", "_law_k", "_law_share", "_law_next_turn", "_law_child"]
def W_L_leaves (S1 S2 : Spd) : WS := (wSeq (wIf (wTst (wCall S1 (wCons (wVar 0) wNil))) (wRet (wC (.int 1))) wNext) (wRet (wCB PSum (wCons (wLc (wiTup (wBin PIx (wVar 0) (wC (.int 1)))) 1 wYes (wCall S2 (wCons (wVar 1) wNil))) wNil))))
def N_L_leaves : List Str := ["_law_shape", "_law_child"]
def W_L_plain (S1 S2 S3 S4 : Spd) : WS := (wSeq (wIf (wTst (wCall S1 (wCons (wVar 1) wNil))) (wRet (wVar 1)) wNext) (wSeq (wAsg (wLc (wiTup (wBin PIx (wVar 1) (wC (.int 1)))) 3 wYes (wCall S2 (wCons (wVar 0) (wCons (wVar 3) wNil)))) (gwName 2)) (wSeq (wIf (wTst (wBin PEq (wBin PIx (wVar 1) (wC (.int 0))) (wC (.str "joins")))) (wRet (wCall S3 (wCons (wVar 0) (wCons (wVar 2) wNil)))) wNext) (wRet (wCall S4 (wCons (wVar 0) (wCons (wVar 2) wNil)))))))
def N_L_plain : List Str := ["_law_plain_here", "_law_shape", "_law_worths", "_law_child"]
def W_L_dist_plain (S1 S2 S3 S4 : Spd) : WS := (wSeq (wAsg (wCall S1 (wCons (wVar 0) (wCons (wC (.int 4)) (wCons (wC (.int 10)) wNil)))) (gwName 1)) (wSeq (wIf (wAndT (wTst (wBin PEq (wCB PLen (wCons (wVar 1) wNil)) (wC (.int 1)))) (wTst (wBin PGt (wCall S2 (wCons (wVar 0) (wCons (wC (.int 6)) wNil))) (wC (.int 0))))) (wAsg (wLst (wCons (wTup wNil) (wCons (wTup (wCons (wC (.int 0)) wNil)) (wCons (wTup (wCons (wC (.int 1)) wNil)) (wCons (wTup (wCons (wC (.int 0)) (wCons (wC (.int 1)) wNil))) wNil))))) (gwName 1)) wNext) (wRet (wCall S3 (wCons (wCall S4 (wCons (wVar 0) (wCons (wVar 1) wNil))) wNil)))))
def N_L_dist_plain : List Str := ["_law_hand_here", "_law_sets"]
def W_L_made_lattice (S1 : Spd) : WS := (wRet (wMake .lat S1 [] (wCons (wLc (wiLst (wBin PIx (wVar 0) (wC (.int 1)))) 1 wYes (wCB PLstOf (wCons (wVar 1) wNil))) wNil)))
def N_L_made_lattice : List Str := ["_law_plain_here", "_law_row"]
def W_L_ends (S1 S2 : Spd) : WS := (wSeq (wIf (wTst (wCall S1 (wCons (wVar 0) wNil))) (wRet (wLst (wCons (wVar 1) wNil))) wNext) (wSeq (wAsg (wLst wNil) (gwName 2)) (wSeq (wFor (wiRg (wCons (wCB PLen (wCons (wBin PIx (wVar 0) (wC (.int 1))) wNil)) wNil)) (gwName 3) (wAsg (wBin PAdd (wVar 2) (wCall S2 (wCons (wBin PIx (wBin PIx (wVar 0) (wC (.int 1))) (wVar 3)) (wCons (wBin PAdd (wVar 1) (wTup (wCons (wVar 3) wNil))) wNil)))) (gwName 2))) (wRet (wVar 2)))))
def N_L_ends : List Str := ["_law_shape", "_law_road", "_law_told", "_law_at"]
def W_L_agreeing (S1 : Spd) : WS := (wSeq (wAsg (wCall S1 (wCons (wVar 0) (wCons (wVar 1) (wCons (wVar 2) wNil)))) (gwName 3)) (wRet (wLc (wiRg (wCons (wBin PIx (wVar 0) (wC (.int 0))) wNil)) 4 (wTst (wBin PEq (wCall S1 (wCons (wVar 0) (wCons (wVar 1) (wCons (wVar 4) wNil)))) (wVar 3))) (wVar 4))))
def N_L_agreeing : List Str := ["_law_plain_here", "_law_context", "_law_worth", "_law_due", "_law_other"]
def W_L_upper (S1 S2 : Spd) : WS := (wSeq (wIf (wOrT (wTst (wBin PEq (wVar 1) (wC (.int 0)))) (wTst (wCall S1 (wCons (wVar 0) wNil)))) (wRet (wC (.int 0))) wNext) (wRet (wTup (wCons (wBin PIx (wVar 0) (wC (.int 0))) (wCons (wCB PTupOf (wCons (wLc (wiTup (wBin PIx (wVar 0) (wC (.int 1)))) 2 wYes (wCall S2 (wCons (wVar 2) (wCons (wBin PSub (wVar 1) (wC (.int 1))) wNil)))) wNil)) wNil)))))
def N_L_upper : List Str := ["_law_shape", "_law_depth", "_law_child"]
def W_L_fold (S1 S2 S3 S4 : Spd) : WS := (wSeq (wIf (wTst (wCall S1 (wCons (wVar 1) wNil))) (wRet (wDGet2 (wVar 2) (wVar 4) (wVar 3))) wNext) (wSeq (wAsg (wLc (wiRg (wCons (wCB PLen (wCons (wBin PIx (wVar 1) (wC (.int 1))) wNil)) wNil)) 6 wYes (wCall S2 (wCons (wVar 0) (wCons (wBin PIx (wBin PIx (wVar 1) (wC (.int 1))) (wVar 6)) (wCons (wVar 2) (wCons (wVar 3) (wCons (wBin PAdd (wVar 4) (wTup (wCons (wVar 6) wNil))) wNil))))))) (gwName 5)) (wSeq (wIf (wTst (wBin PEq (wBin PIx (wVar 1) (wC (.int 0))) (wC (.str "joins")))) (wRet (wCall S3 (wCons (wVar 0) (wCons (wVar 5) wNil)))) wNext) (wRet (wCall S4 (wCons (wVar 0) (wCons (wVar 5) wNil)))))))
def N_L_fold : List Str := ["_law_plain_here", "_law_upper_here", "_law_known", "_law_fill", "_law_road", "_law_worths", "_law_at"]
def W_L_spot_context (S1 S2 S3 S4 : Spd) : WS := (wSeq (wAsg (wTup (wCons (wBin PIx (wVar 0) (wC (.int 4))) (wCons (wBin PIx (wVar 0) (wC (.int 5))) wNil))) (gwName 4)) (wSeq (wAsg (wVar 1) (gwName 5)) (wSeq (wFor (wiRg (wCons (wCB PLen (wCons (wVar 3) wNil)) wNil)) (gwName 6) (wSeq (wAsg (wBin PIx (wVar 0) (wC (.int 5))) (gwName 7)) (wSeq (wIf (wTst (wBin PEq (wBin PIx (wVar 5) (wC (.int 0))) (wC (.str "joins")))) (wAsg (wBin PIx (wVar 0) (wC (.int 4))) (gwName 7)) wNext) (wSeq (wAsg (wLc (wiRg (wCons (wCB PLen (wCons (wBin PIx (wVar 5) (wC (.int 1))) wNil)) wNil)) 11 (wTst (wBin PNe (wVar 11) (wBin PIx (wVar 3) (wVar 6)))) (wVar 11)) (gwName 8)) (wSeq (wAsg (wLc (wiLst (wVar 8)) 11 wYes (wCall S1 (wCons (wVar 0) (wCons (wBin PIx (wBin PIx (wVar 5) (wC (.int 1))) (wVar 11)) (wCons (wVar 2) (wCons (wVar 7) (wCons (wBin PAdd (wSl (wVar 3) wONone (wOSome (wVar 6))) (wTup (wCons (wVar 11) wNil))) wNil))))))) (gwName 9)) (wSeq (wAsg (wCall S2 (wCons (wVar 0) (wCons (wVar 9) wNil))) (gwName 10)) (wSeq (wIf (wTst (wBin PEq (wBin PIx (wVar 5) (wC (.int 0))) (wC (.str "joins")))) (wAsg (wCall S3 (wCons (wVar 0) (wCons (wVar 9) wNil))) (gwName 10)) wNext) (wSeq (wAsg (wCall S4 (wCons (wVar 0) (wCons (wBin PIx (wVar 5) (wC (.int 0))) (wCons (wVar 4) (wCons (wVar 10) wNil))))) (gwName 4)) (wAsg (wBin PIx (wBin PIx (wVar 5) (wC (.int 1))) (wBin PIx (wVar 3) (wVar 6))) (gwName 5)))))))))) (wRet (wVar 4)))))
def N_L_spot_context : List Str := ["_law_plain_here", "_law_upper_here", "_law_known", "_law_road", "_law_context", "_law_node", "_law_k", "_law_fill", "_law_others", "_law_worths", "_law_so_far", "_law_at"]
def W_L_hanging (S1 S2 : Spd) : WS := (wSeq (wAsg (wLc (wiLst (wVar 3)) 5 (wTst (wDIn true (wVar 5) (wVar 2))) (wVar 5)) (gwName 4)) (wRet (wLc (wiLst (wVar 4)) 5 (wTst (wCall S1 (wCons (wVar 0) (wCons (wCall S2 (wCons (wVar 0) (wCons (wVar 1) (wCons (wVar 2) (wCons (wVar 5) wNil))))) wNil)))) (wVar 5))))
def N_L_hanging : List Str := ["_law_plain_here", "_law_upper_here", "_law_known", "_law_spots", "_law_left", "_law_road"]
def W_L_weave (S1 S2 S3 S4 S5 S6 S7 S8 S9 S10 S11 S12 : Spd) : WS := (wSeq (wAsg (wCall S1 (wCons (wVar 4) (wCons (wTup wNil) wNil))) (gwName 7)) (wSeq (wAsg (wMakeO .pool S2 [] (wCons (wVar 2) (wCons (wMake .gro S3 [.int 0] (wCons (wVar 3) wNil)) (wCons (wC (.int 1)) wNil)))) (gwName 8)) (wSeq (wAsg (wLstO (wCons (wC .non) (wCons (wC .non) wNil))) (gwName 9)) (wSeq (wAsg wDNewT (gwName 10)) (wSeq (wAsg (wC (.int 0)) (gwName 11)) (wSeq (wFor (wiLst (wVar 6)) (gwName 12) (wIf (wTst (wBin (PIsN false) (wBin PIx (wVar 9) (wVar 12)) (wC .non))) (wSeq (wAsg (wCall S4 (wCons (wVar 1) (wCons (wVar 4) (wCons (wVar 10) (wCons (wVar 7) wNil))))) (gwName 13)) (wSeq (wAsg (wLcS (wVar 9) 14 (wTst (wBin (PIsN true) (wVar 14) (wC .non))) (wBin PIx (wVar 14) (wC (.int 1)))) (gwName 15)) (wSeq (wAsg (wLc (wiLst (wVar 13)) 16 (wTst (wBin PNotIn (wVar 16) (wVar 15))) (wVar 16)) (gwName 17)) (wSeq (wAsg (wMeth .pool S5 (wVar 8) (wCons (wVar 12) wNil)) (gwName 14)) (wIf (wTst (wBin PEq (wCB PLen (wCons (wVar 17) wNil)) (wC (.int 0)))) (wIf (wTst (wBin (PIsN true) (wVar 14) (wC .non))) (wRet (wC (.bl false))) wNext) (wSeq (wAsg (wCall S6 (wCons (wVar 1) (wCons (wVar 4) (wCons (wVar 10) (wCons (wBin PIx (wVar 17) (wC (.int 0))) wNil))))) (gwName 18)) (wSeq (wIf (wOrT (wTst (wBin (PIsN false) (wVar 14) (wC .non))) (wTst (wBin PNe (wLst (wCons (wFld .job 0 (wVar 14)) (wCons (wFld .job 1 (wVar 14)) (wCons (wFld .job 2 (wVar 14)) (wCons (wFld .job 3 (wVar 14)) wNil))))) (wLst (wCons (wVar 11) (wCons (wVar 12) (wCons (wBin PIx (wVar 17) (wC (.int 0))) (wCons (wVar 18) wNil)))))))) (wRet (wC (.bl false))) wNext) (wSeq (wAsg (wLst (wCons (wVar 11) (wCons (wBin PIx (wVar 17) (wC (.int 0))) (wCons (wVar 18) wNil)))) (gwSub (wVar 9) (wVar 12))) (wAsg (wBin PAdd (wVar 11) (wC (.int 1))) (gwName 11)))))))))) (wSeq (wAsg (wBin PIx (wVar 9) (wVar 12)) (gwUnl 3 (gwCons (gwName 19) (gwCons (gwName 16) (gwCons (gwName 18) gwNil))))) (wSeq (wAsg (wCall S7 (wCons (wVar 1) (wCons (wVar 18) (wCons (wDGet (wVar 5) (wVar 16)) wNil)))) (gwName 20)) (wSeq (wAsg (wBin PIx (wVar 20) (wCall S8 (wCons (wVar 0) (wCons (wCB PLen (wCons (wVar 20) wNil)) wNil)))) (gwName 21)) (wSeq (wIf (wTst (wBin (PIsB true) (wMeth .pool S9 (wVar 8) (wCons (wVar 19) (wCons (wVar 21) wNil))) (wC (.bl true)))) (wRet (wC (.bl false))) wNext) (wSeq (wDPut (wVar 10) (wVar 16) (wVar 21)) (wAsg (wC .non) (gwSub (wVar 9) (wVar 12)))))))))) (wSeq (wAsg (wCall S10 (wCons (wVar 1) (wCons (wFld .tre 0 (wVar 3)) wNil))) (gwName 21)) (wRet (wAndV (wBin (PIsB false) (wProp .pool S11 (wVar 8)) (wC (.bl true))) (wAndV (wBin PEq (wMeth .pool S12 (wVar 8) (wCons (wTup wNil) wNil)) (wTup (wCons (wVar 21) (wCons (wVar 21) wNil)))) (wBin PEq (wFld .pool 5 (wVar 8)) (wCB PTupOf (wCons (wCB PSorted (wCons (wItems (wVar 10)) wNil)) wNil)))))))))))))
def N_L_weave : List Str := ["_law_hand_here", "_law_plain_here", "_law_lattice_here", "_law_tree", "_law_upper_here", "_law_truths", "_law_turns", "_law_spots", "_law_pool", "_law_held", "_law_known", "_law_taken", "_law_who", "_law_hanging_here", "_law_job", "_law_busy", "_law_road", "_law_free", "_law_context", "_law_number", "_law_choices", "_law_worth"]
def W_law (S1 S2 S3 S4 S5 S6 S7 S8 S9 : Spd) : WS := (wSeq (wAsg (wCall S1 (wCons (wVar 0) wNil)) (gwName 1)) (wSeq (wAsg (wCall S2 (wCons (wVar 1) wNil)) (gwName 2)) (wSeq (wAsg (wCall S3 (wCons (wVar 2) wNil)) (gwName 3)) (wSeq (wAsg (wLc (wiRg (wCons (wBin PAdd (wC (.int 2)) (wCall S4 (wCons (wVar 1) (wCons (wC (.int 2)) wNil)))) wNil)) 12 wYes (wCall S5 (wCons (wVar 1) (wCons (wBin PIx (wVar 2) (wC (.int 0))) (wCons (wC (.int 4)) (wCons (wC (.int 2)) wNil)))))) (gwName 4)) (wSeq (wAsg (wTup (wCons (wBin PIx (wTup (wCons (wC (.str "joins")) (wCons (wC (.str "meets")) wNil))) (wCall S4 (wCons (wVar 1) (wCons (wC (.int 2)) wNil)))) (wCons (wCB PTupOf (wCons (wVar 4) wNil)) wNil))) (gwName 5)) (wSeq (wAsg (wMake .tre S6 [] (wCons (wVar 5) wNil)) (gwName 6)) (wSeq (wAsg wDNewT (gwName 7)) (wSeq (wFor (wiRg (wCons (wCB PLen (wCons (wVar 4) wNil)) wNil)) (gwName 8) (wDPut (wVar 7) (wTup (wCons (wVar 8) wNil)) (wCall S7 (wCons (wVar 2) (wCons (wBin PIx (wVar 4) (wVar 8)) wNil))))) (wSeq (wAsg (wCall S8 (wCons (wVar 5) (wCons (wC (.int 1)) wNil))) (gwName 9)) (wSeq (wFor (wiRg (wCons (wC (.int 32)) wNil)) (gwName 10) (wSeq (wAsg (wBin PAdd (wBin PAdd (wLst (wCons (wC (.int 0)) wNil)) (wLc (wiRg (wCons (wC (.int 5)) wNil)) 12 wYes (wBin PMod (wBin PDiv (wCB PInt (wCons (wVar 10) wNil)) (wBin PIx (wTup (wCons (wC (.int 1)) (wCons (wC (.int 2)) (wCons (wC (.int 4)) (wCons (wC (.int 8)) (wCons (wC (.int 16)) wNil)))))) (wVar 12))) (wC (.int 2))))) (wBin PMul (wLst (wCons (wC (.int 1)) (wCons (wC (.int 0)) wNil))) (wC (.int 5)))) (gwName 11)) (wIf (wNotT (wTst (wCall S9 (wCons (wVar 1) (wCons (wVar 2) (wCons (wVar 3) (wCons (wVar 6) (wCons (wVar 9) (wCons (wVar 7) (wCons (wVar 11) wNil)))))))))) (wRet (wC (.bl false))) wNext))) (wRet (wC (.bl true)))))))))))))
def N_law : List Str := ["_law_script", "_law_hand_here", "_law_plain_here", "_law_lattice_here", "_law_children", "_law_shape", "_law_tree", "_law_truths", "_law_at", "_law_upper_here", "_law_number", "_law_turns", "_law_k"]
end Cw

set_option Elab.async false
set_option linter.all false
set_option maxRecDepth 100000
set_option maxHeartbeats 0
namespace Cw
open PySem L2 L2.DX PyProof.Rows PySem.Spec DL
/-! ### the defs of the text, the facts that the head tells -/
def top (i : Nat) : Stmt := PySem.Challenge.pw_cutworths_k77_whole_all_weavings_of_two.main.body.getD i (.Pass ⟨0, 0, 0, 0⟩)
def dd (a : Str × Option Str) (n q : Str) (s : Stmt) : He.DefD := ⟨a, n, q, defArgs s, defBody s, defScope s, [], []⟩
def d_check_worth : He.DefD := dd ("check_worth", none) "check_worth" "check_worth" (top 16)
def d_checked_rows : He.DefD := dd ("checked_rows", none) "checked_rows" "checked_rows" (top 17)
def d_check_order : He.DefD := dd ("check_order", none) "check_order" "check_order" (top 18)
def d_turned_rows : He.DefD := dd ("turned_rows", none) "turned_rows" "turned_rows" (top 19)
def d_least_above : He.DefD := dd ("least_above", none) "least_above" "least_above" (top 20)
def d_bound_rows : He.DefD := dd ("bound_rows", none) "bound_rows" "bound_rows" (top 21)
def d_lower_covers : He.DefD := dd ("lower_covers", none) "lower_covers" "lower_covers" (top 22)
def d_Lattice_init : He.DefD := dd ("__init__", (some "Lattice")) "__init__" "Lattice.__init__" (inClass (top 23) 0)
def d_Lattice_at_most : He.DefD := dd ("at_most", (some "Lattice")) "at_most" "Lattice.at_most" (inClass (top 23) 1)
def d_Lattice_join_of : He.DefD := dd ("join_of", (some "Lattice")) "join_of" "Lattice.join_of" (inClass (top 23) 2)
def d_Lattice_meet_of : He.DefD := dd ("meet_of", (some "Lattice")) "meet_of" "Lattice.meet_of" (inClass (top 23) 3)
def d_Lattice_join_all : He.DefD := dd ("join_all", (some "Lattice")) "join_all" "Lattice.join_all" (inClass (top 23) 4)
def d_Lattice_meet_all : He.DefD := dd ("meet_all", (some "Lattice")) "meet_all" "Lattice.meet_all" (inClass (top 23) 5)
def d_is_number : He.DefD := dd ("is_number", none) "is_number" "is_number" (top 25)
def d_check_node : He.DefD := dd ("check_node", none) "check_node" "check_node" (top 31)
def d_lay_out : He.DefD := dd ("lay_out", none) "lay_out" "lay_out" (top 32)
def d_Tree_init : He.DefD := dd ("__init__", (some "Tree")) "__init__" "Tree.__init__" (inClass (top 33) 0)
def d_Tree_node_at : He.DefD := dd ("node_at", (some "Tree")) "node_at" "Tree.node_at" (inClass (top 33) 5)
def d_folded_worths : He.DefD := dd ("folded_worths", none) "folded_worths" "folded_worths" (top 34)
def d_is_number_below : He.DefD := dd ("is_number_below", none) "is_number_below" "is_number_below" (top 36)
def d_worths_beneath : He.DefD := dd ("worths_beneath", none) "worths_beneath" "worths_beneath" (top 37)
def d_folds_of_others : He.DefD := dd ("folds_of_others", none) "folds_of_others" "folds_of_others" (top 38)
def d_contexts_beneath : He.DefD := dd ("contexts_beneath", none) "contexts_beneath" "contexts_beneath" (top 39)
def d_Asking_init : He.DefD := dd ("__init__", (some "Asking")) "__init__" "Asking.__init__" (inClass (top 40) 0)
def d_Asking_refresh_all : He.DefD := dd ("refresh_all", (some "Asking")) "refresh_all" "Asking.refresh_all" (inClass (top 40) 1)
def d_Asking_refuse_leaf : He.DefD := dd ("refuse_leaf", (some "Asking")) "refuse_leaf" "Asking.refuse_leaf" (inClass (top 40) 2)
def d_Asking_leaf_hangs : He.DefD := dd ("leaf_hangs", (some "Asking")) "leaf_hangs" "Asking.leaf_hangs" (inClass (top 40) 3)
def d_Asking_set_kept : He.DefD := dd ("set_kept", (some "Asking")) "set_kept" "Asking.set_kept" (inClass (top 40) 4)
def d_Asking_note_leaf : He.DefD := dd ("note_leaf", (some "Asking")) "note_leaf" "Asking.note_leaf" (inClass (top 40) 6)
def d_Asking_hanging_now : He.DefD := dd ("hanging_now", (some "Asking")) "hanging_now" "Asking.hanging_now" (inClass (top 40) 8)
def d_Asking_bounds_at : He.DefD := dd ("bounds_at", (some "Asking")) "bounds_at" "Asking.bounds_at" (inClass (top 40) 10)
def d_Asking_context_at : He.DefD := dd ("context_at", (some "Asking")) "context_at" "Asking.context_at" (inClass (top 40) 11)
def d_stands_in : He.DefD := dd ("stands_in", none) "stands_in" "stands_in" (top 42)
def d_Job_init : He.DefD := dd ("__init__", (some "Job")) "__init__" "Job.__init__" (inClass (top 47) 0)
def d_upper_shape : He.DefD := dd ("upper_shape", none) "upper_shape" "upper_shape" (top 48)
def d_Pool_init : He.DefD := dd ("__init__", (some "Pool")) "__init__" "Pool.__init__" (inClass (top 49) 0)
def d_Pool_is_done : He.DefD := dd ("is_done", (some "Pool")) "is_done" "Pool.is_done" (inClass (top 49) 1)
def d_Pool_spot_bounds : He.DefD := dd ("spot_bounds", (some "Pool")) "spot_bounds" "Pool.spot_bounds" (inClass (top 49) 2)
def d_Pool_spot_context : He.DefD := dd ("spot_context", (some "Pool")) "spot_context" "Pool.spot_context" (inClass (top 49) 3)
def d_Pool_hanging_spots : He.DefD := dd ("hanging_spots", (some "Pool")) "hanging_spots" "Pool.hanging_spots" (inClass (top 49) 4)
def d_Pool_take_job : He.DefD := dd ("take_job", (some "Pool")) "take_job" "Pool.take_job" (inClass (top 49) 5)
def d_Pool_job_at : He.DefD := dd ("job_at", (some "Pool")) "job_at" "Pool.job_at" (inClass (top 49) 6)
def d_Pool_set_standing : He.DefD := dd ("set_standing", (some "Pool")) "set_standing" "Pool.set_standing" (inClass (top 49) 7)
def d_Pool_note_spot : He.DefD := dd ("note_spot", (some "Pool")) "note_spot" "Pool.note_spot" (inClass (top 49) 9)
def d_Pool_give_job : He.DefD := dd ("give_job", (some "Pool")) "give_job" "Pool.give_job" (inClass (top 49) 10)
def d_TreeGround_init : He.DefD := { dd ("__init__", (some "TreeGround")) "__init__" "TreeGround.__init__" (inClass (top 51) 0) with dfl := [.int 0] }
def d_TreeGround_root_node : He.DefD := dd ("root_node", (some "TreeGround")) "root_node" "TreeGround.root_node" (inClass (top 51) 1)
def d_TreeGround_is_end : He.DefD := dd ("is_end", (some "TreeGround")) "is_end" "TreeGround.is_end" (inClass (top 51) 2)
def d_TreeGround_sign_of : He.DefD := dd ("sign_of", (some "TreeGround")) "sign_of" "TreeGround.sign_of" (inClass (top 51) 4)
def d_TreeGround_children_of : He.DefD := dd ("children_of", (some "TreeGround")) "children_of" "TreeGround.children_of" (inClass (top 51) 5)
def d_L_hand : He.DefD := dd ("_law_hand", none) "_law_hand" "_law_hand" (top 53)
def d_L_mixed : He.DefD := dd ("_law_mixed", none) "_law_mixed" "_law_mixed" (top 54)
def d_L_take : He.DefD := dd ("_law_take", none) "_law_take" "_law_take" (top 55)
def d_L_whole : He.DefD := dd ("_law_whole", none) "_law_whole" "_law_whole" (top 56)
def d_L_lattice : He.DefD := dd ("_law_lattice", none) "_law_lattice" "_law_lattice" (top 57)
def d_L_bound : He.DefD := dd ("_law_bound", none) "_law_bound" "_law_bound" (top 58)
def d_L_lowers : He.DefD := dd ("_law_lowers", none) "_law_lowers" "_law_lowers" (top 59)
def d_L_drawn_lowers : He.DefD := dd ("_law_drawn_lowers", none) "_law_drawn_lowers" "_law_drawn_lowers" (top 60)
def d_L_shuffled : He.DefD := dd ("_law_shuffled", none) "_law_shuffled" "_law_shuffled" (top 61)
def d_L_join_all : He.DefD := dd ("_law_join_all", none) "_law_join_all" "_law_join_all" (top 62)
def d_L_meet_all : He.DefD := dd ("_law_meet_all", none) "_law_meet_all" "_law_meet_all" (top 63)
def d_L_value : He.DefD := dd ("_law_value", none) "_law_value" "_law_value" (top 64)
def d_L_hangs : He.DefD := dd ("_law_hangs", none) "_law_hangs" "_law_hangs" (top 65)
def d_L_inner : He.DefD := dd ("_law_inner", none) "_law_inner" "_law_inner" (top 66)
def d_L_drawn_tree : He.DefD := dd ("_law_drawn_tree", none) "_law_drawn_tree" "_law_drawn_tree" (top 67)
def d_L_grown : He.DefD := dd ("_law_grown", none) "_law_grown" "_law_grown" (top 68)
def d_L_leaves : He.DefD := dd ("_law_leaves", none) "_law_leaves" "_law_leaves" (top 69)
def d_L_plain : He.DefD := dd ("_law_plain", none) "_law_plain" "_law_plain" (top 70)
def d_L_dist_plain : He.DefD := dd ("_law_dist_plain", none) "_law_dist_plain" "_law_dist_plain" (top 71)
def d_L_made_lattice : He.DefD := dd ("_law_made_lattice", none) "_law_made_lattice" "_law_made_lattice" (top 72)
def d_L_ends : He.DefD := dd ("_law_ends", none) "_law_ends" "_law_ends" (top 73)
def d_L_agreeing : He.DefD := dd ("_law_agreeing", none) "_law_agreeing" "_law_agreeing" (top 74)
def d_L_upper : He.DefD := dd ("_law_upper", none) "_law_upper" "_law_upper" (top 75)
def d_L_fold : He.DefD := dd ("_law_fold", none) "_law_fold" "_law_fold" (top 76)
def d_L_spot_context : He.DefD := dd ("_law_spot_context", none) "_law_spot_context" "_law_spot_context" (top 77)
def d_L_hanging : He.DefD := dd ("_law_hanging", none) "_law_hanging" "_law_hanging" (top 78)
def d_L_weave : He.DefD := dd ("_law_weave", none) "_law_weave" "_law_weave" (top 79)
def d_law : He.DefD := dd ("law", none) "law" "law" (top 80)
def fnDefs : List He.DefD := [d_check_worth, d_checked_rows, d_check_order, d_turned_rows, d_least_above, d_bound_rows, d_lower_covers, d_Lattice_init, d_Lattice_at_most, d_Lattice_join_of, d_Lattice_meet_of, d_Lattice_join_all, d_Lattice_meet_all, d_is_number, d_check_node, d_lay_out, d_Tree_init, d_Tree_node_at, d_folded_worths, d_is_number_below, d_worths_beneath, d_folds_of_others, d_contexts_beneath, d_Asking_init, d_Asking_refresh_all, d_Asking_refuse_leaf, d_Asking_leaf_hangs, d_Asking_set_kept, d_Asking_note_leaf, d_Asking_hanging_now, d_Asking_bounds_at, d_Asking_context_at, d_stands_in, d_Job_init, d_upper_shape, d_Pool_init, d_Pool_is_done, d_Pool_spot_bounds, d_Pool_spot_context, d_Pool_hanging_spots, d_Pool_take_job, d_Pool_job_at, d_Pool_set_standing, d_Pool_note_spot, d_Pool_give_job, d_TreeGround_init, d_TreeGround_root_node, d_TreeGround_is_end, d_TreeGround_sign_of, d_TreeGround_children_of, d_L_hand, d_L_mixed, d_L_take, d_L_whole, d_L_lattice, d_L_bound, d_L_lowers, d_L_drawn_lowers, d_L_shuffled, d_L_join_all, d_L_meet_all, d_L_value, d_L_hangs, d_L_inner, d_L_drawn_tree, d_L_grown, d_L_leaves, d_L_plain, d_L_dist_plain, d_L_made_lattice, d_L_ends, d_L_agreeing, d_L_upper, d_L_fold, d_L_spot_context, d_L_hanging, d_L_weave, d_law]
def frees : List Str := ["isinstance", "int", "bool", "str", "list", "tuple", "len", "enumerate", "range", "all", "any", "reversed", "sorted", "abs", "min", "max", "sum"]
def gints : List (Str × Int) := [("MOST_LEAVES", 4000), ("MOST_DEEP", 40), ("MOST_WORTH", 15), ("MOST_DEPTH", 40), ("MOST_SPOTS", 400), ("MOST_HAND", 7)]
def gdefs1 : List Str := ["check_worth", "checked_rows", "check_order", "turned_rows", "least_above", "bound_rows", "lower_covers", "is_number", "check_node", "lay_out", "folded_worths", "is_number_below", "worths_beneath", "folds_of_others", "contexts_beneath", "stands_in", "upper_shape", "_law_hand", "_law_mixed", "_law_take"]
def gdefs2 : List Str := ["_law_whole", "_law_lattice", "_law_bound", "_law_lowers", "_law_drawn_lowers", "_law_shuffled", "_law_join_all", "_law_meet_all", "_law_value", "_law_hangs", "_law_inner", "_law_drawn_tree", "_law_grown", "_law_leaves", "_law_plain", "_law_dist_plain", "_law_made_lattice", "_law_ends", "_law_agreeing", "_law_upper", "_law_fold", "_law_spot_context", "_law_hanging", "_law_weave", "law"]
def gdefs : List Str := gdefs1 ++ gdefs2
def meths : List (Cl × Str) := [(.lat, "at_most"), (.lat, "join_of"), (.lat, "meet_of"), (.lat, "join_all"), (.lat, "meet_all"), (.tre, "node_at"), (.ask, "refresh_all"), (.ask, "refuse_leaf"), (.ask, "leaf_hangs"), (.ask, "set_kept"), (.ask, "note_leaf"), (.ask, "hanging_now"), (.ask, "bounds_at"), (.ask, "context_at"), (.pool, "spot_bounds"), (.pool, "spot_context"), (.pool, "hanging_spots"), (.pool, "take_job"), (.pool, "job_at"), (.pool, "set_standing"), (.pool, "note_spot"), (.pool, "give_job"), (.gro, "root_node"), (.gro, "is_end"), (.gro, "sign_of"), (.gro, "children_of")]
def _root_.DL.Cl.cname : Cl → Str
  | .lat => "Lattice"
  | .tre => "Tree"
  | .ask => "Asking"
  | .job => "Job"
  | .pool => "Pool"
  | .gro => "TreeGround"
structure Txt (K : PySem.W.Frag) (mg : Str → Option Value) (ca : Cl → Addr) (fad : Str × Option Str → Addr) : Prop where
  cls : ∀ c, Cls K (ca c)
  na : ∀ (c : Cl) (i : Nat) {f : Str}, c.names[i]? = some f → NoAttr K (ca c) f
  fr : ∀ (x : Str), x ∈ frees → mg x = none
  gi : ∀ p ∈ gints, ∃ u, mg p.1 = some (.int p.2 u)
  side0 : ∃ q, mg "SIDE_SIGNS" = some (.ref q) ∧ ∀ H, SqT K H q [.str "joins", .str "meets"]
  fn : ∀ (i : Nat) {d : He.DefD}, fnDefs[i]? = some d → ∃ fd, FunD K d.name d.qual d.params d.body d.scope (d.dvs K) (d.kws K) (fad d.at_) fd
  gl : ∀ (i : Nat) {x : Str}, gdefs[i]? = some x → mg x = some (.ref (fad (x, none)))
  me : ∀ (i : Nat) {p : Cl × Str}, meths[i]? = some p → Meth K (ca p.1) p.2 (fad (p.2, some p.1.cname))
  mkr : ∀ c : Cl, Mk K (ca c) (fad ("__init__", some c.cname)) ∧ mg c.cname = some (.ref (ca c))
  pr : ∃ p, PropOf K (ca .pool) "is_done" p (fad ("is_done", some "Pool"))
theorem Txt.side {K : PySem.W.Frag} {mg : Str → Option Value} {ca : Cl → Addr} {fad : Str × Option Str → Addr} (T : Txt K mg ca fad) : True ∧ mg "SIDE_SIGNS" = some (.ref (Classical.choose T.side0)) ∧ ∀ H, SqT K H (Classical.choose T.side0) [.str "joins", .str "meets"] :=
  ⟨trivial, (Classical.choose_spec T.side0).1, (Classical.choose_spec T.side0).2⟩
theorem de_neg1 {X : Cx} {ca : Cl → Addr} {k : Nat} {p q : Pos} : DE X ca (.UnaryOp .USub (.Constant (.int 1) k p) q) (tUn (rU fun i => .int (-i)) (tC (.int 1))) (wC (.int (-1))) :=
  ⟨pe_un un_neg pe_int, fun σ e B st H w er Φ Q kk h => ⟨1, rfl, kk B st H _ (.int (-1)) (Go.refl w.ex) w rfl h⟩⟩
theorem room65 {k : Nat} {A : Around} (r : Room k A) : A.units + 65 < cLine := by have := r.un; omega
theorem room1 {k : Nat} {A : Around} (r : Room k A) : A.units + 1 < cLine := by have := r.un; omega
theorem b_int : bootBuiltins "int" = some (.type "int") := by decide +kernel
theorem b_bool : bootBuiltins "bool" = some (.type "bool") := by decide +kernel
theorem b_str : bootBuiltins "str" = some (.type "str") := by decide +kernel
theorem b_list : bootBuiltins "list" = some (.type "list") := by decide +kernel
theorem b_tuple : bootBuiltins "tuple" = some (.type "tuple") := by decide +kernel
theorem b_range : bootBuiltins "range" = some (.type "range") := by decide +kernel
theorem b_len : bootBuiltins "len" = some (.builtin "len") := by decide +kernel
theorem b_abs : bootBuiltins "abs" = some (.builtin "abs") := by decide +kernel
theorem b_max : bootBuiltins "max" = some (.builtin "max") := by decide +kernel
theorem b_min : bootBuiltins "min" = some (.builtin "min") := by decide +kernel
theorem b_sum : bootBuiltins "sum" = some (.builtin "sum") := by decide +kernel
theorem b_all : bootBuiltins "all" = some (.builtin "all") := by decide +kernel
theorem b_any : bootBuiltins "any" = some (.builtin "any") := by decide +kernel
theorem b_sorted : bootBuiltins "sorted" = some (.builtin "sorted") := by decide +kernel
end Cw

set_option Elab.async false
set_option linter.all false
set_option maxRecDepth 100000
set_option maxHeartbeats 0
/-! ### the head: what is looked at -/
namespace Cw
open PySem PySem.Spec PyProof.Rows L2 DL
abbrev R : PySem.W.OpenRow := PySem.W.OpenLaw.row PySem.Challenge.rw_cutworths_k77_whole_all_weavings_of_two
abbrev qv : Program := PySem.W.view R.prog [80]
def namesA : List PySem.Str := ["_wall", "WorthError", "BadLattice", "NoWorth", "BadTree", "NoRoad", "TooMany", "NoLeaf", "Again", "BadDepth", "BadHand", "Busy", "NoJob", "Given", "check_worth", "checked_rows", "check_order", "turned_rows", "least_above", "bound_rows", "lower_covers", "Lattice", "is_number", "MOST_LEAVES"]
def namesB : List PySem.Str := ["MOST_DEEP", "MOST_WORTH", "SIDE_SIGNS", "check_node", "lay_out", "Tree", "folded_worths", "is_number_below", "worths_beneath", "folds_of_others", "contexts_beneath", "Asking", "stands_in", "MOST_DEPTH", "MOST_SPOTS", "MOST_HAND", "Job", "upper_shape", "Pool", "TreeGround", "_law_hand", "_law_mixed", "_law_take", "_law_whole"]
def namesC : List PySem.Str := ["_law_lattice", "_law_bound", "_law_lowers", "_law_drawn_lowers", "_law_shuffled", "_law_join_all", "_law_meet_all", "_law_value", "_law_hangs", "_law_inner", "_law_drawn_tree", "_law_grown", "_law_leaves", "_law_plain", "_law_dist_plain", "_law_made_lattice", "_law_ends", "_law_agreeing", "_law_upper", "_law_fold", "_law_spot_context", "_law_hanging", "_law_weave"]
def names : List PySem.Str := namesA ++ (namesB ++ namesC)
/-- the getter behind the property is_done -/
def getA (K : PySem.W.Frag) : Addr := match PySem.W.recIn K (He.ma K (He.ga K "Pool") "is_done") "property" with
  | some (.ref g :: _) => g
  | _ => 0
def clsL : List Cl := [.lat, .tre, .ask, .job, .pool, .gro]
theorem clsL_all (c : Cl) : c ∈ clsL := by cases c <;> simp [clsL]
/-- a def under the head's own key -/
def keyH (d : He.DefD) : He.DefD := match d.at_ with
  | (m, some c) => { d with at_ := (c, some m) }
  | _ => d
def fnH : List He.DefD := (fnDefs.filter fun d => !(d.qual == ("Pool.is_done" : Str))).map keyH
def faH : List He.Fa := clsL.map (fun c => He.Fa.cls c.cname) ++ (clsL.flatMap (fun c => c.names.map fun f => He.Fa.noat c.cname f) ++ (frees.map He.Fa.free ++ (gints.map (fun p => He.Fa.int p.1 p.2) ++ (gdefs.map He.Fa.glo ++ (clsL.map (fun c => He.Fa.glo c.cname) ++ ([He.Fa.glo "SIDE_SIGNS"] ++ (meths.map (fun p => He.Fa.meth p.1.cname p.2) ++ clsL.map fun c => He.Fa.mkr c.cname)))))))
/-- a def at an address -/
def seenAt (K : PySem.W.Frag) (a : Addr) : He.FnW := match K.lookup a with
  | some o => (match o.data with
    | .func fd => some (fd.name, fd.qualname, fd.params, fd.body, fd.scope, fd.globals, fd.closure, fd.builtins)
    | _ => none)
  | none => none
def fitAt (K : PySem.W.Frag) (a : Addr) (d : He.DefD) : Bool := PySem.W.keepIn K (.ref a) && (match K.lookup a with
  | some o => (match o.data with
    | .func fd => PySem.W.codeIn K fd.code d.qual && (He.dflB K fd.defaults (d.dvs K) && He.kwdB K fd.kwdefaults (d.kws K))
    | _ => false)
  | none => false)
theorem fun_at {K : PySem.W.Frag} {a : Addr} {d : He.DefD} (e : seenAt K a = d.val) (c : fitAt K a d = true) : ∃ fd, FunD K d.name d.qual d.params d.body d.scope (d.dvs K) (d.kws K) a fd := by
  have ⟨kp, c2⟩ := He.ba c
  unfold seenAt at e
  cases q : K.lookup a with
  | none => rw [q] at c2; cases c2
  | some o =>
    rw [q] at c2 e
    obtain ⟨oc, od, dt, osl⟩ := o
    cases dt
    case func fd =>
      obtain ⟨y1, y2, y3, y4, y5, y6, y7, y8, y9, y10, y11, y12, y13, y14, y15⟩ := fd
      have e : (some (y1, y2, y3, y4, y5, y6, y7, y15) : He.FnW) = d.val := e
      unfold He.DefD.val at e
      simp only [Option.some.injEq, Prod.mk.injEq] at e
      obtain ⟨rfl, rfl, rfl, rfl, rfl, rfl, rfl, rfl⟩ := e
      have ⟨k1, k2⟩ := He.ba (show (PySem.W.codeIn K y13 d.qual && (He.dflB K y8 (d.dvs K) && He.kwdB K y9 (d.kws K))) = true from c2)
      have ⟨k3, k4⟩ := He.ba k2
      exact ⟨_, ⟨oc, od, y8, y9, y10, y11, y12, y13, y14, osl, rfl, q, k1, He.dflB_ok k3, He.kwdB_ok k4⟩, kp⟩
    all_goals cases c2
/-- SIDE_SIGNS, the property -/
def moreH (K : PySem.W.Frag) : Bool := He.tupB K "SIDE_SIGNS" [.str "joins", .str "meets"] && (He.eqO (PySem.W.findIn K (.ref (He.ga K "Pool")) "is_done") (some (some (.ref (He.ma K (He.ga K "Pool") "is_done")))) &&
  (He.eqO (PySem.W.specialIn K (.ref (He.ma K (He.ga K "Pool") "is_done")) "__get__") (some (some (.builtin "property.__get__"))) && (decide (PySem.W.takesIn K (.ref (He.ma K (He.ga K "Pool") "is_done")) = some true) &&
    ((match PySem.W.recIn K (He.ma K (He.ga K "Pool") "is_done") "property" with
      | some (.ref _ :: _) => true
      | _ => false) && fitAt K (getA K) d_Pool_is_done))))
abbrev AlQ : Type := Bool × (List He.FnW × He.FnW)
def obsK (K : PySem.W.Frag) : AlQ := ((faH.all fun f => f.ok K) && ((fnH.all fun d => d.ok K) && moreH K), (fnH.map fun d => He.fnW K d.at_, seenAt K (getA K)))
def valK : AlQ := (true, (fnH.map He.DefD.val, d_Pool_is_done.val))
/-! what is looked at: the module's names, the classes' dicts, their methods, the code objects -/
def refD (g : Addr → Option Obj) (a : Addr) : List Addr := match g a with
  | some o => (match o.data with
    | .dict es _ => es.toList.flatMap fun e => He.refV e.val
    | _ => [])
  | none => []
def dicts (g : Addr → Option Obj) (as : List Addr) : List Addr := as.flatMap fun a => match g a with
  | some o => (match o.data with
    | .cls cd => [cd.ns]
    | _ => [])
  | none => []
def codes (g : Addr → Option Obj) (as : List Addr) : List Addr := as.flatMap fun a => match g a with
  | some o => (match o.data with
    | .func fd => He.refV fd.code ++ (He.refV fd.defaults ++ He.refV fd.kwdefaults)
    | .fields vs => (vs.toList.take 1).flatMap He.refV
    | _ => [])
  | none => []
def asQ (g : Addr → Option Obj) : List Addr :=
  let m := refD g mainGlobals
  let c := dicts g m
  let n := c.flatMap (refD g)
  let k := codes g m
  let l := codes g n
  mainGlobals :: (m ++ (c ++ (n ++ (l ++ (k ++ codes g l)))))
def partH (g : Addr → Option Obj) : PySem.W.Frag := He.frG g (asQ g)
def hk : PySem.W.Hook where
  α := AlQ
  obs := fun s => obsK (partH s.heap.get?)
  val := fun _ => valK
  says := fun _ h => ∃ K : PySem.W.Frag, K.In h ∧ obsK K = valK
  of := fun _ _ e => ⟨_, He.frG_in, e⟩
  keeps := fun _ _ _ ⟨K, hK, c⟩ k => ⟨K, PySem.W.Frag.In.keeps hK k, c⟩
def ob (s : PySem.W.SharedT) : AlQ := obsK (partH (HandSHeadRun.getT s))
theorem ob_eq (s : PySem.W.SharedT) : ob s = hk.obs s.abs := by
  have e : HandSHeadRun.getT s = s.abs.heap.get? := funext (HandSHeadRun.getT_eq s)
  show obsK (partH (HandSHeadRun.getT s)) = obsK (partH s.abs.heap.get?)
  rw [e]
end Cw

set_option Elab.async false
set_option linter.all false
set_option maxRecDepth 100000
set_option maxHeartbeats 0
namespace Cw
open PySem PySem.Spec PyProof.Rows L2 DL
/-! ### the run of the top: its looks, and what is looked at -/
theorem run_looks (w : World) : HandSHeadRun.RunEq R qv PySem.W.Hook.none (fun _ => ()) 20000 names w := by
  intro os
  kernel_rfl
theorem run_obs (w : World) (os : OsState) : (HandSHeadRun.endF (HandSHeadRun.stepQ (HandSHeadRun.denQ HandSHeadRun.tabQ) R.prog w) 20000 R.prog w os).map ob = some valK := by
  kernel_rfl
theorem map_two {α β γ δ : Type} {o : Option α} {f : α → β} {g : α → γ} {h : α → δ} {b : β} {c : γ} {u : Unit} {d : δ} (a : o.map (fun s => (f s, g s, ())) = some (b, c, u)) (e : o.map h = some d) : o.map (fun s => (f s, g s, h s)) = some (b, c, d) := by
  cases o with
  | none => cases a
  | some s =>
    have a : some (f s, g s, ()) = some (b, c, u) := a
    have e : some (h s) = some d := e
    show some (f s, g s, h s) = some (b, c, d)
    injection a with a
    injection a with a1 a
    injection a with a2 a3
    injection e with e
    rw [a1, a2, e]
theorem run (w : World) : HandSHeadRun.RunEq R qv hk ob 20000 names w := fun os => map_two (run_looks w os) (run_obs w os)
end Cw

set_option Elab.async false
set_option linter.all false
set_option maxRecDepth 100000
set_option maxHeartbeats 0
/-! ### the looks at the law and at the text -/
namespace CwEnd
open PySem PySem.W PySem.Calls PyProof.Rows
abbrev R : OpenRow := OpenLaw.row PySem.Challenge.rw_cutworths_k77_whole_all_weavings_of_two
abbrev qv : Program := view R.prog [80]
abbrev dL : DefRec := HandSHeadRun.topDef R.prog 80
theorem e1 : opening R.prog = plainProg R.prog.main.scope.names := by kernel_rfl
theorem e2 : ∀ s, fenceModules? R.prog s = some s := fun s => by kernel_rfl
theorem e3 : defOf qv R.name = some (dL, []) := by kernel_rfl
theorem e4 : R.prog.theDef R.name = some (dL.params, dL.body, dL.scope) := by kernel_rfl
theorem e5 : kwWritten? dL.params.kwonlyargs dL.params.kw_defaults = some [] := by kernel_rfl
theorem e6 : (chainsOk qv && opensWell R.prog && (frees R.toRowW && R.within.isEmpty)) = true := by decide +kernel
theorem e7 : R.prog.bare := ⟨rfl, rfl, rfl, rfl, rfl, by decide +kernel⟩
theorem e8 : R.toRowW.promised := by w_witness2
/-- what is left to show -/
theorem begun (h : R.wellSaid = true -> R.Holds) : PySem.Challenge.rw_cutworths_k77_whole_all_weavings_of_two.Holds := by
  w_on; o_law
  exact h (by assumption)
end CwEnd

set_option Elab.async false
set_option linter.all false
set_option maxRecDepth 100000
set_option maxHeartbeats 0
namespace Cw
open PySem L2 L2.DX PyProof.Rows PySem.Spec DL
section
variable {P : Program} {w : World} {K : PySem.W.Frag} {mg : Str → Option Value} {base : Heap} {ca : Cl → Addr} {fad : Str × Option Str → Addr}
theorem sc_check_worth : FnScope N_check_worth ["lattice", "worth"] d_check_worth.scope := ⟨rfl, rfl, rfl, by decide +kernel, rfl, by decide +kernel, by decide +kernel⟩
theorem wk_check_worth {k : Nat} {spd  : Spd} (T : Txt K mg ca fad)  (h : ∀ ds st Φ, spd ds st Φ → ds.length = 2 ∧ W_check_worth  (endD Φ) (startD N_check_worth ds) st) : C8.Cal P w K mg base (k + 2) "check_worth" (SpOf K ca spd) [] := by
  obtain ⟨fd, F⟩ := T.fn 0 (d := d_check_worth) rfl
  have nd : (N_check_worth).Nodup := sc_check_worth.nd
  have ok : FnOk P w K mg base CX0 (k + 2) (fad d_check_worth.at_) fd ["lattice", "worth"] (SpOf K ca spd) := fn_ok F sc_check_worth (fun cdv A outer s H E hr => ⟨_, by
    have u64 := hr.units
    have u65 := room65 hr
    have u1 := room1 hr
    exact (dss_cons (ds_if (dt_w (dw_or (dt_not (dt_val (de_is isInt_ok (T.fr "isinstance" (by decide +kernel)) (T.fr "int" (by decide +kernel)) b_int (de_var 1)))) (dw_or (dt_val (de_is isBool_ok (T.fr "isinstance" (by decide +kernel)) (T.fr "bool" (by decide +kernel)) b_bool (de_var 1))) (dw_or1 (dt_not (dt_chain od_le od_lt de_int (de_var 1) (de_fld .lat 1 (T.cls _) (T.na .lat 1 rfl) (de_var 0)))))))) dss_never dss_nil) (dss_one (ds_ret (de_var 1))))⟩) h
  have b : Binds K fd ["lattice", "worth"] [] := F.bindsN fun _ _ _ _ _ _ us hl => match us, hl with | [_, _], _ => rfl
  exact ⟨_, fd, _, [], ok, T.gl 0 rfl, F.kp, b, .nil⟩
theorem sc_checked_rows : FnScope N_checked_rows ["table"] d_checked_rows.scope := ⟨rfl, rfl, rfl, by decide +kernel, rfl, by decide +kernel, by decide +kernel⟩
theorem wk_checked_rows {k : Nat} {spd  : Spd} (T : Txt K mg ca fad)  (h : ∀ ds st Φ, spd ds st Φ → ds.length = 1 ∧ W_checked_rows  (endD Φ) (startD N_checked_rows ds) st) : C8.Cal P w K mg base (k + 2) "checked_rows" (SpOf K ca spd) [] := by
  obtain ⟨fd, F⟩ := T.fn 1 (d := d_checked_rows) rfl
  have nd : (N_checked_rows).Nodup := sc_checked_rows.nd
  have ok : FnOk P w K mg base CX0 (k + 2) (fad d_checked_rows.at_) fd ["table"] (SpOf K ca spd) := fn_ok F sc_checked_rows (fun cdv A outer s H E hr => ⟨_, by
    have u64 := hr.units
    have u65 := room65 hr
    have u1 := room1 hr
    exact (dss_cons (ds_if (dt_w (dw_or (dt_not (dt_val (de_isLT (T.fr "isinstance" (by decide +kernel)) (T.fr "list" (by decide +kernel)) (T.fr "tuple" (by decide +kernel)) (de_var 0)))) (dw_or1 (dt_not (dt_chain od_le od_le de_int (de_cB call_len_seq sc_len (T.fr "len" (by decide +kernel)) b_len (da_cons (de_var 0) da_nil)) de_int))))) dss_never dss_nil) (dss_cons (ds_set 1 nd (de_lstO da_nil)) (dss_cons (ds_for (di_enL (T.fr "enumerate" (by decide +kernel)) (da_cons (de_var 0) da_nil)) (dg_tup 2 (dgs_cons (dg_name 2 nd) (dgs_cons (dg_name 3 nd) dgs_nil))) (dss_cons (ds_if (dt_w (dw_or (dt_not (dt_val (de_isLT (T.fr "isinstance" (by decide +kernel)) (T.fr "list" (by decide +kernel)) (T.fr "tuple" (by decide +kernel)) (de_var 3)))) (dw_or1 (dt_cmp (od_ne u64) (de_cB call_len_seq sc_len (T.fr "len" (by decide +kernel)) b_len (da_cons (de_var 3) da_nil)) (de_cB call_len_seq sc_len (T.fr "len" (by decide +kernel)) b_len (da_cons (de_var 0) da_nil)))))) dss_never dss_nil) (dss_cons (ds_for (di_enL (T.fr "enumerate" (by decide +kernel)) (da_cons (de_var 3) da_nil)) (dg_tup 2 (dgs_cons (dg_name 4 nd) (dgs_cons (dg_name 5 nd) dgs_nil))) (dss_one (ds_if (dt_not (dt_val (de_is isBool_ok (T.fr "isinstance" (by decide +kernel)) (T.fr "bool" (by decide +kernel)) b_bool (de_var 5)))) dss_never dss_nil))) (dss_one (ds_expr (de_app (de_var 1) (de_cT call_tuple_of sc_tupOf (T.fr "tuple" (by decide +kernel)) b_tuple (da_cons (de_var 3) da_nil)))))))) (dss_one (ds_ret (de_cT call_tuple_of sc_tupOf (T.fr "tuple" (by decide +kernel)) b_tuple (da_cons (de_var 1) da_nil)))))))⟩) h
  have b : Binds K fd ["table"] [] := F.bindsN fun _ _ _ _ _ _ us hl => match us, hl with | [_], _ => rfl
  exact ⟨_, fd, _, [], ok, T.gl 1 rfl, F.kp, b, .nil⟩
theorem sc_check_order : FnScope N_check_order ["table"] d_check_order.scope := ⟨rfl, rfl, rfl, by decide +kernel, rfl, by decide +kernel, by decide +kernel⟩
theorem wk_check_order {k : Nat} {spd  : Spd} (T : Txt K mg ca fad)  (h : ∀ ds st Φ, spd ds st Φ → ds.length = 1 ∧ W_check_order  (endD Φ) (startD N_check_order ds) st) : C8.Cal P w K mg base (k + 2) "check_order" (SpOf K ca spd) [] := by
  obtain ⟨fd, F⟩ := T.fn 2 (d := d_check_order) rfl
  have nd : (N_check_order).Nodup := sc_check_order.nd
  have ok : FnOk P w K mg base CX0 (k + 2) (fad d_check_order.at_) fd ["table"] (SpOf K ca spd) := fn_ok F sc_check_order (fun cdv A outer s H E hr => ⟨_, by
    have u64 := hr.units
    have u65 := room65 hr
    have u1 := room1 hr
    exact (dss_cons (ds_set 1 nd (de_lRg (T.fr "list" (by decide +kernel)) (T.fr "range" (by decide +kernel)) (de_cB call_len_seq sc_len (T.fr "len" (by decide +kernel)) b_len (da_cons (de_var 0) da_nil)))) (dss_cons (ds_for (di_lst (de_var 1)) (dg_name 2 nd) (dss_one (ds_if (dt_not (dt_val (de_ix (de_ix (de_var 0) (de_var 2)) (de_var 2)))) dss_never dss_nil))) (dss_cons (ds_for (di_lst (de_var 1)) (dg_name 2 nd) (dss_one (ds_for (di_lst (de_sl (de_var 1) (do_some (de_op od_add (de_var 2) de_int)) do_none)) (dg_name 3 nd) (dss_one (ds_if (dt_w (dw_and (dt_val (de_ix (de_ix (de_var 0) (de_var 2)) (de_var 3))) (dw_and1 (dt_val (de_ix (de_ix (de_var 0) (de_var 3)) (de_var 2)))))) dss_never dss_nil))))) (dss_one (ds_for (di_lst (de_var 1)) (dg_name 2 nd) (dss_one (ds_for (di_lst (de_var 1)) (dg_name 3 nd) (dss_one (ds_if (dt_val (de_ix (de_ix (de_var 0) (de_var 2)) (de_var 3))) (dss_one (ds_for (di_lst (de_var 1)) (dg_name 4 nd) (dss_one (ds_if (dt_w (dw_and (dt_val (de_ix (de_ix (de_var 0) (de_var 3)) (de_var 4))) (dw_and1 (dt_not (dt_val (de_ix (de_ix (de_var 0) (de_var 2)) (de_var 4))))))) dss_never dss_nil)))) dss_nil)))))))))⟩) h
  have b : Binds K fd ["table"] [] := F.bindsN fun _ _ _ _ _ _ us hl => match us, hl with | [_], _ => rfl
  exact ⟨_, fd, _, [], ok, T.gl 2 rfl, F.kp, b, .nil⟩
theorem sc_turned_rows : FnScope N_turned_rows ["table"] d_turned_rows.scope := ⟨rfl, rfl, rfl, by decide +kernel, rfl, by decide +kernel, by decide +kernel⟩
theorem wk_turned_rows {k : Nat} {spd  : Spd} (T : Txt K mg ca fad)  (h : ∀ ds st Φ, spd ds st Φ → ds.length = 1 ∧ W_turned_rows  (endD Φ) (startD N_turned_rows ds) st) : C8.Cal P w K mg base (k + 2) "turned_rows" (SpOf K ca spd) [] := by
  obtain ⟨fd, F⟩ := T.fn 3 (d := d_turned_rows) rfl
  have nd : (N_turned_rows).Nodup := sc_turned_rows.nd
  have ok : FnOk P w K mg base CX0 (k + 2) (fad d_turned_rows.at_) fd ["table"] (SpOf K ca spd) := fn_ok F sc_turned_rows (fun cdv A outer s H E hr => ⟨_, by
    have u64 := hr.units
    have u65 := room65 hr
    have u1 := room1 hr
    exact (dss_cons (ds_set 1 nd (de_lRg (T.fr "list" (by decide +kernel)) (T.fr "range" (by decide +kernel)) (de_cB call_len_seq sc_len (T.fr "len" (by decide +kernel)) b_len (da_cons (de_var 0) da_nil)))) (dss_one (ds_ret (de_cT call_tuple_of sc_tupOf (T.fr "tuple" (by decide +kernel)) b_tuple (da_cons (de_lc 2 nd (di_lst (de_var 1)) (by intro _ _ _ _ _; exact dg_name 2 nd) (by intro _ _ _ _ _; exact dts_nil) (by intro _ _ _ _ _; exact (de_cT call_tuple_of sc_tupOf (T.fr "tuple" (by decide +kernel)) b_tuple (da_cons (de_lc 3 nd (di_lst (de_var 1)) (by intro _ _ _ _ _; exact dg_name 3 nd) (by intro _ _ _ _ _; exact dts_nil) (by intro _ _ _ _ _; exact (de_ix (de_ix (de_var 0) (de_var 3)) (de_var 2))) (blkOk_by (by kernel_rfl))) da_nil))) (blkOk_by (by kernel_rfl))) da_nil)))))⟩) h
  have b : Binds K fd ["table"] [] := F.bindsN fun _ _ _ _ _ _ us hl => match us, hl with | [_], _ => rfl
  exact ⟨_, fd, _, [], ok, T.gl 3 rfl, F.kp, b, .nil⟩
theorem sc_least_above : FnScope N_least_above ["table", "one", "other"] d_least_above.scope := ⟨rfl, rfl, rfl, by decide +kernel, rfl, by decide +kernel, by decide +kernel⟩
theorem wk_least_above {k : Nat} {spd  : Spd} (T : Txt K mg ca fad)  (h : ∀ ds st Φ, spd ds st Φ → ds.length = 3 ∧ W_least_above  (endD Φ) (startD N_least_above ds) st) : C8.Cal P w K mg base (k + 2) "least_above" (SpOf K ca spd) [] := by
  obtain ⟨fd, F⟩ := T.fn 4 (d := d_least_above) rfl
  have nd : (N_least_above).Nodup := sc_least_above.nd
  have ok : FnOk P w K mg base CX0 (k + 2) (fad d_least_above.at_) fd ["table", "one", "other"] (SpOf K ca spd) := fn_ok F sc_least_above (fun cdv A outer s H E hr => ⟨_, by
    have u64 := hr.units
    have u65 := room65 hr
    have u1 := room1 hr
    exact (dss_cons (ds_setLc 4 3 nd (di_rg (T.fr "range" (by decide +kernel)) (da_cons (de_cB call_len_seq sc_len (T.fr "len" (by decide +kernel)) b_len (da_cons (de_var 0) da_nil)) da_nil)) (by intro _ _ _ _ _; exact dg_name 3 nd) (by intro _ _ _ _ _; exact (dts_one (dt_w (dw_and (dt_val (de_ix (de_ix (de_var 0) (de_var 1)) (de_var 3))) (dw_and1 (dt_val (de_ix (de_ix (de_var 0) (de_var 2)) (de_var 3)))))))) (by intro _ _ _ _ _; exact (de_var 3)) (blkOk_by (by kernel_rfl))) (dss_cons (ds_for (di_lst (de_var 4)) (dg_name 3 nd) (dss_one (ds_if (dt_val (de_cB (cr_all rfl) sc_all (T.fr "all" (by decide +kernel)) b_all (da_cons (de_lc 5 nd (di_lst (de_var 4)) (by intro _ _ _ _ _; exact dg_name 5 nd) (by intro _ _ _ _ _; exact dts_nil) (by intro _ _ _ _ _; exact (de_ix (de_ix (de_var 0) (de_var 3)) (de_var 5))) (blkOk_by (by kernel_rfl))) da_nil))) (dss_one (ds_ret (de_var 3))) dss_nil))) (dss_one (ds_ret de_non))))⟩) h
  have b : Binds K fd ["table", "one", "other"] [] := F.bindsN fun _ _ _ _ _ _ us hl => match us, hl with | [_, _, _], _ => rfl
  exact ⟨_, fd, _, [], ok, T.gl 4 rfl, F.kp, b, .nil⟩
theorem sc_bound_rows : FnScope N_bound_rows ["table", "what"] d_bound_rows.scope := ⟨rfl, rfl, rfl, by decide +kernel, rfl, by decide +kernel, by decide +kernel⟩
theorem wk_bound_rows {k : Nat} {spd S1 : Spd} (T : Txt K mg ca fad) (c1 : C8.Cal P w K mg base k "least_above" (SpOf K ca S1) []) (h : ∀ ds st Φ, spd ds st Φ → ds.length = 2 ∧ W_bound_rows S1 (endD Φ) (startD N_bound_rows ds) st) : C8.Cal P w K mg base (k + 2) "bound_rows" (SpOf K ca spd) [] := by
  obtain ⟨fd, F⟩ := T.fn 5 (d := d_bound_rows) rfl
  have nd : (N_bound_rows).Nodup := sc_bound_rows.nd
  have ok : FnOk P w K mg base CX0 (k + 2) (fad d_bound_rows.at_) fd ["table", "what"] (SpOf K ca spd) := fn_ok F sc_bound_rows (fun cdv A outer s H E hr => ⟨_, by
    have u64 := hr.units
    have u65 := room65 hr
    have u1 := room1 hr
    exact (dss_cons (ds_set 2 nd (de_lRg (T.fr "list" (by decide +kernel)) (T.fr "range" (by decide +kernel)) (de_cB call_len_seq sc_len (T.fr "len" (by decide +kernel)) b_len (da_cons (de_var 0) da_nil)))) (dss_cons (ds_setLcO 5 3 nd (di_lst (de_var 2)) (by intro _ _ _ _ _; exact dg_name 3 nd) (by intro _ _ _ _ _; exact dts_nil) (by intro _ _ _ _ _; exact (de_lcO 4 nd (di_lst (de_var 2)) (by intro _ _ _ _ _; exact dg_name 4 nd) (by intro _ _ _ _ _; exact dts_nil) (by intro _ _ _ _ _; exact (de_var 3)) (blkOk_by (by kernel_rfl)))) (blkOk_by (by kernel_rfl))) (dss_cons (ds_for (di_lst (de_var 2)) (dg_name 3 nd) (dss_one (ds_for (di_lst (de_sl (de_var 2) (do_some (de_op od_add (de_var 3) de_int)) do_none)) (dg_name 4 nd) (dss_cons (ds_set 6 nd (de_call c1 hr (da_cons (de_var 0) (da_cons (de_var 3) (da_cons (de_var 4) da_nil))) (hk := by omega))) (dss_cons (ds_if (dt_cmp od_isN (de_var 6) de_non) dss_never dss_nil) (dss_cons (ds_asg (de_var 6) (dg_sub (de_ix (de_var 5) (de_var 3)) (de_var 4))) (dss_one (ds_asg (de_var 6) (dg_sub (de_ix (de_var 5) (de_var 4)) (de_var 3)))))))))) (dss_frz 5 (dss_one (ds_ret (de_cT call_tuple_of sc_tupOf (T.fr "tuple" (by decide +kernel)) b_tuple (da_cons (de_lc 7 nd (di_lst (de_var 5)) (by intro _ _ _ _ _; exact dg_name 7 nd) (by intro _ _ _ _ _; exact dts_nil) (by intro _ _ _ _ _; exact (de_cT call_tuple_of sc_tupOf (T.fr "tuple" (by decide +kernel)) b_tuple (da_cons (de_var 7) da_nil))) (blkOk_by (by kernel_rfl))) da_nil))))))))⟩) h
  have b : Binds K fd ["table", "what"] [] := F.bindsN fun _ _ _ _ _ _ us hl => match us, hl with | [_, _], _ => rfl
  exact ⟨_, fd, _, [], ok, T.gl 5 rfl, F.kp, b, .nil⟩
theorem sc_lower_covers : FnScope N_lower_covers ["table", "worth"] d_lower_covers.scope := ⟨rfl, rfl, rfl, by decide +kernel, rfl, by decide +kernel, by decide +kernel⟩
theorem wk_lower_covers {k : Nat} {spd  : Spd} (T : Txt K mg ca fad)  (h : ∀ ds st Φ, spd ds st Φ → ds.length = 2 ∧ W_lower_covers  (endD Φ) (startD N_lower_covers ds) st) : C8.Cal P w K mg base (k + 2) "lower_covers" (SpOf K ca spd) [] := by
  obtain ⟨fd, F⟩ := T.fn 6 (d := d_lower_covers) rfl
  have nd : (N_lower_covers).Nodup := sc_lower_covers.nd
  have ok : FnOk P w K mg base CX0 (k + 2) (fad d_lower_covers.at_) fd ["table", "worth"] (SpOf K ca spd) := fn_ok F sc_lower_covers (fun cdv A outer s H E hr => ⟨_, by
    have u64 := hr.units
    have u65 := room65 hr
    have u1 := room1 hr
    exact (dss_cons (ds_set 2 nd (de_lc 3 nd (di_rg (T.fr "range" (by decide +kernel)) (da_cons (de_cB call_len_seq sc_len (T.fr "len" (by decide +kernel)) b_len (da_cons (de_var 0) da_nil)) da_nil)) (by intro _ _ _ _ _; exact dg_name 3 nd) (by intro _ _ _ _ _; exact (dts_one (dt_w (dw_and (dt_cmp (od_ne u64) (de_var 3) (de_var 1)) (dw_and1 (dt_val (de_ix (de_ix (de_var 0) (de_var 3)) (de_var 1)))))))) (by intro _ _ _ _ _; exact (de_var 3)) (blkOk_by (by kernel_rfl)))) (dss_one (ds_ret (de_cT call_tuple_of sc_tupOf (T.fr "tuple" (by decide +kernel)) b_tuple (da_cons (de_lc 3 nd (di_lst (de_var 2)) (by intro _ _ _ _ _; exact dg_name 3 nd) (by intro _ _ _ _ _; exact (dts_one (dt_not (dt_val (de_cB (cr_any rfl) sc_any (T.fr "any" (by decide +kernel)) b_any (da_cons (de_lc 4 nd (di_lst (de_var 2)) (by intro _ _ _ _ _; exact dg_name 4 nd) (by intro _ _ _ _ _; exact dts_nil) (by intro _ _ _ _ _; exact (de_and (de_cmp (od_ne u64) (de_var 4) (de_var 3)) (de_one (de_ix (de_ix (de_var 0) (de_var 3)) (de_var 4))))) (blkOk_by (by kernel_rfl))) da_nil)))))) (by intro _ _ _ _ _; exact (de_var 3)) (blkOk_by (by kernel_rfl))) da_nil)))))⟩) h
  have b : Binds K fd ["table", "worth"] [] := F.bindsN fun _ _ _ _ _ _ us hl => match us, hl with | [_, _], _ => rfl
  exact ⟨_, fd, _, [], ok, T.gl 6 rfl, F.kp, b, .nil⟩
theorem sc_Lattice_init : FnScope N_Lattice_init ["self", "table"] d_Lattice_init.scope := ⟨rfl, rfl, rfl, by decide +kernel, rfl, by decide +kernel, by decide +kernel⟩
theorem wk_Lattice_init {k : Nat} {spd S1 S2 S3 S4 S5 : Spd} (T : Txt K mg ca fad) (c1 : C8.Cal P w K mg base k "checked_rows" (SpOf K ca S1) []) (c2 : C8.Cal P w K mg base k "check_order" (SpOf K ca S2) []) (c3 : C8.Cal P w K mg base k "bound_rows" (SpOf K ca S3) []) (c4 : C8.Cal P w K mg base k "turned_rows" (SpOf K ca S4) []) (c5 : C8.Cal P w K mg base k "lower_covers" (SpOf K ca S5) []) (h : ∀ ds st Φ, spd ds st Φ → ds.length = 2 ∧ W_Lattice_init S1 S2 S3 S4 S5 (endD Φ) (startD N_Lattice_init ds) st) : C8.Mak P w K mg base (k + 2) "Lattice" (ca .lat) (SpOf K ca spd) [] := by
  obtain ⟨fd, F⟩ := T.fn 7 (d := d_Lattice_init) rfl
  have nd : (N_Lattice_init).Nodup := sc_Lattice_init.nd
  have ok : FnOk P w K mg base CX0 (k + 2) (fad d_Lattice_init.at_) fd ["self", "table"] (SpOf K ca spd) := fn_ok F sc_Lattice_init (fun cdv A outer s H E hr => ⟨_, by
    have u64 := hr.units
    have u65 := room65 hr
    have u1 := room1 hr
    exact (dss_cons (ds_fld .lat 0 (T.cls _) (T.na .lat 0 rfl) (de_var 0) (de_call c1 hr (da_cons (de_var 1) da_nil) (hk := by omega))) (dss_cons (ds_expr (de_call c2 hr (da_cons (de_fld .lat 0 (T.cls _) (T.na .lat 0 rfl) (de_var 0)) da_nil) (hk := by omega))) (dss_cons (ds_fld .lat 1 (T.cls _) (T.na .lat 1 rfl) (de_var 0) (de_cB call_len_seq sc_len (T.fr "len" (by decide +kernel)) b_len (da_cons (de_fld .lat 0 (T.cls _) (T.na .lat 0 rfl) (de_var 0)) da_nil))) (dss_cons (ds_fld .lat 2 (T.cls _) (T.na .lat 2 rfl) (de_var 0) (de_call c3 hr (da_cons (de_fld .lat 0 (T.cls _) (T.na .lat 0 rfl) (de_var 0)) (da_cons de_str da_nil)) (hk := by omega))) (dss_cons (ds_fld .lat 3 (T.cls _) (T.na .lat 3 rfl) (de_var 0) (de_call c3 hr (da_cons (de_call c4 hr (da_cons (de_fld .lat 0 (T.cls _) (T.na .lat 0 rfl) (de_var 0)) da_nil) (hk := by omega)) (da_cons de_str da_nil)) (hk := by omega))) (dss_cons (ds_set 2 nd (de_lRg (T.fr "list" (by decide +kernel)) (T.fr "range" (by decide +kernel)) (de_fld .lat 1 (T.cls _) (T.na .lat 1 rfl) (de_var 0)))) (dss_cons (ds_fld .lat 4 (T.cls _) (T.na .lat 4 rfl) (de_var 0) (de_ix (de_lc 3 nd (di_lst (de_var 2)) (by intro _ _ _ _ _; exact dg_name 3 nd) (by intro _ _ _ _ _; exact (dts_one (dt_val (de_cB (cr_allT rfl) sc_allT (T.fr "all" (by decide +kernel)) b_all (da_cons (de_ix (de_fld .lat 0 (T.cls _) (T.na .lat 0 rfl) (de_var 0)) (de_var 3)) da_nil))))) (by intro _ _ _ _ _; exact (de_var 3)) (blkOk_by (by kernel_rfl))) de_int)) (dss_cons (ds_fld .lat 5 (T.cls _) (T.na .lat 5 rfl) (de_var 0) (de_ix (de_lc 3 nd (di_lst (de_var 2)) (by intro _ _ _ _ _; exact dg_name 3 nd) (by intro _ _ _ _ _; exact (dts_one (dt_val (de_cB (cr_all rfl) sc_all (T.fr "all" (by decide +kernel)) b_all (da_cons (de_lc 4 nd (di_tup (de_fld .lat 0 (T.cls _) (T.na .lat 0 rfl) (de_var 0))) (by intro _ _ _ _ _; exact dg_name 4 nd) (by intro _ _ _ _ _; exact dts_nil) (by intro _ _ _ _ _; exact (de_ix (de_var 4) (de_var 3))) (blkOk_by (by kernel_rfl))) da_nil))))) (by intro _ _ _ _ _; exact (de_var 3)) (blkOk_by (by kernel_rfl))) de_int)) (dss_one (ds_fld .lat 6 (T.cls _) (T.na .lat 6 rfl) (de_var 0) (de_cT call_tuple_of sc_tupOf (T.fr "tuple" (by decide +kernel)) b_tuple (da_cons (de_lc 3 nd (di_lst (de_var 2)) (by intro _ _ _ _ _; exact dg_name 3 nd) (by intro _ _ _ _ _; exact (dts_one (dt_cmp (od_eq u64) (de_cB call_len_seq sc_len (T.fr "len" (by decide +kernel)) b_len (da_cons (de_call c5 hr (da_cons (de_fld .lat 0 (T.cls _) (T.na .lat 0 rfl) (de_var 0)) (da_cons (de_var 3) da_nil)) (hk := by omega)) da_nil)) de_int))) (by intro _ _ _ _ _; exact (de_var 3)) (blkOk_by (by kernel_rfl))) da_nil))))))))))))⟩) h
  have b : Binds K fd ["self", "table"] [] := F.bindsN fun _ _ _ _ _ _ us hl => match us, hl with | [_, _], _ => rfl
  exact ⟨_, fd, _, [], (T.mkr .lat).1, ok, (T.mkr .lat).2, b, .nil⟩
theorem sc_Lattice_at_most : FnScope N_Lattice_at_most ["self", "one", "other"] d_Lattice_at_most.scope := ⟨rfl, rfl, rfl, by decide +kernel, rfl, by decide +kernel, by decide +kernel⟩
theorem wk_Lattice_at_most {k : Nat} {spd  : Spd} (T : Txt K mg ca fad)  (h : ∀ ds st Φ, spd ds st Φ → ds.length = 3 ∧ W_Lattice_at_most  (endD Φ) (startD N_Lattice_at_most ds) st) : C8.Met P w K mg base (k + 2) (ca .lat) "at_most" (SpOf K ca spd) [] := by
  obtain ⟨fd, F⟩ := T.fn 8 (d := d_Lattice_at_most) rfl
  have nd : (N_Lattice_at_most).Nodup := sc_Lattice_at_most.nd
  have ok : FnOk P w K mg base CX0 (k + 2) (fad d_Lattice_at_most.at_) fd ["self", "one", "other"] (SpOf K ca spd) := fn_ok F sc_Lattice_at_most (fun cdv A outer s H E hr => ⟨_, by
    have u64 := hr.units
    have u65 := room65 hr
    have u1 := room1 hr
    exact (dss_one (ds_ret (de_ix (de_ix (de_fld .lat 0 (T.cls _) (T.na .lat 0 rfl) (de_var 0)) (de_var 1)) (de_var 2))))⟩) h
  have b : Binds K fd ["self", "one", "other"] [] := F.bindsN fun _ _ _ _ _ _ us hl => match us, hl with | [_, _, _], _ => rfl
  exact ⟨_, fd, _, [], T.cls _, T.me 0 rfl, ok, b, .nil⟩
theorem sc_Lattice_join_of : FnScope N_Lattice_join_of ["self", "one", "other"] d_Lattice_join_of.scope := ⟨rfl, rfl, rfl, by decide +kernel, rfl, by decide +kernel, by decide +kernel⟩
theorem wk_Lattice_join_of {k : Nat} {spd  : Spd} (T : Txt K mg ca fad)  (h : ∀ ds st Φ, spd ds st Φ → ds.length = 3 ∧ W_Lattice_join_of  (endD Φ) (startD N_Lattice_join_of ds) st) : C8.Met P w K mg base (k + 2) (ca .lat) "join_of" (SpOf K ca spd) [] := by
  obtain ⟨fd, F⟩ := T.fn 9 (d := d_Lattice_join_of) rfl
  have nd : (N_Lattice_join_of).Nodup := sc_Lattice_join_of.nd
  have ok : FnOk P w K mg base CX0 (k + 2) (fad d_Lattice_join_of.at_) fd ["self", "one", "other"] (SpOf K ca spd) := fn_ok F sc_Lattice_join_of (fun cdv A outer s H E hr => ⟨_, by
    have u64 := hr.units
    have u65 := room65 hr
    have u1 := room1 hr
    exact (dss_one (ds_ret (de_ix (de_ix (de_fld .lat 2 (T.cls _) (T.na .lat 2 rfl) (de_var 0)) (de_var 1)) (de_var 2))))⟩) h
  have b : Binds K fd ["self", "one", "other"] [] := F.bindsN fun _ _ _ _ _ _ us hl => match us, hl with | [_, _, _], _ => rfl
  exact ⟨_, fd, _, [], T.cls _, T.me 1 rfl, ok, b, .nil⟩
theorem sc_Lattice_meet_of : FnScope N_Lattice_meet_of ["self", "one", "other"] d_Lattice_meet_of.scope := ⟨rfl, rfl, rfl, by decide +kernel, rfl, by decide +kernel, by decide +kernel⟩
theorem wk_Lattice_meet_of {k : Nat} {spd  : Spd} (T : Txt K mg ca fad)  (h : ∀ ds st Φ, spd ds st Φ → ds.length = 3 ∧ W_Lattice_meet_of  (endD Φ) (startD N_Lattice_meet_of ds) st) : C8.Met P w K mg base (k + 2) (ca .lat) "meet_of" (SpOf K ca spd) [] := by
  obtain ⟨fd, F⟩ := T.fn 10 (d := d_Lattice_meet_of) rfl
  have nd : (N_Lattice_meet_of).Nodup := sc_Lattice_meet_of.nd
  have ok : FnOk P w K mg base CX0 (k + 2) (fad d_Lattice_meet_of.at_) fd ["self", "one", "other"] (SpOf K ca spd) := fn_ok F sc_Lattice_meet_of (fun cdv A outer s H E hr => ⟨_, by
    have u64 := hr.units
    have u65 := room65 hr
    have u1 := room1 hr
    exact (dss_one (ds_ret (de_ix (de_ix (de_fld .lat 3 (T.cls _) (T.na .lat 3 rfl) (de_var 0)) (de_var 1)) (de_var 2))))⟩) h
  have b : Binds K fd ["self", "one", "other"] [] := F.bindsN fun _ _ _ _ _ _ us hl => match us, hl with | [_, _, _], _ => rfl
  exact ⟨_, fd, _, [], T.cls _, T.me 2 rfl, ok, b, .nil⟩
theorem sc_Lattice_join_all : FnScope N_Lattice_join_all ["self", "worths"] d_Lattice_join_all.scope := ⟨rfl, rfl, rfl, by decide +kernel, rfl, by decide +kernel, by decide +kernel⟩
theorem wk_Lattice_join_all {k : Nat} {spd  : Spd} (T : Txt K mg ca fad)  (h : ∀ ds st Φ, spd ds st Φ → ds.length = 2 ∧ W_Lattice_join_all  (endD Φ) (startD N_Lattice_join_all ds) st) : C8.Met P w K mg base (k + 2) (ca .lat) "join_all" (SpOf K ca spd) [] := by
  obtain ⟨fd, F⟩ := T.fn 11 (d := d_Lattice_join_all) rfl
  have nd : (N_Lattice_join_all).Nodup := sc_Lattice_join_all.nd
  have ok : FnOk P w K mg base CX0 (k + 2) (fad d_Lattice_join_all.at_) fd ["self", "worths"] (SpOf K ca spd) := fn_ok F sc_Lattice_join_all (fun cdv A outer s H E hr => ⟨_, by
    have u64 := hr.units
    have u65 := room65 hr
    have u1 := room1 hr
    exact (dss_cons (ds_set 2 nd (de_fld .lat 4 (T.cls _) (T.na .lat 4 rfl) (de_var 0))) (dss_cons (ds_for (di_lst (de_var 1)) (dg_name 3 nd) (dss_one (ds_set 2 nd (de_ix (de_ix (de_fld .lat 2 (T.cls _) (T.na .lat 2 rfl) (de_var 0)) (de_var 2)) (de_var 3))))) (dss_one (ds_ret (de_var 2)))))⟩) h
  have b : Binds K fd ["self", "worths"] [] := F.bindsN fun _ _ _ _ _ _ us hl => match us, hl with | [_, _], _ => rfl
  exact ⟨_, fd, _, [], T.cls _, T.me 3 rfl, ok, b, .nil⟩
theorem sc_Lattice_meet_all : FnScope N_Lattice_meet_all ["self", "worths"] d_Lattice_meet_all.scope := ⟨rfl, rfl, rfl, by decide +kernel, rfl, by decide +kernel, by decide +kernel⟩
theorem wk_Lattice_meet_all {k : Nat} {spd  : Spd} (T : Txt K mg ca fad)  (h : ∀ ds st Φ, spd ds st Φ → ds.length = 2 ∧ W_Lattice_meet_all  (endD Φ) (startD N_Lattice_meet_all ds) st) : C8.Met P w K mg base (k + 2) (ca .lat) "meet_all" (SpOf K ca spd) [] := by
  obtain ⟨fd, F⟩ := T.fn 12 (d := d_Lattice_meet_all) rfl
  have nd : (N_Lattice_meet_all).Nodup := sc_Lattice_meet_all.nd
  have ok : FnOk P w K mg base CX0 (k + 2) (fad d_Lattice_meet_all.at_) fd ["self", "worths"] (SpOf K ca spd) := fn_ok F sc_Lattice_meet_all (fun cdv A outer s H E hr => ⟨_, by
    have u64 := hr.units
    have u65 := room65 hr
    have u1 := room1 hr
    exact (dss_cons (ds_set 2 nd (de_fld .lat 5 (T.cls _) (T.na .lat 5 rfl) (de_var 0))) (dss_cons (ds_for (di_lst (de_var 1)) (dg_name 3 nd) (dss_one (ds_set 2 nd (de_ix (de_ix (de_fld .lat 3 (T.cls _) (T.na .lat 3 rfl) (de_var 0)) (de_var 2)) (de_var 3))))) (dss_one (ds_ret (de_var 2)))))⟩) h
  have b : Binds K fd ["self", "worths"] [] := F.bindsN fun _ _ _ _ _ _ us hl => match us, hl with | [_, _], _ => rfl
  exact ⟨_, fd, _, [], T.cls _, T.me 4 rfl, ok, b, .nil⟩
theorem sc_is_number : FnScope N_is_number ["thing", "low", "high"] d_is_number.scope := ⟨rfl, rfl, rfl, by decide +kernel, rfl, by decide +kernel, by decide +kernel⟩
theorem wk_is_number {k : Nat} {spd  : Spd} (T : Txt K mg ca fad)  (h : ∀ ds st Φ, spd ds st Φ → ds.length = 3 ∧ W_is_number  (endD Φ) (startD N_is_number ds) st) : C8.Cal P w K mg base (k + 2) "is_number" (SpOf K ca spd) [] := by
  obtain ⟨fd, F⟩ := T.fn 13 (d := d_is_number) rfl
  have nd : (N_is_number).Nodup := sc_is_number.nd
  have ok : FnOk P w K mg base CX0 (k + 2) (fad d_is_number.at_) fd ["thing", "low", "high"] (SpOf K ca spd) := fn_ok F sc_is_number (fun cdv A outer s H E hr => ⟨_, by
    have u64 := hr.units
    have u65 := room65 hr
    have u1 := room1 hr
    exact (dss_one (ds_ret (de_and (de_is isInt_ok (T.fr "isinstance" (by decide +kernel)) (T.fr "int" (by decide +kernel)) b_int (de_var 0)) (de_and (de_not (de_is isBool_ok (T.fr "isinstance" (by decide +kernel)) (T.fr "bool" (by decide +kernel)) b_bool (de_var 0))) (de_one (de_chain od_le od_le (de_var 1) (de_var 0) (de_var 2)))))))⟩) h
  have b : Binds K fd ["thing", "low", "high"] [] := F.bindsN fun _ _ _ _ _ _ us hl => match us, hl with | [_, _, _], _ => rfl
  exact ⟨_, fd, _, [], ok, T.gl 7 rfl, F.kp, b, .nil⟩
end
end Cw

set_option Elab.async false
set_option linter.all false
set_option maxRecDepth 100000
set_option maxHeartbeats 0
namespace Cw
open PySem L2 L2.DX PyProof.Rows PySem.Spec DL
section
variable {P : Program} {w : World} {K : PySem.W.Frag} {mg : Str → Option Value} {base : Heap} {ca : Cl → Addr} {fad : Str × Option Str → Addr}
theorem sc_check_node : FnScope N_check_node ["thing", "road", "many"] d_check_node.scope := ⟨rfl, rfl, rfl, by decide +kernel, rfl, by decide +kernel, by decide +kernel⟩
theorem wk_check_node {k : Nat} {spd  : Spd} (T : Txt K mg ca fad)  (h : ∀ ds st Φ, spd ds st Φ → ds.length = 3 ∧ W_check_node  (endD Φ) (startD N_check_node ds) st) : C8.Cal P w K mg base (k + 2) "check_node" (SpOf K ca spd) [] := by
  obtain ⟨fd, F⟩ := T.fn 14 (d := d_check_node) rfl
  have nd : (N_check_node).Nodup := sc_check_node.nd
  have ok : FnOk P w K mg base CX0 (k + 2) (fad d_check_node.at_) fd ["thing", "road", "many"] (SpOf K ca spd) := fn_ok F sc_check_node (fun cdv A outer s H E hr => ⟨_, by
    have u64 := hr.units
    have u65 := room65 hr
    have u1 := room1 hr
    exact (dss_cons (ds_if (dt_cmp od_gt (de_cB call_len_seq sc_len (T.fr "len" (by decide +kernel)) b_len (da_cons (de_var 1) da_nil)) (de_gint rfl (T.gi _ (by decide +kernel : (("MOST_DEEP" : Str), (40 : Int)) ∈ gints)))) dss_never dss_nil) (dss_cons (ds_if (dt_w (dw_and (dt_val (de_is isInt_ok (T.fr "isinstance" (by decide +kernel)) (T.fr "int" (by decide +kernel)) b_int (de_var 0))) (dw_and1 (dt_not (dt_val (de_is isBool_ok (T.fr "isinstance" (by decide +kernel)) (T.fr "bool" (by decide +kernel)) b_bool (de_var 0))))))) (dss_cons (ds_if (dt_not (dt_chain od_le od_le de_int (de_var 0) (de_gint rfl (T.gi _ (by decide +kernel : (("MOST_WORTH" : Str), (15 : Int)) ∈ gints))))) dss_never dss_nil) (dss_cons (ds_if (dt_cmp (od_eq u64) (de_var 2) (de_gint rfl (T.gi _ (by decide +kernel : (("MOST_LEAVES" : Str), (4000 : Int)) ∈ gints)))) dss_never dss_nil) (dss_one ds_retN))) dss_nil) (dss_cons (ds_if (dt_w (dw_or (dt_not (dt_val (de_isLT (T.fr "isinstance" (by decide +kernel)) (T.fr "list" (by decide +kernel)) (T.fr "tuple" (by decide +kernel)) (de_var 0)))) (dw_or1 (dt_cmp (od_ne u64) (de_cB call_len_seq sc_len (T.fr "len" (by decide +kernel)) b_len (da_cons (de_var 0) da_nil)) de_int)))) dss_never dss_nil) (dss_cons (ds_if (dt_w (dw_or (dt_not (dt_val (de_is isStr_ok (T.fr "isinstance" (by decide +kernel)) (T.fr "str" (by decide +kernel)) b_str (de_ix (de_var 0) de_int)))) (dw_or1 (dt_notIn2 rfl T.side.2.1 T.side.2.2 (de_ix (de_var 0) de_int))))) dss_never dss_nil) (dss_one (ds_if (dt_w (dw_or (dt_not (dt_val (de_isLT (T.fr "isinstance" (by decide +kernel)) (T.fr "list" (by decide +kernel)) (T.fr "tuple" (by decide +kernel)) (de_ix (de_var 0) de_int)))) (dw_or1 (dt_cmp (od_eq u64) (de_cB call_len_seq sc_len (T.fr "len" (by decide +kernel)) b_len (da_cons (de_ix (de_var 0) de_int) da_nil)) de_int)))) dss_never dss_nil))))))⟩) h
  have b : Binds K fd ["thing", "road", "many"] [] := F.bindsN fun _ _ _ _ _ _ us hl => match us, hl with | [_, _, _], _ => rfl
  exact ⟨_, fd, _, [], ok, T.gl 8 rfl, F.kp, b, .nil⟩
theorem sc_lay_out : FnScope N_lay_out ["thing", "road", "nodes", "parents", "leaves"] d_lay_out.scope := ⟨rfl, rfl, rfl, by decide +kernel, rfl, by decide +kernel, by decide +kernel⟩
theorem wk_lay_out {k : Nat} {spd S1 S2 : Spd} (T : Txt K mg ca fad) (c1 : C8.Cal P w K mg base k "check_node" (SpOf K ca S1) []) (c2 : C8.Cal P w K mg base k "lay_out" (SpOf K ca S2) []) (h : ∀ ds st Φ, spd ds st Φ → ds.length = 5 ∧ W_lay_out S1 S2 (endD Φ) (startD N_lay_out ds) st) : C8.Cal P w K mg base (k + 2) "lay_out" (SpOf K ca spd) [] := by
  obtain ⟨fd, F⟩ := T.fn 15 (d := d_lay_out) rfl
  have nd : (N_lay_out).Nodup := sc_lay_out.nd
  have ok : FnOk P w K mg base CX0 (k + 2) (fad d_lay_out.at_) fd ["thing", "road", "nodes", "parents", "leaves"] (SpOf K ca spd) := fn_ok F sc_lay_out (fun cdv A outer s H E hr => ⟨_, by
    have u64 := hr.units
    have u65 := room65 hr
    have u1 := room1 hr
    exact (dss_cons (ds_expr (de_call c1 hr (da_cons (de_var 0) (da_cons (de_var 1) (da_cons (de_cB call_len_seq sc_len (T.fr "len" (by decide +kernel)) b_len (da_cons (de_var 4) da_nil)) da_nil))) (hk := by omega))) (dss_cons (ds_set 5 nd (de_cB call_len_seq sc_len (T.fr "len" (by decide +kernel)) b_len (da_cons (de_var 2) da_nil))) (dss_cons (ds_expr (de_app (de_var 2) (de_var 0))) (dss_cons (ds_if (dt_val (de_is isInt_ok (T.fr "isinstance" (by decide +kernel)) (T.fr "int" (by decide +kernel)) b_int (de_var 0))) (dss_cons (ds_expr (de_app (de_var 4) (de_var 5))) (dss_one (ds_ret (de_var 0)))) dss_nil) (dss_cons (ds_set 6 nd (de_lstO da_nil)) (dss_cons (ds_set 7 nd (de_lstO da_nil)) (dss_cons (ds_for (di_enT (T.fr "enumerate" (by decide +kernel)) (da_cons (de_ix (de_var 0) de_int) da_nil)) (dg_tup 2 (dgs_cons (dg_name 8 nd) (dgs_cons (dg_name 9 nd) dgs_nil))) (dss_cons (ds_expr (de_app (de_var 7) (de_cB call_len_seq sc_len (T.fr "len" (by decide +kernel)) b_len (da_cons (de_var 2) da_nil)))) (dss_cons (ds_expr (de_app (de_var 3) (de_var 5))) (dss_one (ds_expr (de_app (de_var 6) (de_call c2 hr (da_cons (de_var 9) (da_cons (de_op od_add (de_var 1) (de_tup (da_cons (de_var 8) da_nil))) (da_cons (de_var 2) (da_cons (de_var 3) (da_cons (de_var 4) da_nil))))) (hk := by omega)))))))) (dss_cons (ds_asg (de_tup (da_cons (de_ix (de_var 0) de_int) (da_cons (de_cT call_tuple_of sc_tupOf (T.fr "tuple" (by decide +kernel)) b_tuple (da_cons (de_var 7) da_nil)) da_nil))) (dg_sub (de_var 2) (de_var 5))) (dss_one (ds_ret (de_tup (da_cons (de_ix (de_var 0) de_int) (da_cons (de_cT call_tuple_of sc_tupOf (T.fr "tuple" (by decide +kernel)) b_tuple (da_cons (de_var 6) da_nil)) da_nil)))))))))))))⟩) h
  have b : Binds K fd ["thing", "road", "nodes", "parents", "leaves"] [] := F.bindsN fun _ _ _ _ _ _ us hl => match us, hl with | [_, _, _, _, _], _ => rfl
  exact ⟨_, fd, _, [], ok, T.gl 9 rfl, F.kp, b, .nil⟩
theorem sc_Tree_init : FnScope N_Tree_init ["self", "shape"] d_Tree_init.scope := ⟨rfl, rfl, rfl, by decide +kernel, rfl, by decide +kernel, by decide +kernel⟩
theorem wk_Tree_init {k : Nat} {spd S1 : Spd} (T : Txt K mg ca fad) (c1 : C8.Cal P w K mg base k "lay_out" (SpOf K ca S1) []) (h : ∀ ds st Φ, spd ds st Φ → ds.length = 2 ∧ W_Tree_init S1 (endD Φ) (startD N_Tree_init ds) st) : C8.Mak P w K mg base (k + 2) "Tree" (ca .tre) (SpOf K ca spd) [] := by
  obtain ⟨fd, F⟩ := T.fn 16 (d := d_Tree_init) rfl
  have nd : (N_Tree_init).Nodup := sc_Tree_init.nd
  have ok : FnOk P w K mg base CX0 (k + 2) (fad d_Tree_init.at_) fd ["self", "shape"] (SpOf K ca spd) := fn_ok F sc_Tree_init (fun cdv A outer s H E hr => ⟨_, by
    have u64 := hr.units
    have u65 := room65 hr
    have u1 := room1 hr
    exact (dss_cons (ds_set 2 nd (de_lstO da_nil)) (dss_cons (ds_set 3 nd (de_lstO (da_cons de_non da_nil))) (dss_cons (ds_set 4 nd (de_lstO da_nil)) (dss_cons (ds_fld .tre 0 (T.cls _) (T.na .tre 0 rfl) (de_var 0) (de_call c1 hr (da_cons (de_var 1) (da_cons (de_tup da_nil) (da_cons (de_var 2) (da_cons (de_var 3) (da_cons (de_var 4) da_nil))))) (hk := by omega))) (dss_cons (ds_fld .tre 1 (T.cls _) (T.na .tre 1 rfl) (de_var 0) (de_cT call_tuple_of sc_tupOf (T.fr "tuple" (by decide +kernel)) b_tuple (da_cons (de_var 2) da_nil))) (dss_cons (ds_fld .tre 2 (T.cls _) (T.na .tre 2 rfl) (de_var 0) (de_cT call_tuple_of sc_tupOf (T.fr "tuple" (by decide +kernel)) b_tuple (da_cons (de_var 3) da_nil))) (dss_cons (ds_fld .tre 3 (T.cls _) (T.na .tre 3 rfl) (de_var 0) (de_cT call_tuple_of sc_tupOf (T.fr "tuple" (by decide +kernel)) b_tuple (da_cons (de_var 4) da_nil))) (dss_one (ds_fld .tre 4 (T.cls _) (T.na .tre 4 rfl) (de_var 0) (de_cT call_tuple_of sc_tupOf (T.fr "tuple" (by decide +kernel)) b_tuple (da_cons (de_lcS 5 nd (de_var 4) (by intro _ _ _ _ _; exact dg_name 5 nd) (by intro _ _ _ _ _; exact dts_nil) (by intro _ _ _ _ _; exact (de_ix (de_var 2) (de_var 5))) (blkOk_by (by kernel_rfl))) da_nil)))))))))))⟩) h
  have b : Binds K fd ["self", "shape"] [] := F.bindsN fun _ _ _ _ _ _ us hl => match us, hl with | [_, _], _ => rfl
  exact ⟨_, fd, _, [], (T.mkr .tre).1, ok, (T.mkr .tre).2, b, .nil⟩
theorem sc_Tree_node_at : FnScope N_Tree_node_at ["self", "road"] d_Tree_node_at.scope := ⟨rfl, rfl, rfl, by decide +kernel, rfl, by decide +kernel, by decide +kernel⟩
theorem wk_Tree_node_at {k : Nat} {spd S1 : Spd} (T : Txt K mg ca fad) (c1 : C8.Cal P w K mg base k "is_number" (SpOf K ca S1) []) (h : ∀ ds st Φ, spd ds st Φ → ds.length = 2 ∧ W_Tree_node_at S1 (endD Φ) (startD N_Tree_node_at ds) st) : C8.Met P w K mg base (k + 2) (ca .tre) "node_at" (SpOf K ca spd) [] := by
  obtain ⟨fd, F⟩ := T.fn 17 (d := d_Tree_node_at) rfl
  have nd : (N_Tree_node_at).Nodup := sc_Tree_node_at.nd
  have ok : FnOk P w K mg base CX0 (k + 2) (fad d_Tree_node_at.at_) fd ["self", "road"] (SpOf K ca spd) := fn_ok F sc_Tree_node_at (fun cdv A outer s H E hr => ⟨_, by
    have u64 := hr.units
    have u65 := room65 hr
    have u1 := room1 hr
    exact (dss_cons (ds_set 2 nd de_int) (dss_cons (ds_for (di_tup (de_var 1)) (dg_name 3 nd) (dss_cons (ds_set 4 nd (de_ix (de_fld .tre 1 (T.cls _) (T.na .tre 1 rfl) (de_var 0)) (de_var 2))) (dss_cons (ds_if (dt_w (dw_or (dt_val (de_is isInt_ok (T.fr "isinstance" (by decide +kernel)) (T.fr "int" (by decide +kernel)) b_int (de_var 4))) (dw_or1 (dt_not (dt_val (de_call c1 hr (da_cons (de_var 3) (da_cons de_int (da_cons (de_op od_sub (de_cB call_len_seq sc_len (T.fr "len" (by decide +kernel)) b_len (da_cons (de_ix (de_var 4) de_int) da_nil)) de_int) da_nil))) (hk := by omega))))))) dss_never dss_nil) (dss_one (ds_set 2 nd (de_ix (de_ix (de_var 4) de_int) (de_var 3))))))) (dss_one (ds_ret (de_var 2)))))⟩) h
  have b : Binds K fd ["self", "road"] [] := F.bindsN fun _ _ _ _ _ _ us hl => match us, hl with | [_, _], _ => rfl
  exact ⟨_, fd, _, [], T.cls _, T.me 5 rfl, ok, b, .nil⟩
theorem sc_folded_worths : FnScope N_folded_worths ["lattice", "sign", "worths"] d_folded_worths.scope := ⟨rfl, rfl, rfl, by decide +kernel, rfl, by decide +kernel, by decide +kernel⟩
theorem wk_folded_worths {k : Nat} {spd S1 S2 : Spd} (T : Txt K mg ca fad) (c1 : C8.Met P w K mg base k (ca .lat) "join_all" (SpOf K ca S1) []) (c2 : C8.Met P w K mg base k (ca .lat) "meet_all" (SpOf K ca S2) []) (h : ∀ ds st Φ, spd ds st Φ → ds.length = 3 ∧ W_folded_worths S1 S2 (endD Φ) (startD N_folded_worths ds) st) : C8.Cal P w K mg base (k + 2) "folded_worths" (SpOf K ca spd) [] := by
  obtain ⟨fd, F⟩ := T.fn 18 (d := d_folded_worths) rfl
  have nd : (N_folded_worths).Nodup := sc_folded_worths.nd
  have ok : FnOk P w K mg base CX0 (k + 2) (fad d_folded_worths.at_) fd ["lattice", "sign", "worths"] (SpOf K ca spd) := fn_ok F sc_folded_worths (fun cdv A outer s H E hr => ⟨_, by
    have u64 := hr.units
    have u65 := room65 hr
    have u1 := room1 hr
    exact (dss_cons (ds_if (dt_cmp (od_eq u64) (de_var 1) de_str) (dss_one (ds_ret (de_meth .lat (by decide +kernel) c1 hr (de_var 0) (da_cons (de_var 2) da_nil) (hk := by omega)))) dss_nil) (dss_one (ds_ret (de_meth .lat (by decide +kernel) c2 hr (de_var 0) (da_cons (de_var 2) da_nil) (hk := by omega)))))⟩) h
  have b : Binds K fd ["lattice", "sign", "worths"] [] := F.bindsN fun _ _ _ _ _ _ us hl => match us, hl with | [_, _, _], _ => rfl
  exact ⟨_, fd, _, [], ok, T.gl 10 rfl, F.kp, b, .nil⟩
theorem sc_is_number_below : FnScope N_is_number_below ["thing", "limit"] d_is_number_below.scope := ⟨rfl, rfl, rfl, by decide +kernel, rfl, by decide +kernel, by decide +kernel⟩
theorem wk_is_number_below {k : Nat} {spd  : Spd} (T : Txt K mg ca fad)  (h : ∀ ds st Φ, spd ds st Φ → ds.length = 2 ∧ W_is_number_below  (endD Φ) (startD N_is_number_below ds) st) : C8.Cal P w K mg base (k + 2) "is_number_below" (SpOf K ca spd) [] := by
  obtain ⟨fd, F⟩ := T.fn 19 (d := d_is_number_below) rfl
  have nd : (N_is_number_below).Nodup := sc_is_number_below.nd
  have ok : FnOk P w K mg base CX0 (k + 2) (fad d_is_number_below.at_) fd ["thing", "limit"] (SpOf K ca spd) := fn_ok F sc_is_number_below (fun cdv A outer s H E hr => ⟨_, by
    have u64 := hr.units
    have u65 := room65 hr
    have u1 := room1 hr
    exact (dss_one (ds_ret (de_and (de_is isInt_ok (T.fr "isinstance" (by decide +kernel)) (T.fr "int" (by decide +kernel)) b_int (de_var 0)) (de_and (de_not (de_is isBool_ok (T.fr "isinstance" (by decide +kernel)) (T.fr "bool" (by decide +kernel)) b_bool (de_var 0))) (de_one (de_chain od_le od_lt de_int (de_var 0) (de_var 1)))))))⟩) h
  have b : Binds K fd ["thing", "limit"] [] := F.bindsN fun _ _ _ _ _ _ us hl => match us, hl with | [_, _], _ => rfl
  exact ⟨_, fd, _, [], ok, T.gl 11 rfl, F.kp, b, .nil⟩
theorem sc_worths_beneath : FnScope N_worths_beneath ["lattice", "tree", "worths"] d_worths_beneath.scope := ⟨rfl, rfl, rfl, by decide +kernel, rfl, by decide +kernel, by decide +kernel⟩
theorem wk_worths_beneath {k : Nat} {spd S1 : Spd} (T : Txt K mg ca fad) (c1 : C8.Cal P w K mg base k "folded_worths" (SpOf K ca S1) []) (h : ∀ ds st Φ, spd ds st Φ → ds.length = 3 ∧ W_worths_beneath S1 (endD Φ) (startD N_worths_beneath ds) st) : C8.Cal P w K mg base (k + 2) "worths_beneath" (SpOf K ca spd) [] := by
  obtain ⟨fd, F⟩ := T.fn 20 (d := d_worths_beneath) rfl
  have nd : (N_worths_beneath).Nodup := sc_worths_beneath.nd
  have ok : FnOk P w K mg base CX0 (k + 2) (fad d_worths_beneath.at_) fd ["lattice", "tree", "worths"] (SpOf K ca spd) := fn_ok F sc_worths_beneath (fun cdv A outer s H E hr => ⟨_, by
    have u64 := hr.units
    have u65 := room65 hr
    have u1 := room1 hr
    exact (dss_cons (ds_set 3 nd (de_lcO 8 nd (di_tup (de_fld .tre 1 (T.cls _) (T.na .tre 1 rfl) (de_var 1))) (by intro _ _ _ _ _; exact dg_name 8 nd) (by intro _ _ _ _ _; exact dts_nil) (by intro _ _ _ _ _; exact (de_fld .lat 4 (T.cls _) (T.na .lat 4 rfl) (de_var 0))) (blkOk_by (by kernel_rfl)))) (dss_cons (ds_for (di_enT (T.fr "enumerate" (by decide +kernel)) (da_cons (de_fld .tre 3 (T.cls _) (T.na .tre 3 rfl) (de_var 1)) da_nil)) (dg_tup 2 (dgs_cons (dg_name 4 nd) (dgs_cons (dg_name 5 nd) dgs_nil))) (dss_one (ds_asg (de_ix (de_var 2) (de_var 4)) (dg_sub (de_var 3) (de_var 5))))) (dss_cons (ds_for (di_rev (T.fr "reversed" (by decide +kernel)) (T.fr "range" (by decide +kernel)) (de_cB call_len_seq sc_len (T.fr "len" (by decide +kernel)) b_len (da_cons (de_fld .tre 1 (T.cls _) (T.na .tre 1 rfl) (de_var 1)) da_nil))) (dg_name 5 nd) (dss_one (ds_if (dt_val (de_is isTup_ok (T.fr "isinstance" (by decide +kernel)) (T.fr "tuple" (by decide +kernel)) b_tuple (de_ix (de_fld .tre 1 (T.cls _) (T.na .tre 1 rfl) (de_var 1)) (de_var 5)))) (dss_cons (ds_asg (de_ix (de_fld .tre 1 (T.cls _) (T.na .tre 1 rfl) (de_var 1)) (de_var 5)) (dg_tup 2 (dgs_cons (dg_name 6 nd) (dgs_cons (dg_name 7 nd) dgs_nil)))) (dss_one (ds_asg (de_call c1 hr (da_cons (de_var 0) (da_cons (de_var 6) (da_cons (de_lc 9 nd (di_tup (de_var 7)) (by intro _ _ _ _ _; exact dg_name 9 nd) (by intro _ _ _ _ _; exact dts_nil) (by intro _ _ _ _ _; exact (de_ix (de_var 3) (de_var 9))) (blkOk_by (by kernel_rfl))) da_nil))) (hk := by omega)) (dg_sub (de_var 3) (de_var 5))))) dss_nil))) (dss_one (ds_ret (de_var 3))))))⟩) h
  have b : Binds K fd ["lattice", "tree", "worths"] [] := F.bindsN fun _ _ _ _ _ _ us hl => match us, hl with | [_, _, _], _ => rfl
  exact ⟨_, fd, _, [], ok, T.gl 12 rfl, F.kp, b, .nil⟩
theorem sc_folds_of_others : FnScope N_folds_of_others ["lattice", "sign", "worths"] d_folds_of_others.scope := ⟨rfl, rfl, rfl, by decide +kernel, rfl, by decide +kernel, by decide +kernel⟩
theorem wk_folds_of_others {k : Nat} {spd S1 : Spd} (T : Txt K mg ca fad) (c1 : C8.Cal P w K mg base k "folded_worths" (SpOf K ca S1) []) (h : ∀ ds st Φ, spd ds st Φ → ds.length = 3 ∧ W_folds_of_others S1 (endD Φ) (startD N_folds_of_others ds) st) : C8.Cal P w K mg base (k + 2) "folds_of_others" (SpOf K ca spd) [] := by
  obtain ⟨fd, F⟩ := T.fn 21 (d := d_folds_of_others) rfl
  have nd : (N_folds_of_others).Nodup := sc_folds_of_others.nd
  have ok : FnOk P w K mg base CX0 (k + 2) (fad d_folds_of_others.at_) fd ["lattice", "sign", "worths"] (SpOf K ca spd) := fn_ok F sc_folds_of_others (fun cdv A outer s H E hr => ⟨_, by
    have u64 := hr.units
    have u65 := room65 hr
    have u1 := room1 hr
    exact (dss_cons (ds_set 3 nd (de_cB call_len_seq sc_len (T.fr "len" (by decide +kernel)) b_len (da_cons (de_var 2) da_nil))) (dss_cons (ds_set 4 nd (de_lstO (da_cons (de_call c1 hr (da_cons (de_var 0) (da_cons (de_var 1) (da_cons (de_lst da_nil) da_nil))) (hk := by omega)) da_nil))) (dss_cons (ds_for (di_lst (de_var 2)) (dg_name 5 nd) (dss_one (ds_expr (de_app (de_var 4) (de_call c1 hr (da_cons (de_var 0) (da_cons (de_var 1) (da_cons (de_lst (da_cons (de_ix (de_var 4) (de_neg1)) (da_cons (de_var 5) da_nil))) da_nil))) (hk := by omega)))))) (dss_cons (ds_set 6 nd (de_lstO da_nil)) (dss_cons (ds_set 7 nd (de_call c1 hr (da_cons (de_var 0) (da_cons (de_var 1) (da_cons (de_lst da_nil) da_nil))) (hk := by omega))) (dss_cons (ds_for (di_rev (T.fr "reversed" (by decide +kernel)) (T.fr "range" (by decide +kernel)) (de_var 3)) (dg_name 8 nd) (dss_cons (ds_expr (de_app (de_var 6) (de_call c1 hr (da_cons (de_var 0) (da_cons (de_var 1) (da_cons (de_lst (da_cons (de_ix (de_var 4) (de_var 8)) (da_cons (de_var 7) da_nil))) da_nil))) (hk := by omega)))) (dss_one (ds_set 7 nd (de_call c1 hr (da_cons (de_var 0) (da_cons (de_var 1) (da_cons (de_lst (da_cons (de_var 7) (da_cons (de_ix (de_var 2) (de_var 8)) da_nil))) da_nil))) (hk := by omega)))))) (dss_one (ds_ret (de_rev (de_var 6))))))))))⟩) h
  have b : Binds K fd ["lattice", "sign", "worths"] [] := F.bindsN fun _ _ _ _ _ _ us hl => match us, hl with | [_, _, _], _ => rfl
  exact ⟨_, fd, _, [], ok, T.gl 13 rfl, F.kp, b, .nil⟩
theorem sc_contexts_beneath : FnScope N_contexts_beneath ["lattice", "tree", "lows", "highs"] d_contexts_beneath.scope := ⟨rfl, rfl, rfl, by decide +kernel, rfl, by decide +kernel, by decide +kernel⟩
theorem wk_contexts_beneath {k : Nat} {spd S1 S2 S3 : Spd} (T : Txt K mg ca fad) (c1 : C8.Cal P w K mg base k "folds_of_others" (SpOf K ca S1) []) (c2 : C8.Met P w K mg base k (ca .lat) "meet_of" (SpOf K ca S2) []) (c3 : C8.Met P w K mg base k (ca .lat) "join_of" (SpOf K ca S3) []) (h : ∀ ds st Φ, spd ds st Φ → ds.length = 4 ∧ W_contexts_beneath S1 S2 S3 (endD Φ) (startD N_contexts_beneath ds) st) : C8.Cal P w K mg base (k + 2) "contexts_beneath" (SpOf K ca spd) [] := by
  obtain ⟨fd, F⟩ := T.fn 22 (d := d_contexts_beneath) rfl
  have nd : (N_contexts_beneath).Nodup := sc_contexts_beneath.nd
  have ok : FnOk P w K mg base CX0 (k + 2) (fad d_contexts_beneath.at_) fd ["lattice", "tree", "lows", "highs"] (SpOf K ca spd) := fn_ok F sc_contexts_beneath (fun cdv A outer s H E hr => ⟨_, by
    have u64 := hr.units
    have u65 := room65 hr
    have u1 := room1 hr
    exact (dss_cons (ds_setLcO 4 16 nd (di_tup (de_fld .tre 1 (T.cls _) (T.na .tre 1 rfl) (de_var 1))) (by intro _ _ _ _ _; exact dg_name 16 nd) (by intro _ _ _ _ _; exact dts_nil) (by intro _ _ _ _ _; exact (de_tup (da_cons (de_fld .lat 4 (T.cls _) (T.na .lat 4 rfl) (de_var 0)) (da_cons (de_fld .lat 5 (T.cls _) (T.na .lat 5 rfl) (de_var 0)) da_nil)))) (blkOk_by (by kernel_rfl))) (dss_cons (ds_for (di_enT (T.fr "enumerate" (by decide +kernel)) (da_cons (de_fld .tre 1 (T.cls _) (T.na .tre 1 rfl) (de_var 1)) da_nil)) (dg_tup 2 (dgs_cons (dg_name 5 nd) (dgs_cons (dg_name 6 nd) dgs_nil))) (dss_one (ds_if (dt_val (de_is isTup_ok (T.fr "isinstance" (by decide +kernel)) (T.fr "tuple" (by decide +kernel)) b_tuple (de_var 6))) (dss_cons (ds_asg (de_var 6) (dg_tup 2 (dgs_cons (dg_name 7 nd) (dgs_cons (dg_name 8 nd) dgs_nil)))) (dss_cons (ds_asg (de_ix (de_var 4) (de_var 5)) (dg_tup 2 (dgs_cons (dg_name 9 nd) (dgs_cons (dg_name 10 nd) dgs_nil)))) (dss_cons (ds_set 11 nd (de_ifE (dt_cmp (od_eq u64) (de_var 7) de_str) (de_var 2) (de_var 3))) (dss_cons (ds_set 13 nd (de_call c1 hr (da_cons (de_var 0) (da_cons (de_var 7) (da_cons (de_lc 12 nd (di_tup (de_var 8)) (by intro _ _ _ _ _; exact dg_name 12 nd) (by intro _ _ _ _ _; exact dts_nil) (by intro _ _ _ _ _; exact (de_ix (de_var 11) (de_var 12))) (blkOk_by (by kernel_rfl))) da_nil))) (hk := by omega))) (dss_one (ds_for (di_enT (T.fr "enumerate" (by decide +kernel)) (da_cons (de_var 8) da_nil)) (dg_tup 2 (dgs_cons (dg_name 14 nd) (dgs_cons (dg_name 12 nd) dgs_nil))) (dss_cons (ds_set 15 nd (de_meth .lat (by decide +kernel) c2 hr (de_var 0) (da_cons (de_var 10) (da_cons (de_ix (de_var 13) (de_var 14)) da_nil)) (hk := by omega))) (dss_one (ds_asg (de_ifE (dt_cmp (od_eq u64) (de_var 7) de_str) (de_tup (da_cons (de_meth .lat (by decide +kernel) c3 hr (de_var 0) (da_cons (de_var 9) (da_cons (de_var 15) da_nil)) (hk := by omega)) (da_cons (de_var 10) da_nil))) (de_tup (da_cons (de_var 9) (da_cons (de_var 15) da_nil)))) (dg_sub (de_var 4) (de_var 12))))))))))) dss_nil))) (dss_one (ds_ret (de_var 4)))))⟩) h
  have b : Binds K fd ["lattice", "tree", "lows", "highs"] [] := F.bindsN fun _ _ _ _ _ _ us hl => match us, hl with | [_, _, _, _], _ => rfl
  exact ⟨_, fd, _, [], ok, T.gl 14 rfl, F.kp, b, .nil⟩
theorem sc_Asking_init : FnScope N_Asking_init ["self", "lattice", "tree"] d_Asking_init.scope := ⟨rfl, rfl, rfl, by decide +kernel, rfl, by decide +kernel, by decide +kernel⟩
theorem wk_Asking_init {k : Nat} {spd S1 : Spd} (T : Txt K mg ca fad) (c1 : C8.Met P w K mg base k (ca .ask) "refresh_all" (SpOf K ca S1) []) (h : ∀ ds st Φ, spd ds st Φ → ds.length = 3 ∧ W_Asking_init S1 (endD Φ) (startD N_Asking_init ds) st) : C8.Mak P w K mg base (k + 2) "Asking" (ca .ask) (SpOf K ca spd) [] := by
  obtain ⟨fd, F⟩ := T.fn 23 (d := d_Asking_init) rfl
  have nd : (N_Asking_init).Nodup := sc_Asking_init.nd
  have ok : FnOk P w K mg base CX0 (k + 2) (fad d_Asking_init.at_) fd ["self", "lattice", "tree"] (SpOf K ca spd) := fn_ok F sc_Asking_init (fun cdv A outer s H E hr => ⟨_, by
    have u64 := hr.units
    have u65 := room65 hr
    have u1 := room1 hr
    exact (dss_cons (ds_fld .ask 0 (T.cls _) (T.na .ask 0 rfl) (de_var 0) (de_var 1)) (dss_cons (ds_fld .ask 1 (T.cls _) (T.na .ask 1 rfl) (de_var 0) (de_var 2)) (dss_cons (ds_fld .ask 2 (T.cls _) (T.na .ask 2 rfl) (de_var 0) (de_tup da_nil)) (dss_cons (ds_fld .ask 3 (T.cls _) (T.na .ask 3 rfl) (de_var 0) de_dnewK) (dss_one (ds_expr (de_meth0 .ask (by decide +kernel) c1 hr (de_var 0) (hk := by omega))))))))⟩) h
  have b : Binds K fd ["self", "lattice", "tree"] [] := F.bindsN fun _ _ _ _ _ _ us hl => match us, hl with | [_, _, _], _ => rfl
  exact ⟨_, fd, _, [], (T.mkr .ask).1, ok, (T.mkr .ask).2, b, .nil⟩
end
end Cw

set_option Elab.async false
set_option linter.all false
set_option maxRecDepth 100000
set_option maxHeartbeats 0
namespace Cw
open PySem L2 L2.DX PyProof.Rows PySem.Spec DL
section
variable {P : Program} {w : World} {K : PySem.W.Frag} {mg : Str → Option Value} {base : Heap} {ca : Cl → Addr} {fad : Str × Option Str → Addr}
theorem sc_Asking_refresh_all : FnScope N_Asking_refresh_all ["self"] d_Asking_refresh_all.scope := ⟨rfl, rfl, rfl, by decide +kernel, rfl, by decide +kernel, by decide +kernel⟩
theorem wk_Asking_refresh_all {k : Nat} {spd S1 S2 : Spd} (T : Txt K mg ca fad) (c1 : C8.Cal P w K mg base k "worths_beneath" (SpOf K ca S1) []) (c2 : C8.Cal P w K mg base k "contexts_beneath" (SpOf K ca S2) []) (h : ∀ ds st Φ, spd ds st Φ → ds.length = 1 ∧ W_Asking_refresh_all S1 S2 (endD Φ) (startD N_Asking_refresh_all ds) st) : C8.Met P w K mg base (k + 2) (ca .ask) "refresh_all" (SpOf K ca spd) [] := by
  obtain ⟨fd, F⟩ := T.fn 24 (d := d_Asking_refresh_all) rfl
  have nd : (N_Asking_refresh_all).Nodup := sc_Asking_refresh_all.nd
  have ok : FnOk P w K mg base CX0 (k + 2) (fad d_Asking_refresh_all.at_) fd ["self"] (SpOf K ca spd) := fn_ok F sc_Asking_refresh_all (fun cdv A outer s H E hr => ⟨_, by
    have u64 := hr.units
    have u65 := room65 hr
    have u1 := room1 hr
    exact (dss_cons (ds_set 1 nd (de_fld .ask 0 (T.cls _) (T.na .ask 0 rfl) (de_var 0))) (dss_cons (ds_set 2 nd (de_cT cr_range1 sc_rgO (T.fr "range" (by decide +kernel)) b_range (da_cons (de_cB call_len_seq sc_len (T.fr "len" (by decide +kernel)) b_len (da_cons (de_fld .tre 3 (T.cls _) (T.na .tre 3 rfl) (de_fld .ask 1 (T.cls _) (T.na .ask 1 rfl) (de_var 0))) da_nil)) da_nil))) (dss_cons (ds_setLc 3 5 nd (di_rgO (de_var 2)) (by intro _ _ _ _ _; exact dg_name 5 nd) (by intro _ _ _ _ _; exact dts_nil) (by intro _ _ _ _ _; exact (de_dget2 u1 (de_fld .ask 3 (T.cls _) (T.na .ask 3 rfl) (de_var 0)) (de_var 5) (de_fld .lat 4 (T.cls _) (T.na .lat 4 rfl) (de_var 1)))) (blkOk_by (by kernel_rfl))) (dss_cons (ds_setLc 4 5 nd (di_rgO (de_var 2)) (by intro _ _ _ _ _; exact dg_name 5 nd) (by intro _ _ _ _ _; exact dts_nil) (by intro _ _ _ _ _; exact (de_dget2 u1 (de_fld .ask 3 (T.cls _) (T.na .ask 3 rfl) (de_var 0)) (de_var 5) (de_fld .lat 5 (T.cls _) (T.na .lat 5 rfl) (de_var 1)))) (blkOk_by (by kernel_rfl))) (dss_cons (ds_fld .ask 4 (T.cls _) (T.na .ask 4 rfl) (de_var 0) (de_call c1 hr (da_cons (de_var 1) (da_cons (de_fld .ask 1 (T.cls _) (T.na .ask 1 rfl) (de_var 0)) (da_cons (de_var 3) da_nil))) (hk := by omega))) (dss_cons (ds_fld .ask 5 (T.cls _) (T.na .ask 5 rfl) (de_var 0) (de_call c1 hr (da_cons (de_var 1) (da_cons (de_fld .ask 1 (T.cls _) (T.na .ask 1 rfl) (de_var 0)) (da_cons (de_var 4) da_nil))) (hk := by omega))) (dss_one (ds_fld .ask 6 (T.cls _) (T.na .ask 6 rfl) (de_var 0) (de_call c2 hr (da_cons (de_var 1) (da_cons (de_fld .ask 1 (T.cls _) (T.na .ask 1 rfl) (de_var 0)) (da_cons (de_fld .ask 4 (T.cls _) (T.na .ask 4 rfl) (de_var 0)) (da_cons (de_fld .ask 5 (T.cls _) (T.na .ask 5 rfl) (de_var 0)) da_nil)))) (hk := by omega))))))))))⟩) h
  have b : Binds K fd ["self"] [] := F.bindsN fun _ _ _ _ _ _ us hl => match us, hl with | [_], _ => rfl
  exact ⟨_, fd, _, [], T.cls _, T.me 6 rfl, ok, b, .nil⟩
theorem sc_Asking_refuse_leaf : FnScope N_Asking_refuse_leaf ["self", "leaf"] d_Asking_refuse_leaf.scope := ⟨rfl, rfl, rfl, by decide +kernel, rfl, by decide +kernel, by decide +kernel⟩
theorem wk_Asking_refuse_leaf {k : Nat} {spd S1 : Spd} (T : Txt K mg ca fad) (c1 : C8.Cal P w K mg base k "is_number_below" (SpOf K ca S1) []) (h : ∀ ds st Φ, spd ds st Φ → ds.length = 2 ∧ W_Asking_refuse_leaf S1 (endD Φ) (startD N_Asking_refuse_leaf ds) st) : C8.Met P w K mg base (k + 2) (ca .ask) "refuse_leaf" (SpOf K ca spd) [] := by
  obtain ⟨fd, F⟩ := T.fn 25 (d := d_Asking_refuse_leaf) rfl
  have nd : (N_Asking_refuse_leaf).Nodup := sc_Asking_refuse_leaf.nd
  have ok : FnOk P w K mg base CX0 (k + 2) (fad d_Asking_refuse_leaf.at_) fd ["self", "leaf"] (SpOf K ca spd) := fn_ok F sc_Asking_refuse_leaf (fun cdv A outer s H E hr => ⟨_, by
    have u64 := hr.units
    have u65 := room65 hr
    have u1 := room1 hr
    exact (dss_one (ds_if (dt_not (dt_val (de_call c1 hr (da_cons (de_var 1) (da_cons (de_cB call_len_seq sc_len (T.fr "len" (by decide +kernel)) b_len (da_cons (de_fld .tre 3 (T.cls _) (T.na .tre 3 rfl) (de_fld .ask 1 (T.cls _) (T.na .ask 1 rfl) (de_var 0))) da_nil)) da_nil)) (hk := by omega)))) dss_never dss_nil))⟩) h
  have b : Binds K fd ["self", "leaf"] [] := F.bindsN fun _ _ _ _ _ _ us hl => match us, hl with | [_, _], _ => rfl
  exact ⟨_, fd, _, [], T.cls _, T.me 7 rfl, ok, b, .nil⟩
theorem sc_Asking_leaf_hangs : FnScope N_Asking_leaf_hangs ["self", "leaf"] d_Asking_leaf_hangs.scope := ⟨rfl, rfl, rfl, by decide +kernel, rfl, by decide +kernel, by decide +kernel⟩
theorem wk_Asking_leaf_hangs {k : Nat} {spd S1 : Spd} (T : Txt K mg ca fad) (c1 : C8.Met P w K mg base k (ca .lat) "at_most" (SpOf K ca S1) []) (h : ∀ ds st Φ, spd ds st Φ → ds.length = 2 ∧ W_Asking_leaf_hangs S1 (endD Φ) (startD N_Asking_leaf_hangs ds) st) : C8.Met P w K mg base (k + 2) (ca .ask) "leaf_hangs" (SpOf K ca spd) [] := by
  obtain ⟨fd, F⟩ := T.fn 26 (d := d_Asking_leaf_hangs) rfl
  have nd : (N_Asking_leaf_hangs).Nodup := sc_Asking_leaf_hangs.nd
  have ok : FnOk P w K mg base CX0 (k + 2) (fad d_Asking_leaf_hangs.at_) fd ["self", "leaf"] (SpOf K ca spd) := fn_ok F sc_Asking_leaf_hangs (fun cdv A outer s H E hr => ⟨_, by
    have u64 := hr.units
    have u65 := room65 hr
    have u1 := room1 hr
    exact (dss_cons (ds_asg (de_ix (de_fld .ask 6 (T.cls _) (T.na .ask 6 rfl) (de_var 0)) (de_ix (de_fld .tre 3 (T.cls _) (T.na .tre 3 rfl) (de_fld .ask 1 (T.cls _) (T.na .ask 1 rfl) (de_var 0))) (de_var 1))) (dg_tup 2 (dgs_cons (dg_name 2 nd) (dgs_cons (dg_name 3 nd) dgs_nil)))) (dss_one (ds_ret (de_not (de_meth .lat (by decide +kernel) c1 hr (de_fld .ask 0 (T.cls _) (T.na .ask 0 rfl) (de_var 0)) (da_cons (de_var 3) (da_cons (de_var 2) da_nil)) (hk := by omega))))))⟩) h
  have b : Binds K fd ["self", "leaf"] [] := F.bindsN fun _ _ _ _ _ _ us hl => match us, hl with | [_, _], _ => rfl
  exact ⟨_, fd, _, [], T.cls _, T.me 8 rfl, ok, b, .nil⟩
theorem sc_Asking_set_kept : FnScope N_Asking_set_kept ["self", "leaf", "worth"] d_Asking_set_kept.scope := ⟨rfl, rfl, rfl, by decide +kernel, rfl, by decide +kernel, by decide +kernel⟩
theorem wk_Asking_set_kept {k : Nat} {spd S1 : Spd} (T : Txt K mg ca fad) (c1 : C8.Met P w K mg base k (ca .ask) "refresh_all" (SpOf K ca S1) []) (h : ∀ ds st Φ, spd ds st Φ → ds.length = 3 ∧ W_Asking_set_kept S1 (endD Φ) (startD N_Asking_set_kept ds) st) : C8.Met P w K mg base (k + 2) (ca .ask) "set_kept" (SpOf K ca spd) [] := by
  obtain ⟨fd, F⟩ := T.fn 27 (d := d_Asking_set_kept) rfl
  have nd : (N_Asking_set_kept).Nodup := sc_Asking_set_kept.nd
  have ok : FnOk P w K mg base CX0 (k + 2) (fad d_Asking_set_kept.at_) fd ["self", "leaf", "worth"] (SpOf K ca spd) := fn_ok F sc_Asking_set_kept (fun cdv A outer s H E hr => ⟨_, by
    have u64 := hr.units
    have u65 := room65 hr
    have u1 := room1 hr
    exact (dss_cons (ds_dput u1 (de_fld .ask 3 (T.cls _) (T.na .ask 3 rfl) (de_var 0)) (de_var 1) (de_var 2)) (dss_cons (ds_fld .ask 2 (T.cls _) (T.na .ask 2 rfl) (de_var 0) (de_tup (da_star (de_fld .ask 2 (T.cls _) (T.na .ask 2 rfl) (de_var 0)) (da_cons (de_var 1) da_nil)))) (dss_one (ds_expr (de_meth0 .ask (by decide +kernel) c1 hr (de_var 0) (hk := by omega))))))⟩) h
  have b : Binds K fd ["self", "leaf", "worth"] [] := F.bindsN fun _ _ _ _ _ _ us hl => match us, hl with | [_, _, _], _ => rfl
  exact ⟨_, fd, _, [], T.cls _, T.me 9 rfl, ok, b, .nil⟩
theorem sc_Asking_note_leaf : FnScope N_Asking_note_leaf ["self", "leaf", "worth"] d_Asking_note_leaf.scope := ⟨rfl, rfl, rfl, by decide +kernel, rfl, by decide +kernel, by decide +kernel⟩
theorem wk_Asking_note_leaf {k : Nat} {spd S1 S2 S3 : Spd} (T : Txt K mg ca fad) (c1 : C8.Met P w K mg base k (ca .ask) "refuse_leaf" (SpOf K ca S1) []) (c2 : C8.Cal P w K mg base k "check_worth" (SpOf K ca S2) []) (c3 : C8.Met P w K mg base k (ca .ask) "set_kept" (SpOf K ca S3) []) (h : ∀ ds st Φ, spd ds st Φ → ds.length = 3 ∧ W_Asking_note_leaf S1 S2 S3 (endD Φ) (startD N_Asking_note_leaf ds) st) : C8.Met P w K mg base (k + 2) (ca .ask) "note_leaf" (SpOf K ca spd) [] := by
  obtain ⟨fd, F⟩ := T.fn 28 (d := d_Asking_note_leaf) rfl
  have nd : (N_Asking_note_leaf).Nodup := sc_Asking_note_leaf.nd
  have ok : FnOk P w K mg base CX0 (k + 2) (fad d_Asking_note_leaf.at_) fd ["self", "leaf", "worth"] (SpOf K ca spd) := fn_ok F sc_Asking_note_leaf (fun cdv A outer s H E hr => ⟨_, by
    have u64 := hr.units
    have u65 := room65 hr
    have u1 := room1 hr
    exact (dss_cons (ds_expr (de_meth .ask (by decide +kernel) c1 hr (de_var 0) (da_cons (de_var 1) da_nil) (hk := by omega))) (dss_cons (ds_expr (de_call c2 hr (da_cons (de_fld .ask 0 (T.cls _) (T.na .ask 0 rfl) (de_var 0)) (da_cons (de_var 2) da_nil)) (hk := by omega))) (dss_cons (ds_if (dt_din u1 (de_var 1) (de_fld .ask 3 (T.cls _) (T.na .ask 3 rfl) (de_var 0))) dss_never dss_nil) (dss_one (ds_expr (de_meth .ask (by decide +kernel) c3 hr (de_var 0) (da_cons (de_var 1) (da_cons (de_var 2) da_nil)) (hk := by omega)))))))⟩) h
  have b : Binds K fd ["self", "leaf", "worth"] [] := F.bindsN fun _ _ _ _ _ _ us hl => match us, hl with | [_, _, _], _ => rfl
  exact ⟨_, fd, _, [], T.cls _, T.me 10 rfl, ok, b, .nil⟩
theorem sc_Asking_hanging_now : FnScope N_Asking_hanging_now ["self"] d_Asking_hanging_now.scope := ⟨rfl, rfl, rfl, by decide +kernel, rfl, by decide +kernel, by decide +kernel⟩
theorem wk_Asking_hanging_now {k : Nat} {spd S1 : Spd} (T : Txt K mg ca fad) (c1 : C8.Met P w K mg base k (ca .ask) "leaf_hangs" (SpOf K ca S1) []) (h : ∀ ds st Φ, spd ds st Φ → ds.length = 1 ∧ W_Asking_hanging_now S1 (endD Φ) (startD N_Asking_hanging_now ds) st) : C8.Met P w K mg base (k + 2) (ca .ask) "hanging_now" (SpOf K ca spd) [] := by
  obtain ⟨fd, F⟩ := T.fn 29 (d := d_Asking_hanging_now) rfl
  have nd : (N_Asking_hanging_now).Nodup := sc_Asking_hanging_now.nd
  have ok : FnOk P w K mg base CX0 (k + 2) (fad d_Asking_hanging_now.at_) fd ["self"] (SpOf K ca spd) := fn_ok F sc_Asking_hanging_now (fun cdv A outer s H E hr => ⟨_, by
    have u64 := hr.units
    have u65 := room65 hr
    have u1 := room1 hr
    exact (dss_cons (ds_set 1 nd (de_cT cr_range1 sc_rgO (T.fr "range" (by decide +kernel)) b_range (da_cons (de_cB call_len_seq sc_len (T.fr "len" (by decide +kernel)) b_len (da_cons (de_fld .tre 3 (T.cls _) (T.na .tre 3 rfl) (de_fld .ask 1 (T.cls _) (T.na .ask 1 rfl) (de_var 0))) da_nil)) da_nil))) (dss_one (ds_ret (de_cT call_tuple_of sc_tupOf (T.fr "tuple" (by decide +kernel)) b_tuple (da_cons (de_lc 2 nd (di_rgO (de_var 1)) (by intro _ _ _ _ _; exact dg_name 2 nd) (by intro _ _ _ _ _; exact (dts_one (dt_w (dw_and (dt_dnotin u1 (de_var 2) (de_fld .ask 3 (T.cls _) (T.na .ask 3 rfl) (de_var 0))) (dw_and1 (dt_val (de_meth .ask (by decide +kernel) c1 hr (de_var 0) (da_cons (de_var 2) da_nil) (hk := by omega)))))))) (by intro _ _ _ _ _; exact (de_var 2)) (blkOk_by (by kernel_rfl))) da_nil)))))⟩) h
  have b : Binds K fd ["self"] [] := F.bindsN fun _ _ _ _ _ _ us hl => match us, hl with | [_], _ => rfl
  exact ⟨_, fd, _, [], T.cls _, T.me 11 rfl, ok, b, .nil⟩
theorem sc_Asking_bounds_at : FnScope N_Asking_bounds_at ["self", "road"] d_Asking_bounds_at.scope := ⟨rfl, rfl, rfl, by decide +kernel, rfl, by decide +kernel, by decide +kernel⟩
theorem wk_Asking_bounds_at {k : Nat} {spd S1 : Spd} (T : Txt K mg ca fad) (c1 : C8.Met P w K mg base k (ca .tre) "node_at" (SpOf K ca S1) []) (h : ∀ ds st Φ, spd ds st Φ → ds.length = 2 ∧ W_Asking_bounds_at S1 (endD Φ) (startD N_Asking_bounds_at ds) st) : C8.Met P w K mg base (k + 2) (ca .ask) "bounds_at" (SpOf K ca spd) [] := by
  obtain ⟨fd, F⟩ := T.fn 30 (d := d_Asking_bounds_at) rfl
  have nd : (N_Asking_bounds_at).Nodup := sc_Asking_bounds_at.nd
  have ok : FnOk P w K mg base CX0 (k + 2) (fad d_Asking_bounds_at.at_) fd ["self", "road"] (SpOf K ca spd) := fn_ok F sc_Asking_bounds_at (fun cdv A outer s H E hr => ⟨_, by
    have u64 := hr.units
    have u65 := room65 hr
    have u1 := room1 hr
    exact (dss_cons (ds_set 2 nd (de_meth .tre (by decide +kernel) c1 hr (de_fld .ask 1 (T.cls _) (T.na .ask 1 rfl) (de_var 0)) (da_cons (de_var 1) da_nil) (hk := by omega))) (dss_one (ds_ret (de_tup (da_cons (de_ix (de_fld .ask 4 (T.cls _) (T.na .ask 4 rfl) (de_var 0)) (de_var 2)) (da_cons (de_ix (de_fld .ask 5 (T.cls _) (T.na .ask 5 rfl) (de_var 0)) (de_var 2)) da_nil))))))⟩) h
  have b : Binds K fd ["self", "road"] [] := F.bindsN fun _ _ _ _ _ _ us hl => match us, hl with | [_, _], _ => rfl
  exact ⟨_, fd, _, [], T.cls _, T.me 12 rfl, ok, b, .nil⟩
theorem sc_Asking_context_at : FnScope N_Asking_context_at ["self", "road"] d_Asking_context_at.scope := ⟨rfl, rfl, rfl, by decide +kernel, rfl, by decide +kernel, by decide +kernel⟩
theorem wk_Asking_context_at {k : Nat} {spd S1 : Spd} (T : Txt K mg ca fad) (c1 : C8.Met P w K mg base k (ca .tre) "node_at" (SpOf K ca S1) []) (h : ∀ ds st Φ, spd ds st Φ → ds.length = 2 ∧ W_Asking_context_at S1 (endD Φ) (startD N_Asking_context_at ds) st) : C8.Met P w K mg base (k + 2) (ca .ask) "context_at" (SpOf K ca spd) [] := by
  obtain ⟨fd, F⟩ := T.fn 31 (d := d_Asking_context_at) rfl
  have nd : (N_Asking_context_at).Nodup := sc_Asking_context_at.nd
  have ok : FnOk P w K mg base CX0 (k + 2) (fad d_Asking_context_at.at_) fd ["self", "road"] (SpOf K ca spd) := fn_ok F sc_Asking_context_at (fun cdv A outer s H E hr => ⟨_, by
    have u64 := hr.units
    have u65 := room65 hr
    have u1 := room1 hr
    exact (dss_one (ds_ret (de_ix (de_fld .ask 6 (T.cls _) (T.na .ask 6 rfl) (de_var 0)) (de_meth .tre (by decide +kernel) c1 hr (de_fld .ask 1 (T.cls _) (T.na .ask 1 rfl) (de_var 0)) (da_cons (de_var 1) da_nil) (hk := by omega)))))⟩) h
  have b : Binds K fd ["self", "road"] [] := F.bindsN fun _ _ _ _ _ _ us hl => match us, hl with | [_, _], _ => rfl
  exact ⟨_, fd, _, [], T.cls _, T.me 13 rfl, ok, b, .nil⟩
theorem sc_stands_in : FnScope N_stands_in ["lattice", "thing"] d_stands_in.scope := ⟨rfl, rfl, rfl, by decide +kernel, rfl, by decide +kernel, by decide +kernel⟩
theorem wk_stands_in {k : Nat} {spd  : Spd} (T : Txt K mg ca fad)  (h : ∀ ds st Φ, spd ds st Φ → ds.length = 2 ∧ W_stands_in  (endD Φ) (startD N_stands_in ds) st) : C8.Cal P w K mg base (k + 2) "stands_in" (SpOf K ca spd) [] := by
  obtain ⟨fd, F⟩ := T.fn 32 (d := d_stands_in) rfl
  have nd : (N_stands_in).Nodup := sc_stands_in.nd
  have ok : FnOk P w K mg base CX0 (k + 2) (fad d_stands_in.at_) fd ["lattice", "thing"] (SpOf K ca spd) := fn_ok F sc_stands_in (fun cdv A outer s H E hr => ⟨_, by
    have u64 := hr.units
    have u65 := room65 hr
    have u1 := room1 hr
    exact (dss_one (ds_ret (de_and (de_is isInt_ok (T.fr "isinstance" (by decide +kernel)) (T.fr "int" (by decide +kernel)) b_int (de_var 1)) (de_and (de_not (de_is isBool_ok (T.fr "isinstance" (by decide +kernel)) (T.fr "bool" (by decide +kernel)) b_bool (de_var 1))) (de_one (de_chain od_le od_lt de_int (de_var 1) (de_fld .lat 1 (T.cls _) (T.na .lat 1 rfl) (de_var 0))))))))⟩) h
  have b : Binds K fd ["lattice", "thing"] [] := F.bindsN fun _ _ _ _ _ _ us hl => match us, hl with | [_, _], _ => rfl
  exact ⟨_, fd, _, [], ok, T.gl 15 rfl, F.kp, b, .nil⟩
theorem sc_Job_init : FnScope N_Job_init ["self", "number", "hand", "road", "context"] d_Job_init.scope := ⟨rfl, rfl, rfl, by decide +kernel, rfl, by decide +kernel, by decide +kernel⟩
theorem wk_Job_init {k : Nat} {spd  : Spd} (T : Txt K mg ca fad)  (h : ∀ ds st Φ, spd ds st Φ → ds.length = 5 ∧ W_Job_init  (endD Φ) (startD N_Job_init ds) st) : C8.Mak P w K mg base (k + 2) "Job" (ca .job) (SpOf K ca spd) [] := by
  obtain ⟨fd, F⟩ := T.fn 33 (d := d_Job_init) rfl
  have nd : (N_Job_init).Nodup := sc_Job_init.nd
  have ok : FnOk P w K mg base CX0 (k + 2) (fad d_Job_init.at_) fd ["self", "number", "hand", "road", "context"] (SpOf K ca spd) := fn_ok F sc_Job_init (fun cdv A outer s H E hr => ⟨_, by
    have u64 := hr.units
    have u65 := room65 hr
    have u1 := room1 hr
    exact (dss_cons (ds_fld .job 0 (T.cls _) (T.na .job 0 rfl) (de_var 0) (de_var 1)) (dss_cons (ds_fld .job 1 (T.cls _) (T.na .job 1 rfl) (de_var 0) (de_var 2)) (dss_cons (ds_fld .job 2 (T.cls _) (T.na .job 2 rfl) (de_var 0) (de_var 3)) (dss_one (ds_fld .job 3 (T.cls _) (T.na .job 3 rfl) (de_var 0) (de_var 4))))))⟩) h
  have b : Binds K fd ["self", "number", "hand", "road", "context"] [] := F.bindsN fun _ _ _ _ _ _ us hl => match us, hl with | [_, _, _, _, _], _ => rfl
  exact ⟨_, fd, _, [], (T.mkr .job).1, ok, (T.mkr .job).2, b, .nil⟩
theorem sc_upper_shape : FnScope N_upper_shape ["ground", "node", "depth", "road", "roads"] d_upper_shape.scope := ⟨rfl, rfl, rfl, by decide +kernel, rfl, by decide +kernel, by decide +kernel⟩
theorem wk_upper_shape {k : Nat} {spd S1 S2 S3 S4 : Spd} (T : Txt K mg ca fad) (c1 : C8.Met P w K mg base k (ca .gro) "is_end" (SpOf K ca S1) []) (c2 : C8.Met P w K mg base k (ca .gro) "children_of" (SpOf K ca S2) []) (c3 : C8.Cal P w K mg base k "upper_shape" (SpOf K ca S3) []) (c4 : C8.Met P w K mg base k (ca .gro) "sign_of" (SpOf K ca S4) []) (h : ∀ ds st Φ, spd ds st Φ → ds.length = 5 ∧ W_upper_shape S1 S2 S3 S4 (endD Φ) (startD N_upper_shape ds) st) : C8.Cal P w K mg base (k + 2) "upper_shape" (SpOf K ca spd) [] := by
  obtain ⟨fd, F⟩ := T.fn 34 (d := d_upper_shape) rfl
  have nd : (N_upper_shape).Nodup := sc_upper_shape.nd
  have ok : FnOk P w K mg base CX0 (k + 2) (fad d_upper_shape.at_) fd ["ground", "node", "depth", "road", "roads"] (SpOf K ca spd) := fn_ok F sc_upper_shape (fun cdv A outer s H E hr => ⟨_, by
    have u64 := hr.units
    have u65 := room65 hr
    have u1 := room1 hr
    exact (dss_cons (ds_if (dt_w (dw_or (dt_cmp (od_eq u64) (de_var 2) de_int) (dw_or1 (dt_val (de_meth .gro (by decide +kernel) c1 hr (de_var 0) (da_cons (de_var 1) da_nil) (hk := by omega)))))) (dss_cons (ds_if (dt_cmp (od_eq u64) (de_cB call_len_seq sc_len (T.fr "len" (by decide +kernel)) b_len (da_cons (de_var 4) da_nil)) (de_gint rfl (T.gi _ (by decide +kernel : (("MOST_SPOTS" : Str), (400 : Int)) ∈ gints)))) dss_never dss_nil) (dss_cons (ds_expr (de_app (de_var 4) (de_var 3))) (dss_one (ds_ret de_int)))) dss_nil) (dss_cons (ds_set 5 nd (de_lstO da_nil)) (dss_cons (ds_for (di_enT (T.fr "enumerate" (by decide +kernel)) (da_cons (de_meth .gro (by decide +kernel) c2 hr (de_var 0) (da_cons (de_var 1) da_nil) (hk := by omega)) da_nil)) (dg_tup 2 (dgs_cons (dg_name 6 nd) (dgs_cons (dg_name 7 nd) dgs_nil))) (dss_one (ds_expr (de_app (de_var 5) (de_call c3 hr (da_cons (de_var 0) (da_cons (de_var 7) (da_cons (de_op od_sub (de_var 2) de_int) (da_cons (de_op od_add (de_var 3) (de_tup (da_cons (de_var 6) da_nil))) (da_cons (de_var 4) da_nil))))) (hk := by omega)))))) (dss_one (ds_ret (de_tup (da_cons (de_meth .gro (by decide +kernel) c4 hr (de_var 0) (da_cons (de_var 1) da_nil) (hk := by omega)) (da_cons (de_cT call_tuple_of sc_tupOf (T.fr "tuple" (by decide +kernel)) b_tuple (da_cons (de_var 5) da_nil)) da_nil))))))))⟩) h
  have b : Binds K fd ["ground", "node", "depth", "road", "roads"] [] := F.bindsN fun _ _ _ _ _ _ us hl => match us, hl with | [_, _, _, _, _], _ => rfl
  exact ⟨_, fd, _, [], ok, T.gl 16 rfl, F.kp, b, .nil⟩
theorem sc_Pool_init : FnScope N_Pool_init ["self", "lattice", "ground", "depth"] d_Pool_init.scope := ⟨rfl, rfl, rfl, by decide +kernel, rfl, by decide +kernel, by decide +kernel⟩
theorem wk_Pool_init {k : Nat} {spd S1 S2 S3 S4 S5 : Spd} (T : Txt K mg ca fad) (c1 : C8.Cal P w K mg base k "is_number" (SpOf K ca S1) []) (c2 : C8.Mak P w K mg base k "Tree" (ca .tre) (SpOf K ca S2) []) (c3 : C8.Cal P w K mg base k "upper_shape" (SpOf K ca S3) []) (c4 : C8.Met P w K mg base k (ca .gro) "root_node" (SpOf K ca S4) []) (c5 : C8.Mak P w K mg base k "Asking" (ca .ask) (SpOf K ca S5) []) (h : ∀ ds st Φ, spd ds st Φ → ds.length = 4 ∧ W_Pool_init S1 S2 S3 S4 S5 (endD Φ) (startD N_Pool_init ds) st) : C8.Mak P w K mg base (k + 2) "Pool" (ca .pool) (SpOf K ca spd) [] := by
  obtain ⟨fd, F⟩ := T.fn 35 (d := d_Pool_init) rfl
  have nd : (N_Pool_init).Nodup := sc_Pool_init.nd
  have ok : FnOk P w K mg base CX0 (k + 2) (fad d_Pool_init.at_) fd ["self", "lattice", "ground", "depth"] (SpOf K ca spd) := fn_ok F sc_Pool_init (fun cdv A outer s H E hr => ⟨_, by
    have u64 := hr.units
    have u65 := room65 hr
    have u1 := room1 hr
    exact (dss_cons (ds_if (dt_not (dt_val (de_call c1 hr (da_cons (de_var 3) (da_cons de_int (da_cons (de_gint rfl (T.gi _ (by decide +kernel : (("MOST_DEPTH" : Str), (40 : Int)) ∈ gints))) da_nil))) (hk := by omega)))) dss_never dss_nil) (dss_cons (ds_fld .pool 0 (T.cls _) (T.na .pool 0 rfl) (de_var 0) (de_var 1)) (dss_cons (ds_fld .pool 1 (T.cls _) (T.na .pool 1 rfl) (de_var 0) (de_var 2)) (dss_cons (ds_fld .pool 2 (T.cls _) (T.na .pool 2 rfl) (de_var 0) (de_var 3)) (dss_cons (ds_set 4 nd (de_lstO da_nil)) (dss_cons (ds_fld .pool 3 (T.cls _) (T.na .pool 3 rfl) (de_var 0) (de_make .tre [] (fun _ => RpA.nil) c2 hr (da_cons (de_call c3 hr (da_cons (de_var 2) (da_cons (de_meth0 .gro (by decide +kernel) c4 hr (de_var 2) (hk := by omega)) (da_cons (de_var 3) (da_cons (de_tup da_nil) (da_cons (de_var 4) da_nil))))) (hk := by omega)) da_nil) (hk := by omega))) (dss_cons (ds_fld .pool 4 (T.cls _) (T.na .pool 4 rfl) (de_var 0) (de_cT cr_tupF sc_tupF (T.fr "tuple" (by decide +kernel)) b_tuple (da_cons (de_var 4) da_nil))) (dss_cons (ds_fld .pool 5 (T.cls _) (T.na .pool 5 rfl) (de_var 0) (de_tup da_nil)) (dss_cons (ds_fld .pool 6 (T.cls _) (T.na .pool 6 rfl) (de_var 0) (de_tup da_nil)) (dss_one (ds_fld .pool 7 (T.cls _) (T.na .pool 7 rfl) (de_var 0) (de_makeO .ask [] (fun _ => RpA.nil) c5 hr (da_cons (de_var 1) (da_cons (de_fld .pool 3 (T.cls _) (T.na .pool 3 rfl) (de_var 0)) da_nil)) (hk := by omega)))))))))))))⟩) h
  have b : Binds K fd ["self", "lattice", "ground", "depth"] [] := F.bindsN fun _ _ _ _ _ _ us hl => match us, hl with | [_, _, _, _], _ => rfl
  exact ⟨_, fd, _, [], (T.mkr .pool).1, ok, (T.mkr .pool).2, b, .nil⟩
theorem sc_Pool_is_done : FnScope N_Pool_is_done ["self"] d_Pool_is_done.scope := ⟨rfl, rfl, rfl, by decide +kernel, rfl, by decide +kernel, by decide +kernel⟩
theorem wk_Pool_is_done {k : Nat} {spd S1 : Spd} (T : Txt K mg ca fad) (c1 : C8.Met P w K mg base k (ca .pool) "hanging_spots" (SpOf K ca S1) []) (h : ∀ ds st Φ, spd ds st Φ → ds.length = 1 ∧ W_Pool_is_done S1 (endD Φ) (startD N_Pool_is_done ds) st) : Prp P w K mg base (k + 2) (ca .pool) "is_done" (SpOf K ca spd) := by
  obtain ⟨fd, F⟩ := T.fn 36 (d := d_Pool_is_done) rfl
  have nd : (N_Pool_is_done).Nodup := sc_Pool_is_done.nd
  have ok : FnOk P w K mg base CX0 (k + 2) (fad d_Pool_is_done.at_) fd ["self"] (SpOf K ca spd) := fn_ok F sc_Pool_is_done (fun cdv A outer s H E hr => ⟨_, by
    have u64 := hr.units
    have u65 := room65 hr
    have u1 := room1 hr
    exact (dss_one (ds_ret (de_cmp (od_eq u64) (de_meth0 .pool (by decide +kernel) c1 hr (de_var 0) (hk := by omega)) (de_tup da_nil))))⟩) h
  have b : Binds K fd ["self"] [] := F.bindsN fun _ _ _ _ _ _ us hl => match us, hl with | [_], _ => rfl
  obtain ⟨q, hq⟩ := T.pr
  exact ⟨q, _, fd, _, T.cls _, hq, ok, b⟩
theorem sc_Pool_spot_bounds : FnScope N_Pool_spot_bounds ["self", "road"] d_Pool_spot_bounds.scope := ⟨rfl, rfl, rfl, by decide +kernel, rfl, by decide +kernel, by decide +kernel⟩
theorem wk_Pool_spot_bounds {k : Nat} {spd S1 : Spd} (T : Txt K mg ca fad) (c1 : C8.Met P w K mg base k (ca .ask) "bounds_at" (SpOf K ca S1) []) (h : ∀ ds st Φ, spd ds st Φ → ds.length = 2 ∧ W_Pool_spot_bounds S1 (endD Φ) (startD N_Pool_spot_bounds ds) st) : C8.Met P w K mg base (k + 2) (ca .pool) "spot_bounds" (SpOf K ca spd) [] := by
  obtain ⟨fd, F⟩ := T.fn 37 (d := d_Pool_spot_bounds) rfl
  have nd : (N_Pool_spot_bounds).Nodup := sc_Pool_spot_bounds.nd
  have ok : FnOk P w K mg base CX0 (k + 2) (fad d_Pool_spot_bounds.at_) fd ["self", "road"] (SpOf K ca spd) := fn_ok F sc_Pool_spot_bounds (fun cdv A outer s H E hr => ⟨_, by
    have u64 := hr.units
    have u65 := room65 hr
    have u1 := room1 hr
    exact (dss_one (ds_ret (de_meth .ask (by decide +kernel) c1 hr (de_fld .pool 7 (T.cls _) (T.na .pool 7 rfl) (de_var 0)) (da_cons (de_var 1) da_nil) (hk := by omega))))⟩) h
  have b : Binds K fd ["self", "road"] [] := F.bindsN fun _ _ _ _ _ _ us hl => match us, hl with | [_, _], _ => rfl
  exact ⟨_, fd, _, [], T.cls _, T.me 14 rfl, ok, b, .nil⟩
theorem sc_Pool_spot_context : FnScope N_Pool_spot_context ["self", "road"] d_Pool_spot_context.scope := ⟨rfl, rfl, rfl, by decide +kernel, rfl, by decide +kernel, by decide +kernel⟩
theorem wk_Pool_spot_context {k : Nat} {spd S1 : Spd} (T : Txt K mg ca fad) (c1 : C8.Met P w K mg base k (ca .ask) "context_at" (SpOf K ca S1) []) (h : ∀ ds st Φ, spd ds st Φ → ds.length = 2 ∧ W_Pool_spot_context S1 (endD Φ) (startD N_Pool_spot_context ds) st) : C8.Met P w K mg base (k + 2) (ca .pool) "spot_context" (SpOf K ca spd) [] := by
  obtain ⟨fd, F⟩ := T.fn 38 (d := d_Pool_spot_context) rfl
  have nd : (N_Pool_spot_context).Nodup := sc_Pool_spot_context.nd
  have ok : FnOk P w K mg base CX0 (k + 2) (fad d_Pool_spot_context.at_) fd ["self", "road"] (SpOf K ca spd) := fn_ok F sc_Pool_spot_context (fun cdv A outer s H E hr => ⟨_, by
    have u64 := hr.units
    have u65 := room65 hr
    have u1 := room1 hr
    exact (dss_one (ds_ret (de_meth .ask (by decide +kernel) c1 hr (de_fld .pool 7 (T.cls _) (T.na .pool 7 rfl) (de_var 0)) (da_cons (de_var 1) da_nil) (hk := by omega))))⟩) h
  have b : Binds K fd ["self", "road"] [] := F.bindsN fun _ _ _ _ _ _ us hl => match us, hl with | [_, _], _ => rfl
  exact ⟨_, fd, _, [], T.cls _, T.me 15 rfl, ok, b, .nil⟩
theorem sc_Pool_hanging_spots : FnScope N_Pool_hanging_spots ["self"] d_Pool_hanging_spots.scope := ⟨rfl, rfl, rfl, by decide +kernel, rfl, by decide +kernel, by decide +kernel⟩
theorem wk_Pool_hanging_spots {k : Nat} {spd S1 : Spd} (T : Txt K mg ca fad) (c1 : C8.Met P w K mg base k (ca .ask) "hanging_now" (SpOf K ca S1) []) (h : ∀ ds st Φ, spd ds st Φ → ds.length = 1 ∧ W_Pool_hanging_spots S1 (endD Φ) (startD N_Pool_hanging_spots ds) st) : C8.Met P w K mg base (k + 2) (ca .pool) "hanging_spots" (SpOf K ca spd) [] := by
  obtain ⟨fd, F⟩ := T.fn 39 (d := d_Pool_hanging_spots) rfl
  have nd : (N_Pool_hanging_spots).Nodup := sc_Pool_hanging_spots.nd
  have ok : FnOk P w K mg base CX0 (k + 2) (fad d_Pool_hanging_spots.at_) fd ["self"] (SpOf K ca spd) := fn_ok F sc_Pool_hanging_spots (fun cdv A outer s H E hr => ⟨_, by
    have u64 := hr.units
    have u65 := room65 hr
    have u1 := room1 hr
    exact (dss_one (ds_ret (de_cT call_tuple_of sc_tupOf (T.fr "tuple" (by decide +kernel)) b_tuple (da_cons (de_lc 1 nd (di_tup (de_meth0 .ask (by decide +kernel) c1 hr (de_fld .pool 7 (T.cls _) (T.na .pool 7 rfl) (de_var 0)) (hk := by omega))) (by intro _ _ _ _ _; exact dg_name 1 nd) (by intro _ _ _ _ _; exact dts_nil) (by intro _ _ _ _ _; exact (de_ix (de_fld .pool 4 (T.cls _) (T.na .pool 4 rfl) (de_var 0)) (de_var 1))) (blkOk_by (by kernel_rfl))) da_nil))))⟩) h
  have b : Binds K fd ["self"] [] := F.bindsN fun _ _ _ _ _ _ us hl => match us, hl with | [_], _ => rfl
  exact ⟨_, fd, _, [], T.cls _, T.me 16 rfl, ok, b, .nil⟩
end
end Cw

set_option Elab.async false
set_option linter.all false
set_option maxRecDepth 100000
set_option maxHeartbeats 0
namespace Cw
open PySem L2 L2.DX PyProof.Rows PySem.Spec DL
section
variable {P : Program} {w : World} {K : PySem.W.Frag} {mg : Str → Option Value} {base : Heap} {ca : Cl → Addr} {fad : Str × Option Str → Addr}
theorem sc_Pool_take_job : FnScope N_Pool_take_job ["self", "hand"] d_Pool_take_job.scope := ⟨rfl, rfl, rfl, by decide +kernel, rfl, by decide +kernel, by decide +kernel⟩
theorem wk_Pool_take_job {k : Nat} {spd S1 S2 S3 S4 : Spd} (T : Txt K mg ca fad) (c1 : C8.Cal P w K mg base k "is_number" (SpOf K ca S1) []) (c2 : C8.Met P w K mg base k (ca .pool) "hanging_spots" (SpOf K ca S2) []) (c3 : C8.Met P w K mg base k (ca .pool) "spot_context" (SpOf K ca S3) []) (c4 : C8.Mak P w K mg base k "Job" (ca .job) (SpOf K ca S4) []) (h : ∀ ds st Φ, spd ds st Φ → ds.length = 2 ∧ W_Pool_take_job S1 S2 S3 S4 (endD Φ) (startD N_Pool_take_job ds) st) : C8.Met P w K mg base (k + 2) (ca .pool) "take_job" (SpOf K ca spd) [] := by
  obtain ⟨fd, F⟩ := T.fn 40 (d := d_Pool_take_job) rfl
  have nd : (N_Pool_take_job).Nodup := sc_Pool_take_job.nd
  have ok : FnOk P w K mg base CX0 (k + 2) (fad d_Pool_take_job.at_) fd ["self", "hand"] (SpOf K ca spd) := fn_ok F sc_Pool_take_job (fun cdv A outer s H E hr => ⟨_, by
    have u64 := hr.units
    have u65 := room65 hr
    have u1 := room1 hr
    exact (dss_cons (ds_if (dt_not (dt_val (de_call c1 hr (da_cons (de_var 1) (da_cons de_int (da_cons (de_gint rfl (T.gi _ (by decide +kernel : (("MOST_HAND" : Str), (7 : Int)) ∈ gints))) da_nil))) (hk := by omega)))) dss_never dss_nil) (dss_cons (ds_setLc 2 7 nd (di_tup (de_fld .pool 6 (T.cls _) (T.na .pool 6 rfl) (de_var 0))) (by intro _ _ _ _ _; exact dg_name 7 nd) (by intro _ _ _ _ _; exact (dts_one (dt_cmp (od_eq u64) (de_ix (de_var 7) de_int) de_str))) (by intro _ _ _ _ _; exact (de_var 7)) (blkOk_by (by kernel_rfl))) (dss_cons (ds_if (dt_cmp (od_in u65) (de_var 1) (de_lc 7 nd (di_lst (de_var 2)) (by intro _ _ _ _ _; exact dg_name 7 nd) (by intro _ _ _ _ _; exact dts_nil) (by intro _ _ _ _ _; exact (de_ix (de_var 7) de_int)) (blkOk_by (by kernel_rfl)))) dss_never dss_nil) (dss_cons (ds_setLc 3 7 nd (di_lst (de_var 2)) (by intro _ _ _ _ _; exact dg_name 7 nd) (by intro _ _ _ _ _; exact dts_nil) (by intro _ _ _ _ _; exact (de_ix (de_var 7) de_int)) (blkOk_by (by kernel_rfl))) (dss_cons (ds_for (di_tup (de_meth0 .pool (by decide +kernel) c2 hr (de_var 0) (hk := by omega))) (dg_name 4 nd) (dss_one (ds_if (dt_cmp (od_notIn u65) (de_var 4) (de_var 3)) (dss_cons (ds_set 5 nd (de_meth .pool (by decide +kernel) c3 hr (de_var 0) (da_cons (de_var 4) da_nil) (hk := by omega))) (dss_cons (ds_set 6 nd (de_cB call_len_seq sc_len (T.fr "len" (by decide +kernel)) b_len (da_cons (de_fld .pool 6 (T.cls _) (T.na .pool 6 rfl) (de_var 0)) da_nil))) (dss_cons (ds_fld .pool 6 (T.cls _) (T.na .pool 6 rfl) (de_var 0) (de_op od_add (de_fld .pool 6 (T.cls _) (T.na .pool 6 rfl) (de_var 0)) (de_tup (da_cons (de_tup (da_cons (de_var 1) (da_cons (de_var 4) (da_cons (de_var 5) (da_cons de_str da_nil))))) da_nil)))) (dss_one (ds_ret (de_make .job [] (fun _ => RpA.nil) c4 hr (da_cons (de_var 6) (da_cons (de_var 1) (da_cons (de_var 4) (da_cons (de_var 5) da_nil)))) (hk := by omega))))))) dss_nil))) (dss_one (ds_ret de_non)))))))⟩) h
  have b : Binds K fd ["self", "hand"] [] := F.bindsN fun _ _ _ _ _ _ us hl => match us, hl with | [_, _], _ => rfl
  exact ⟨_, fd, _, [], T.cls _, T.me 17 rfl, ok, b, .nil⟩
theorem sc_Pool_job_at : FnScope N_Pool_job_at ["self", "number"] d_Pool_job_at.scope := ⟨rfl, rfl, rfl, by decide +kernel, rfl, by decide +kernel, by decide +kernel⟩
theorem wk_Pool_job_at {k : Nat} {spd S1 : Spd} (T : Txt K mg ca fad) (c1 : C8.Cal P w K mg base k "is_number" (SpOf K ca S1) []) (h : ∀ ds st Φ, spd ds st Φ → ds.length = 2 ∧ W_Pool_job_at S1 (endD Φ) (startD N_Pool_job_at ds) st) : C8.Met P w K mg base (k + 2) (ca .pool) "job_at" (SpOf K ca spd) [] := by
  obtain ⟨fd, F⟩ := T.fn 41 (d := d_Pool_job_at) rfl
  have nd : (N_Pool_job_at).Nodup := sc_Pool_job_at.nd
  have ok : FnOk P w K mg base CX0 (k + 2) (fad d_Pool_job_at.at_) fd ["self", "number"] (SpOf K ca spd) := fn_ok F sc_Pool_job_at (fun cdv A outer s H E hr => ⟨_, by
    have u64 := hr.units
    have u65 := room65 hr
    have u1 := room1 hr
    exact (dss_cons (ds_if (dt_not (dt_val (de_call c1 hr (da_cons (de_var 1) (da_cons de_int (da_cons (de_op od_sub (de_cB call_len_seq sc_len (T.fr "len" (by decide +kernel)) b_len (da_cons (de_fld .pool 6 (T.cls _) (T.na .pool 6 rfl) (de_var 0)) da_nil)) de_int) da_nil))) (hk := by omega)))) dss_never dss_nil) (dss_one (ds_ret (de_ix (de_fld .pool 6 (T.cls _) (T.na .pool 6 rfl) (de_var 0)) (de_var 1)))))⟩) h
  have b : Binds K fd ["self", "number"] [] := F.bindsN fun _ _ _ _ _ _ us hl => match us, hl with | [_, _], _ => rfl
  exact ⟨_, fd, _, [], T.cls _, T.me 18 rfl, ok, b, .nil⟩
theorem sc_Pool_set_standing : FnScope N_Pool_set_standing ["self", "number", "standing"] d_Pool_set_standing.scope := ⟨rfl, rfl, rfl, by decide +kernel, rfl, by decide +kernel, by decide +kernel⟩
theorem wk_Pool_set_standing {k : Nat} {spd  : Spd} (T : Txt K mg ca fad)  (h : ∀ ds st Φ, spd ds st Φ → ds.length = 3 ∧ W_Pool_set_standing  (endD Φ) (startD N_Pool_set_standing ds) st) : C8.Met P w K mg base (k + 2) (ca .pool) "set_standing" (SpOf K ca spd) [] := by
  obtain ⟨fd, F⟩ := T.fn 42 (d := d_Pool_set_standing) rfl
  have nd : (N_Pool_set_standing).Nodup := sc_Pool_set_standing.nd
  have ok : FnOk P w K mg base CX0 (k + 2) (fad d_Pool_set_standing.at_) fd ["self", "number", "standing"] (SpOf K ca spd) := fn_ok F sc_Pool_set_standing (fun cdv A outer s H E hr => ⟨_, by
    have u64 := hr.units
    have u65 := room65 hr
    have u1 := room1 hr
    exact (dss_cons (ds_set 3 nd (de_lstOfO (T.fr "list" (by decide +kernel)) (da_cons (de_fld .pool 6 (T.cls _) (T.na .pool 6 rfl) (de_var 0)) da_nil))) (dss_cons (ds_asg (de_op od_add (de_sl (de_ix (de_var 3) (de_var 1)) do_none (do_some de_int)) (de_tup (da_cons (de_var 2) da_nil))) (dg_sub (de_var 3) (de_var 1))) (dss_one (ds_fld .pool 6 (T.cls _) (T.na .pool 6 rfl) (de_var 0) (de_cT call_tuple_of sc_tupOf (T.fr "tuple" (by decide +kernel)) b_tuple (da_cons (de_var 3) da_nil))))))⟩) h
  have b : Binds K fd ["self", "number", "standing"] [] := F.bindsN fun _ _ _ _ _ _ us hl => match us, hl with | [_, _, _], _ => rfl
  exact ⟨_, fd, _, [], T.cls _, T.me 19 rfl, ok, b, .nil⟩
theorem sc_Pool_note_spot : FnScope N_Pool_note_spot ["self", "road", "worth"] d_Pool_note_spot.scope := ⟨rfl, rfl, rfl, by decide +kernel, rfl, by decide +kernel, by decide +kernel⟩
theorem wk_Pool_note_spot {k : Nat} {spd S1 : Spd} (T : Txt K mg ca fad) (c1 : C8.Met P w K mg base k (ca .ask) "note_leaf" (SpOf K ca S1) []) (h : ∀ ds st Φ, spd ds st Φ → ds.length = 3 ∧ W_Pool_note_spot S1 (endD Φ) (startD N_Pool_note_spot ds) st) : C8.Met P w K mg base (k + 2) (ca .pool) "note_spot" (SpOf K ca spd) [] := by
  obtain ⟨fd, F⟩ := T.fn 43 (d := d_Pool_note_spot) rfl
  have nd : (N_Pool_note_spot).Nodup := sc_Pool_note_spot.nd
  have ok : FnOk P w K mg base CX0 (k + 2) (fad d_Pool_note_spot.at_) fd ["self", "road", "worth"] (SpOf K ca spd) := fn_ok F sc_Pool_note_spot (fun cdv A outer s H E hr => ⟨_, by
    have u64 := hr.units
    have u65 := room65 hr
    have u1 := room1 hr
    exact (dss_cons (ds_expr (de_meth .ask (by decide +kernel) c1 hr (de_fld .pool 7 (T.cls _) (T.na .pool 7 rfl) (de_var 0)) (da_cons (de_tupIx u65 (de_fld .pool 4 (T.cls _) (T.na .pool 4 rfl) (de_var 0)) (de_var 1)) (da_cons (de_var 2) da_nil)) (hk := by omega))) (dss_one (ds_fld .pool 5 (T.cls _) (T.na .pool 5 rfl) (de_var 0) (de_cT call_tuple_of sc_tupOf (T.fr "tuple" (by decide +kernel)) b_tuple (da_cons (de_cB (cr_sortedDat u64) sc_sorted (T.fr "sorted" (by decide +kernel)) b_sorted (da_cons (de_op od_add (de_cT call_list_of sc_lstOf (T.fr "list" (by decide +kernel)) b_list (da_cons (de_fld .pool 5 (T.cls _) (T.na .pool 5 rfl) (de_var 0)) da_nil)) (de_lst (da_cons (de_tup (da_cons (de_var 1) (da_cons (de_var 2) da_nil))) da_nil))) da_nil)) da_nil)))))⟩) h
  have b : Binds K fd ["self", "road", "worth"] [] := F.bindsN fun _ _ _ _ _ _ us hl => match us, hl with | [_, _, _], _ => rfl
  exact ⟨_, fd, _, [], T.cls _, T.me 20 rfl, ok, b, .nil⟩
theorem sc_Pool_give_job : FnScope N_Pool_give_job ["self", "number", "worth"] d_Pool_give_job.scope := ⟨rfl, rfl, rfl, by decide +kernel, rfl, by decide +kernel, by decide +kernel⟩
theorem wk_Pool_give_job {k : Nat} {spd S1 S2 S3 S4 : Spd} (T : Txt K mg ca fad) (c1 : C8.Met P w K mg base k (ca .pool) "job_at" (SpOf K ca S1) []) (c2 : C8.Cal P w K mg base k "stands_in" (SpOf K ca S2) []) (c3 : C8.Met P w K mg base k (ca .pool) "set_standing" (SpOf K ca S3) []) (c4 : C8.Met P w K mg base k (ca .pool) "note_spot" (SpOf K ca S4) []) (h : ∀ ds st Φ, spd ds st Φ → ds.length = 3 ∧ W_Pool_give_job S1 S2 S3 S4 (endD Φ) (startD N_Pool_give_job ds) st) : C8.Met P w K mg base (k + 2) (ca .pool) "give_job" (SpOf K ca spd) [] := by
  obtain ⟨fd, F⟩ := T.fn 44 (d := d_Pool_give_job) rfl
  have nd : (N_Pool_give_job).Nodup := sc_Pool_give_job.nd
  have ok : FnOk P w K mg base CX0 (k + 2) (fad d_Pool_give_job.at_) fd ["self", "number", "worth"] (SpOf K ca spd) := fn_ok F sc_Pool_give_job (fun cdv A outer s H E hr => ⟨_, by
    have u64 := hr.units
    have u65 := room65 hr
    have u1 := room1 hr
    exact (dss_cons (ds_set 3 nd (de_meth .pool (by decide +kernel) c1 hr (de_var 0) (da_cons (de_var 1) da_nil) (hk := by omega))) (dss_cons (ds_if (dt_cmp (od_eq u64) (de_ix (de_var 3) de_int) de_str) dss_never dss_nil) (dss_cons (ds_if (dt_not (dt_val (de_call c2 hr (da_cons (de_fld .pool 0 (T.cls _) (T.na .pool 0 rfl) (de_var 0)) (da_cons (de_var 2) da_nil)) (hk := by omega)))) dss_never dss_nil) (dss_cons (ds_expr (de_meth .pool (by decide +kernel) c3 hr (de_var 0) (da_cons (de_var 1) (da_cons de_str da_nil)) (hk := by omega))) (dss_cons (ds_if (dt_cmp (od_in u65) (de_ix (de_var 3) de_int) (de_lc 4 nd (di_tup (de_fld .pool 5 (T.cls _) (T.na .pool 5 rfl) (de_var 0))) (by intro _ _ _ _ _; exact dg_name 4 nd) (by intro _ _ _ _ _; exact dts_nil) (by intro _ _ _ _ _; exact (de_ix (de_var 4) de_int)) (blkOk_by (by kernel_rfl)))) (dss_one (ds_ret de_bl)) dss_nil) (dss_cons (ds_expr (de_meth .pool (by decide +kernel) c4 hr (de_var 0) (da_cons (de_ix (de_var 3) de_int) (da_cons (de_var 2) da_nil)) (hk := by omega))) (dss_one (ds_ret de_bl))))))))⟩) h
  have b : Binds K fd ["self", "number", "worth"] [] := F.bindsN fun _ _ _ _ _ _ us hl => match us, hl with | [_, _, _], _ => rfl
  exact ⟨_, fd, _, [], T.cls _, T.me 21 rfl, ok, b, .nil⟩
theorem sc_TreeGround_init : FnScope N_TreeGround_init ["self", "tree", "start"] d_TreeGround_init.scope := ⟨rfl, rfl, rfl, by decide +kernel, rfl, by decide +kernel, by decide +kernel⟩
theorem wk_TreeGround_init {k : Nat} {spd  : Spd} (T : Txt K mg ca fad)  (h : ∀ ds st Φ, spd ds st Φ → ds.length = 3 ∧ W_TreeGround_init  (endD Φ) (startD N_TreeGround_init ds) st) : C8.Mak P w K mg base (k + 2) "TreeGround" (ca .gro) (SpOf K ca spd) [.int 0] := by
  obtain ⟨fd, F⟩ := T.fn 45 (d := d_TreeGround_init) rfl
  have nd : (N_TreeGround_init).Nodup := sc_TreeGround_init.nd
  have ok : FnOk P w K mg base CX0 (k + 2) (fad d_TreeGround_init.at_) fd ["self", "tree", "start"] (SpOf K ca spd) := fn_ok F sc_TreeGround_init (fun cdv A outer s H E hr => ⟨_, by
    have u64 := hr.units
    have u65 := room65 hr
    have u1 := room1 hr
    exact (dss_cons (ds_fld .gro 0 (T.cls _) (T.na .gro 0 rfl) (de_var 0) (de_var 1)) (dss_one (ds_fld .gro 1 (T.cls _) (T.na .gro 1 rfl) (de_var 0) (de_var 2))))⟩) h
  obtain ⟨ds, rd, b⟩ := F.binds1 (ps := ["self", "tree", "start"]) 2 0 (by exact List.cons_ne_nil _ _) rfl fun _ _ _ _ _ _ _ us its hl hi => match us, its, hl, hi with | [_, _], [_], _, _ => ⟨_, rfl, rfl⟩
  exact ⟨_, fd, _, ds, (T.mkr .gro).1, ok, (T.mkr .gro).2, b, rd⟩
theorem sc_TreeGround_root_node : FnScope N_TreeGround_root_node ["self"] d_TreeGround_root_node.scope := ⟨rfl, rfl, rfl, by decide +kernel, rfl, by decide +kernel, by decide +kernel⟩
theorem wk_TreeGround_root_node {k : Nat} {spd  : Spd} (T : Txt K mg ca fad)  (h : ∀ ds st Φ, spd ds st Φ → ds.length = 1 ∧ W_TreeGround_root_node  (endD Φ) (startD N_TreeGround_root_node ds) st) : C8.Met P w K mg base (k + 2) (ca .gro) "root_node" (SpOf K ca spd) [] := by
  obtain ⟨fd, F⟩ := T.fn 46 (d := d_TreeGround_root_node) rfl
  have nd : (N_TreeGround_root_node).Nodup := sc_TreeGround_root_node.nd
  have ok : FnOk P w K mg base CX0 (k + 2) (fad d_TreeGround_root_node.at_) fd ["self"] (SpOf K ca spd) := fn_ok F sc_TreeGround_root_node (fun cdv A outer s H E hr => ⟨_, by
    have u64 := hr.units
    have u65 := room65 hr
    have u1 := room1 hr
    exact (dss_one (ds_ret (de_fld .gro 1 (T.cls _) (T.na .gro 1 rfl) (de_var 0))))⟩) h
  have b : Binds K fd ["self"] [] := F.bindsN fun _ _ _ _ _ _ us hl => match us, hl with | [_], _ => rfl
  exact ⟨_, fd, _, [], T.cls _, T.me 22 rfl, ok, b, .nil⟩
theorem sc_TreeGround_is_end : FnScope N_TreeGround_is_end ["self", "node"] d_TreeGround_is_end.scope := ⟨rfl, rfl, rfl, by decide +kernel, rfl, by decide +kernel, by decide +kernel⟩
theorem wk_TreeGround_is_end {k : Nat} {spd  : Spd} (T : Txt K mg ca fad)  (h : ∀ ds st Φ, spd ds st Φ → ds.length = 2 ∧ W_TreeGround_is_end  (endD Φ) (startD N_TreeGround_is_end ds) st) : C8.Met P w K mg base (k + 2) (ca .gro) "is_end" (SpOf K ca spd) [] := by
  obtain ⟨fd, F⟩ := T.fn 47 (d := d_TreeGround_is_end) rfl
  have nd : (N_TreeGround_is_end).Nodup := sc_TreeGround_is_end.nd
  have ok : FnOk P w K mg base CX0 (k + 2) (fad d_TreeGround_is_end.at_) fd ["self", "node"] (SpOf K ca spd) := fn_ok F sc_TreeGround_is_end (fun cdv A outer s H E hr => ⟨_, by
    have u64 := hr.units
    have u65 := room65 hr
    have u1 := room1 hr
    exact (dss_one (ds_ret (de_is isInt_ok (T.fr "isinstance" (by decide +kernel)) (T.fr "int" (by decide +kernel)) b_int (de_ix (de_fld .tre 1 (T.cls _) (T.na .tre 1 rfl) (de_fld .gro 0 (T.cls _) (T.na .gro 0 rfl) (de_var 0))) (de_var 1)))))⟩) h
  have b : Binds K fd ["self", "node"] [] := F.bindsN fun _ _ _ _ _ _ us hl => match us, hl with | [_, _], _ => rfl
  exact ⟨_, fd, _, [], T.cls _, T.me 23 rfl, ok, b, .nil⟩
theorem sc_TreeGround_sign_of : FnScope N_TreeGround_sign_of ["self", "node"] d_TreeGround_sign_of.scope := ⟨rfl, rfl, rfl, by decide +kernel, rfl, by decide +kernel, by decide +kernel⟩
theorem wk_TreeGround_sign_of {k : Nat} {spd  : Spd} (T : Txt K mg ca fad)  (h : ∀ ds st Φ, spd ds st Φ → ds.length = 2 ∧ W_TreeGround_sign_of  (endD Φ) (startD N_TreeGround_sign_of ds) st) : C8.Met P w K mg base (k + 2) (ca .gro) "sign_of" (SpOf K ca spd) [] := by
  obtain ⟨fd, F⟩ := T.fn 48 (d := d_TreeGround_sign_of) rfl
  have nd : (N_TreeGround_sign_of).Nodup := sc_TreeGround_sign_of.nd
  have ok : FnOk P w K mg base CX0 (k + 2) (fad d_TreeGround_sign_of.at_) fd ["self", "node"] (SpOf K ca spd) := fn_ok F sc_TreeGround_sign_of (fun cdv A outer s H E hr => ⟨_, by
    have u64 := hr.units
    have u65 := room65 hr
    have u1 := room1 hr
    exact (dss_one (ds_ret (de_ix (de_ix (de_fld .tre 1 (T.cls _) (T.na .tre 1 rfl) (de_fld .gro 0 (T.cls _) (T.na .gro 0 rfl) (de_var 0))) (de_var 1)) de_int)))⟩) h
  have b : Binds K fd ["self", "node"] [] := F.bindsN fun _ _ _ _ _ _ us hl => match us, hl with | [_, _], _ => rfl
  exact ⟨_, fd, _, [], T.cls _, T.me 24 rfl, ok, b, .nil⟩
theorem sc_TreeGround_children_of : FnScope N_TreeGround_children_of ["self", "node"] d_TreeGround_children_of.scope := ⟨rfl, rfl, rfl, by decide +kernel, rfl, by decide +kernel, by decide +kernel⟩
theorem wk_TreeGround_children_of {k : Nat} {spd  : Spd} (T : Txt K mg ca fad)  (h : ∀ ds st Φ, spd ds st Φ → ds.length = 2 ∧ W_TreeGround_children_of  (endD Φ) (startD N_TreeGround_children_of ds) st) : C8.Met P w K mg base (k + 2) (ca .gro) "children_of" (SpOf K ca spd) [] := by
  obtain ⟨fd, F⟩ := T.fn 49 (d := d_TreeGround_children_of) rfl
  have nd : (N_TreeGround_children_of).Nodup := sc_TreeGround_children_of.nd
  have ok : FnOk P w K mg base CX0 (k + 2) (fad d_TreeGround_children_of.at_) fd ["self", "node"] (SpOf K ca spd) := fn_ok F sc_TreeGround_children_of (fun cdv A outer s H E hr => ⟨_, by
    have u64 := hr.units
    have u65 := room65 hr
    have u1 := room1 hr
    exact (dss_one (ds_ret (de_ix (de_ix (de_fld .tre 1 (T.cls _) (T.na .tre 1 rfl) (de_fld .gro 0 (T.cls _) (T.na .gro 0 rfl) (de_var 0))) (de_var 1)) de_int)))⟩) h
  have b : Binds K fd ["self", "node"] [] := F.bindsN fun _ _ _ _ _ _ us hl => match us, hl with | [_, _], _ => rfl
  exact ⟨_, fd, _, [], T.cls _, T.me 25 rfl, ok, b, .nil⟩
theorem sc_L_hand : FnScope N_L_hand ["_law_script"] d_L_hand.scope := ⟨rfl, rfl, rfl, by decide +kernel, rfl, by decide +kernel, by decide +kernel⟩
theorem wk_L_hand {k : Nat} {spd  : Spd} (T : Txt K mg ca fad)  (h : ∀ ds st Φ, spd ds st Φ → ds.length = 1 ∧ W_L_hand  (endD Φ) (startD N_L_hand ds) st) : C8.Cal P w K mg base (k + 2) "_law_hand" (SpOf K ca spd) [] := by
  obtain ⟨fd, F⟩ := T.fn 50 (d := d_L_hand) rfl
  have nd : (N_L_hand).Nodup := sc_L_hand.nd
  have ok : FnOk P w K mg base CX0 (k + 2) (fad d_L_hand.at_) fd ["_law_script"] (SpOf K ca spd) := fn_ok F sc_L_hand (fun cdv A outer s H E hr => ⟨_, by
    have u64 := hr.units
    have u65 := room65 hr
    have u1 := room1 hr
    exact (dss_cons (ds_set 1 nd (de_op od_add (de_cB call_len_seq sc_len (T.fr "len" (by decide +kernel)) b_len (da_cons (de_var 0) da_nil)) de_int)) (dss_cons (ds_set 2 nd (de_lstO da_nil)) (dss_cons (ds_for (di_lst (de_var 0)) (dg_name 3 nd) (dss_cons (ds_set 1 nd (de_op od_mod (de_cT call_int1 sc_int (T.fr "int" (by decide +kernel)) b_int (da_cons (de_op od_add (de_op od_mul (de_var 1) de_int) (de_cT call_int1 sc_int (T.fr "int" (by decide +kernel)) b_int (da_cons (de_var 3) da_nil))) da_nil)) de_int)) (dss_one (ds_expr (de_app (de_var 2) (de_cB call_abs sc_abs (T.fr "abs" (by decide +kernel)) b_abs (da_cons (de_cT call_int1 sc_int (T.fr "int" (by decide +kernel)) b_int (da_cons (de_var 3) da_nil)) da_nil))))))) (dss_frz 2 (dss_one (ds_ret (de_lstO (da_cons (de_var 2) (da_cons de_int (da_cons de_int (da_cons (de_var 1) da_nil)))))))))))⟩) h
  have b : Binds K fd ["_law_script"] [] := F.bindsN fun _ _ _ _ _ _ us hl => match us, hl with | [_], _ => rfl
  exact ⟨_, fd, _, [], ok, T.gl 17 rfl, F.kp, b, .nil⟩
theorem sc_L_mixed : FnScope N_L_mixed ["_law_number", "_law_turn"] d_L_mixed.scope := ⟨rfl, rfl, rfl, by decide +kernel, rfl, by decide +kernel, by decide +kernel⟩
theorem wk_L_mixed {k : Nat} {spd  : Spd} (T : Txt K mg ca fad)  (h : ∀ ds st Φ, spd ds st Φ → ds.length = 2 ∧ W_L_mixed  (endD Φ) (startD N_L_mixed ds) st) : C8.Cal P w K mg base (k + 2) "_law_mixed" (SpOf K ca spd) [] := by
  obtain ⟨fd, F⟩ := T.fn 51 (d := d_L_mixed) rfl
  have nd : (N_L_mixed).Nodup := sc_L_mixed.nd
  have ok : FnOk P w K mg base CX0 (k + 2) (fad d_L_mixed.at_) fd ["_law_number", "_law_turn"] (SpOf K ca spd) := fn_ok F sc_L_mixed (fun cdv A outer s H E hr => ⟨_, by
    have u64 := hr.units
    have u65 := room65 hr
    have u1 := room1 hr
    exact (dss_cons (ds_set 2 nd (de_op od_mod (de_cT call_int1 sc_int (T.fr "int" (by decide +kernel)) b_int (da_cons (de_op od_add (de_op od_add (de_op od_mul (de_var 0) de_int) (de_op od_mul (de_var 1) de_int)) de_int) da_nil)) de_int)) (dss_cons (ds_set 3 nd (de_op od_mod (de_cT call_int1 sc_int (T.fr "int" (by decide +kernel)) b_int (da_cons (de_op od_add (de_op od_add (de_op od_mul (de_var 2) (de_var 2)) (de_op od_mul (de_var 1) de_int)) (de_op od_div (de_var 2) de_int)) da_nil)) de_int)) (dss_one (ds_ret (de_op od_div (de_cT call_int1 sc_int (T.fr "int" (by decide +kernel)) b_int (da_cons (de_op od_mod (de_cT call_int1 sc_int (T.fr "int" (by decide +kernel)) b_int (da_cons (de_op od_add (de_op od_mul (de_var 3) de_int) (de_op od_div (de_var 2) de_int)) da_nil)) de_int) da_nil)) de_int)))))⟩) h
  have b : Binds K fd ["_law_number", "_law_turn"] [] := F.bindsN fun _ _ _ _ _ _ us hl => match us, hl with | [_, _], _ => rfl
  exact ⟨_, fd, _, [], ok, T.gl 18 rfl, F.kp, b, .nil⟩
theorem sc_L_take : FnScope N_L_take ["_law_hand_here", "_law_many"] d_L_take.scope := ⟨rfl, rfl, rfl, by decide +kernel, rfl, by decide +kernel, by decide +kernel⟩
theorem wk_L_take {k : Nat} {spd S1 : Spd} (T : Txt K mg ca fad) (c1 : C8.Cal P w K mg base k "_law_mixed" (SpOf K ca S1) []) (h : ∀ ds st Φ, spd ds st Φ → ds.length = 2 ∧ W_L_take S1 (endD Φ) (startD N_L_take ds) st) : C8.Cal P w K mg base (k + 2) "_law_take" (SpOf K ca spd) [] := by
  obtain ⟨fd, F⟩ := T.fn 52 (d := d_L_take) rfl
  have nd : (N_L_take).Nodup := sc_L_take.nd
  have ok : FnOk P w K mg base CX0 (k + 2) (fad d_L_take.at_) fd ["_law_hand_here", "_law_many"] (SpOf K ca spd) := fn_ok F sc_L_take (fun cdv A outer s H E hr => ⟨_, by
    have u64 := hr.units
    have u65 := room65 hr
    have u1 := room1 hr
    exact (dss_cons (ds_if (dt_w (dw_and (dt_cmp (od_eq u64) (de_ix (de_var 0) de_int) de_int) (dw_and1 (dt_cmp od_lt (de_ix (de_var 0) de_int) (de_cB call_len_seq sc_len (T.fr "len" (by decide +kernel)) b_len (da_cons (de_ix (de_var 0) de_int) da_nil)))))) (dss_cons (ds_set 2 nd (de_ix (de_ix (de_var 0) de_int) (de_ix (de_var 0) de_int))) (dss_cons (ds_asg (de_op od_add (de_ix (de_var 0) de_int) de_int) (dg_sub (de_var 0) de_int)) (dss_cons (ds_if (dt_cmp od_lt (de_var 2) (de_op od_pow de_int de_int)) (dss_one (ds_ret (de_op od_mod (de_cT call_int1 sc_int (T.fr "int" (by decide +kernel)) b_int (da_cons (de_call c1 hr (da_cons (de_op od_mod (de_cT call_int1 sc_int (T.fr "int" (by decide +kernel)) b_int (da_cons (de_var 2) da_nil)) de_int) (da_cons (de_ix (de_var 0) de_int) da_nil)) (hk := by omega)) da_nil)) (de_var 1)))) dss_nil) (dss_one (ds_asg (de_var 2) (dg_sub (de_var 0) de_int)))))) dss_nil) (dss_cons (ds_if (dt_cmp od_gt (de_ix (de_var 0) de_int) de_int) (dss_cons (ds_set 3 nd (de_ix (de_var 0) de_int)) (dss_cons (ds_asg (de_op od_div (de_cT call_int1 sc_int (T.fr "int" (by decide +kernel)) b_int (da_cons (de_var 3) da_nil)) (de_var 1)) (dg_sub (de_var 0) de_int)) (dss_one (ds_ret (de_op od_mod (de_cT call_int1 sc_int (T.fr "int" (by decide +kernel)) b_int (da_cons (de_var 3) da_nil)) (de_var 1)))))) dss_nil) (dss_cons (ds_asg (de_op od_mod (de_cT call_int1 sc_int (T.fr "int" (by decide +kernel)) b_int (da_cons (de_op od_add (de_ix (de_var 0) de_int) de_int) da_nil)) de_int) (dg_sub (de_var 0) de_int)) (dss_one (ds_ret (de_op od_mod (de_cT call_int1 sc_int (T.fr "int" (by decide +kernel)) b_int (da_cons (de_call c1 hr (da_cons (de_ix (de_var 0) de_int) (da_cons (de_ix (de_var 0) de_int) da_nil)) (hk := by omega)) da_nil)) (de_var 1)))))))⟩) h
  have b : Binds K fd ["_law_hand_here", "_law_many"] [] := F.bindsN fun _ _ _ _ _ _ us hl => match us, hl with | [_, _], _ => rfl
  exact ⟨_, fd, _, [], ok, T.gl 19 rfl, F.kp, b, .nil⟩
theorem sc_L_whole : FnScope N_L_whole ["_law_thing"] d_L_whole.scope := ⟨rfl, rfl, rfl, by decide +kernel, rfl, by decide +kernel, by decide +kernel⟩
theorem wk_L_whole {k : Nat} {spd  : Spd} (T : Txt K mg ca fad)  (h : ∀ ds st Φ, spd ds st Φ → ds.length = 1 ∧ W_L_whole  (endD Φ) (startD N_L_whole ds) st) : C8.Cal P w K mg base (k + 2) "_law_whole" (SpOf K ca spd) [] := by
  obtain ⟨fd, F⟩ := T.fn 53 (d := d_L_whole) rfl
  have nd : (N_L_whole).Nodup := sc_L_whole.nd
  have ok : FnOk P w K mg base CX0 (k + 2) (fad d_L_whole.at_) fd ["_law_thing"] (SpOf K ca spd) := fn_ok F sc_L_whole (fun cdv A outer s H E hr => ⟨_, by
    have u64 := hr.units
    have u65 := room65 hr
    have u1 := room1 hr
    exact (dss_one (ds_ret (de_and (de_is isInt_ok (T.fr "isinstance" (by decide +kernel)) (T.fr "int" (by decide +kernel)) b_int (de_var 0)) (de_one (de_not (de_is isBool_ok (T.fr "isinstance" (by decide +kernel)) (T.fr "bool" (by decide +kernel)) b_bool (de_var 0)))))))⟩) h
  have b : Binds K fd ["_law_thing"] [] := F.bindsN fun _ _ _ _ _ _ us hl => match us, hl with | [_], _ => rfl
  exact ⟨_, fd, _, [], ok, T.gl 20 rfl, F.kp, b, .nil⟩
end
end Cw

set_option Elab.async false
set_option linter.all false
set_option maxRecDepth 100000
set_option maxHeartbeats 0
namespace Cw
open PySem L2 L2.DX PyProof.Rows PySem.Spec DL
section
variable {P : Program} {w : World} {K : PySem.W.Frag} {mg : Str → Option Value} {base : Heap} {ca : Cl → Addr} {fad : Str × Option Str → Addr}
theorem sc_L_lattice : FnScope N_L_lattice ["_law_sets"] d_L_lattice.scope := ⟨rfl, rfl, rfl, by decide +kernel, rfl, by decide +kernel, by decide +kernel⟩
theorem wk_L_lattice {k : Nat} {spd S1 : Spd} (T : Txt K mg ca fad) (c1 : C8.Cal P w K mg base k "_law_bound" (SpOf K ca S1) []) (h : ∀ ds st Φ, spd ds st Φ → ds.length = 1 ∧ W_L_lattice S1 (endD Φ) (startD N_L_lattice ds) st) : C8.Cal P w K mg base (k + 2) "_law_lattice" (SpOf K ca spd) [] := by
  obtain ⟨fd, F⟩ := T.fn 54 (d := d_L_lattice) rfl
  have nd : (N_L_lattice).Nodup := sc_L_lattice.nd
  have ok : FnOk P w K mg base CX0 (k + 2) (fad d_L_lattice.at_) fd ["_law_sets"] (SpOf K ca spd) := fn_ok F sc_L_lattice (fun cdv A outer s H E hr => ⟨_, by
    have u64 := hr.units
    have u65 := room65 hr
    have u1 := room1 hr
    exact (dss_cons (ds_set 1 nd (de_cB call_len_seq sc_len (T.fr "len" (by decide +kernel)) b_len (da_cons (de_var 0) da_nil))) (dss_cons (ds_set 2 nd (de_lstO da_nil)) (dss_cons (ds_for (di_lst (de_var 0)) (dg_name 3 nd) (dss_one (ds_expr (de_app (de_var 2) (de_lc 9 nd (di_lst (de_var 0)) (by intro _ _ _ _ _; exact dg_name 9 nd) (by intro _ _ _ _ _; exact dts_nil) (by intro _ _ _ _ _; exact (de_cmp (od_eq u64) (de_cB call_len_seq sc_len (T.fr "len" (by decide +kernel)) b_len (da_cons (de_lc 4 nd (di_tup (de_var 3)) (by intro _ _ _ _ _; exact dg_name 4 nd) (by intro _ _ _ _ _; exact (dts_one (dt_cmp (od_notIn u65) (de_var 4) (de_var 9)))) (by intro _ _ _ _ _; exact (de_var 4)) (blkOk_by (by kernel_rfl))) da_nil)) de_int)) (blkOk_by (by kernel_rfl))))))) (dss_frz 2 (dss_cons (ds_set 5 nd (de_lstO da_nil)) (dss_cons (ds_set 6 nd (de_lstO da_nil)) (dss_cons (ds_for (di_rg (T.fr "range" (by decide +kernel)) (da_cons (de_var 1) da_nil)) (dg_name 4 nd) (dss_cons (ds_expr (de_app (de_var 5) (de_lc 10 nd (di_rg (T.fr "range" (by decide +kernel)) (da_cons (de_var 1) da_nil)) (by intro _ _ _ _ _; exact dg_name 10 nd) (by intro _ _ _ _ _; exact dts_nil) (by intro _ _ _ _ _; exact (de_call c1 hr (da_cons (de_var 2) (da_cons (de_var 1) (da_cons (de_var 4) (da_cons (de_var 10) (da_cons de_bl da_nil))))) (hk := by omega))) (blkOk_by (by kernel_rfl))))) (dss_one (ds_expr (de_app (de_var 6) (de_lc 10 nd (di_rg (T.fr "range" (by decide +kernel)) (da_cons (de_var 1) da_nil)) (by intro _ _ _ _ _; exact dg_name 10 nd) (by intro _ _ _ _ _; exact dts_nil) (by intro _ _ _ _ _; exact (de_call c1 hr (da_cons (de_var 2) (da_cons (de_var 1) (da_cons (de_var 4) (da_cons (de_var 10) (da_cons de_bl da_nil))))) (hk := by omega))) (blkOk_by (by kernel_rfl)))))))) (dss_frz 5 (dss_frz 6 (dss_cons (ds_set 7 nd (de_ix (de_lc 4 nd (di_rg (T.fr "range" (by decide +kernel)) (da_cons (de_var 1) da_nil)) (by intro _ _ _ _ _; exact dg_name 4 nd) (by intro _ _ _ _ _; exact (dts_one (dt_cmp (od_eq u64) (de_cB call_len_seq sc_len (T.fr "len" (by decide +kernel)) b_len (da_cons (de_lc 10 nd (di_rg (T.fr "range" (by decide +kernel)) (da_cons (de_var 1) da_nil)) (by intro _ _ _ _ _; exact dg_name 10 nd) (by intro _ _ _ _ _; exact (dts_one (dt_val (de_ix (de_ix (de_var 2) (de_var 4)) (de_var 10))))) (by intro _ _ _ _ _; exact (de_var 10)) (blkOk_by (by kernel_rfl))) da_nil)) (de_var 1)))) (by intro _ _ _ _ _; exact (de_var 4)) (blkOk_by (by kernel_rfl))) de_int)) (dss_cons (ds_set 8 nd (de_ix (de_lc 4 nd (di_rg (T.fr "range" (by decide +kernel)) (da_cons (de_var 1) da_nil)) (by intro _ _ _ _ _; exact dg_name 4 nd) (by intro _ _ _ _ _; exact (dts_one (dt_cmp (od_eq u64) (de_cB call_len_seq sc_len (T.fr "len" (by decide +kernel)) b_len (da_cons (de_lc 10 nd (di_rg (T.fr "range" (by decide +kernel)) (da_cons (de_var 1) da_nil)) (by intro _ _ _ _ _; exact dg_name 10 nd) (by intro _ _ _ _ _; exact (dts_one (dt_val (de_ix (de_ix (de_var 2) (de_var 10)) (de_var 4))))) (by intro _ _ _ _ _; exact (de_var 10)) (blkOk_by (by kernel_rfl))) da_nil)) (de_var 1)))) (by intro _ _ _ _ _; exact (de_var 4)) (blkOk_by (by kernel_rfl))) de_int)) (dss_one (ds_ret (de_lst (da_cons (de_var 1) (da_cons (de_var 2) (da_cons (de_var 5) (da_cons (de_var 6) (da_cons (de_var 7) (da_cons (de_var 8) da_nil))))))))))))))))))))⟩) h
  have b : Binds K fd ["_law_sets"] [] := F.bindsN fun _ _ _ _ _ _ us hl => match us, hl with | [_], _ => rfl
  exact ⟨_, fd, _, [], ok, T.gl 21 rfl, F.kp, b, .nil⟩
theorem sc_L_bound : FnScope N_L_bound ["_law_table", "_law_size", "_law_x", "_law_y", "_law_up"] d_L_bound.scope := ⟨rfl, rfl, rfl, by decide +kernel, rfl, by decide +kernel, by decide +kernel⟩
theorem wk_L_bound {k : Nat} {spd  : Spd} (T : Txt K mg ca fad)  (h : ∀ ds st Φ, spd ds st Φ → ds.length = 5 ∧ W_L_bound  (endD Φ) (startD N_L_bound ds) st) : C8.Cal P w K mg base (k + 2) "_law_bound" (SpOf K ca spd) [] := by
  obtain ⟨fd, F⟩ := T.fn 55 (d := d_L_bound) rfl
  have nd : (N_L_bound).Nodup := sc_L_bound.nd
  have ok : FnOk P w K mg base CX0 (k + 2) (fad d_L_bound.at_) fd ["_law_table", "_law_size", "_law_x", "_law_y", "_law_up"] (SpOf K ca spd) := fn_ok F sc_L_bound (fun cdv A outer s H E hr => ⟨_, by
    have u64 := hr.units
    have u65 := room65 hr
    have u1 := room1 hr
    exact (dss_cons (ds_if (dt_val (de_var 4)) (dss_cons (ds_set 5 nd (de_lc 6 nd (di_rg (T.fr "range" (by decide +kernel)) (da_cons (de_var 1) da_nil)) (by intro _ _ _ _ _; exact dg_name 6 nd) (by intro _ _ _ _ _; exact (dts_one (dt_w (dw_and (dt_val (de_ix (de_ix (de_var 0) (de_var 2)) (de_var 6))) (dw_and1 (dt_val (de_ix (de_ix (de_var 0) (de_var 3)) (de_var 6)))))))) (by intro _ _ _ _ _; exact (de_var 6)) (blkOk_by (by kernel_rfl)))) (dss_one (ds_ret (de_ix (de_lc 6 nd (di_lst (de_var 5)) (by intro _ _ _ _ _; exact dg_name 6 nd) (by intro _ _ _ _ _; exact (dts_one (dt_cmp (od_eq u64) (de_cB call_len_seq sc_len (T.fr "len" (by decide +kernel)) b_len (da_cons (de_lc 7 nd (di_lst (de_var 5)) (by intro _ _ _ _ _; exact dg_name 7 nd) (by intro _ _ _ _ _; exact (dts_one (dt_val (de_ix (de_ix (de_var 0) (de_var 6)) (de_var 7))))) (by intro _ _ _ _ _; exact (de_var 7)) (blkOk_by (by kernel_rfl))) da_nil)) (de_cB call_len_seq sc_len (T.fr "len" (by decide +kernel)) b_len (da_cons (de_var 5) da_nil))))) (by intro _ _ _ _ _; exact (de_var 6)) (blkOk_by (by kernel_rfl))) de_int)))) dss_nil) (dss_cons (ds_set 5 nd (de_lc 6 nd (di_rg (T.fr "range" (by decide +kernel)) (da_cons (de_var 1) da_nil)) (by intro _ _ _ _ _; exact dg_name 6 nd) (by intro _ _ _ _ _; exact (dts_one (dt_w (dw_and (dt_val (de_ix (de_ix (de_var 0) (de_var 6)) (de_var 2))) (dw_and1 (dt_val (de_ix (de_ix (de_var 0) (de_var 6)) (de_var 3)))))))) (by intro _ _ _ _ _; exact (de_var 6)) (blkOk_by (by kernel_rfl)))) (dss_one (ds_ret (de_ix (de_lc 6 nd (di_lst (de_var 5)) (by intro _ _ _ _ _; exact dg_name 6 nd) (by intro _ _ _ _ _; exact (dts_one (dt_cmp (od_eq u64) (de_cB call_len_seq sc_len (T.fr "len" (by decide +kernel)) b_len (da_cons (de_lc 7 nd (di_lst (de_var 5)) (by intro _ _ _ _ _; exact dg_name 7 nd) (by intro _ _ _ _ _; exact (dts_one (dt_val (de_ix (de_ix (de_var 0) (de_var 7)) (de_var 6))))) (by intro _ _ _ _ _; exact (de_var 7)) (blkOk_by (by kernel_rfl))) da_nil)) (de_cB call_len_seq sc_len (T.fr "len" (by decide +kernel)) b_len (da_cons (de_var 5) da_nil))))) (by intro _ _ _ _ _; exact (de_var 6)) (blkOk_by (by kernel_rfl))) de_int)))))⟩) h
  have b : Binds K fd ["_law_table", "_law_size", "_law_x", "_law_y", "_law_up"] [] := F.bindsN fun _ _ _ _ _ _ us hl => match us, hl with | [_, _, _, _, _], _ => rfl
  exact ⟨_, fd, _, [], ok, T.gl 22 rfl, F.kp, b, .nil⟩
theorem sc_L_lowers : FnScope N_L_lowers ["_law_n", "_law_below"] d_L_lowers.scope := ⟨rfl, rfl, rfl, by decide +kernel, rfl, by decide +kernel, by decide +kernel⟩
theorem wk_L_lowers {k : Nat} {spd  : Spd} (T : Txt K mg ca fad)  (h : ∀ ds st Φ, spd ds st Φ → ds.length = 2 ∧ W_L_lowers  (endD Φ) (startD N_L_lowers ds) st) : C8.Cal P w K mg base (k + 2) "_law_lowers" (SpOf K ca spd) [] := by
  obtain ⟨fd, F⟩ := T.fn 56 (d := d_L_lowers) rfl
  have nd : (N_L_lowers).Nodup := sc_L_lowers.nd
  have ok : FnOk P w K mg base CX0 (k + 2) (fad d_L_lowers.at_) fd ["_law_n", "_law_below"] (SpOf K ca spd) := fn_ok F sc_L_lowers (fun cdv A outer s H E hr => ⟨_, by
    have u64 := hr.units
    have u65 := room65 hr
    have u1 := room1 hr
    exact (dss_cons (ds_set 2 nd (de_lst (da_cons (de_tup da_nil) da_nil))) (dss_cons (ds_for (di_rg (T.fr "range" (by decide +kernel)) (da_cons (de_var 0) da_nil)) (dg_name 3 nd) (dss_cons (ds_set 4 nd (de_lstO da_nil)) (dss_cons (ds_for (di_lst (de_var 2)) (dg_name 5 nd) (dss_one (ds_if (dt_cmp (od_eq u64) (de_cB call_len_seq sc_len (T.fr "len" (by decide +kernel)) b_len (da_cons (de_lc 6 nd (di_lst (de_ix (de_var 1) (de_var 3))) (by intro _ _ _ _ _; exact dg_name 6 nd) (by intro _ _ _ _ _; exact (dts_one (dt_cmp (od_notIn u65) (de_var 6) (de_var 5)))) (by intro _ _ _ _ _; exact (de_var 6)) (blkOk_by (by kernel_rfl))) da_nil)) de_int) (dss_one (ds_expr (de_app (de_var 4) (de_op od_add (de_var 5) (de_tup (da_cons (de_var 3) da_nil)))))) dss_nil))) (dss_frz 4 (dss_one (ds_set 2 nd (de_op od_add (de_var 2) (de_var 4)))))))) (dss_one (ds_ret (de_var 2)))))⟩) h
  have b : Binds K fd ["_law_n", "_law_below"] [] := F.bindsN fun _ _ _ _ _ _ us hl => match us, hl with | [_, _], _ => rfl
  exact ⟨_, fd, _, [], ok, T.gl 23 rfl, F.kp, b, .nil⟩
theorem sc_L_drawn_lowers : FnScope N_L_drawn_lowers ["_law_hand_here", "_law_points", "_law_most"] d_L_drawn_lowers.scope := ⟨rfl, rfl, rfl, by decide +kernel, rfl, by decide +kernel, by decide +kernel⟩
theorem wk_L_drawn_lowers {k : Nat} {spd S1 S2 : Spd} (T : Txt K mg ca fad) (c1 : C8.Cal P w K mg base k "_law_take" (SpOf K ca S1) []) (c2 : C8.Cal P w K mg base k "_law_lowers" (SpOf K ca S2) []) (h : ∀ ds st Φ, spd ds st Φ → ds.length = 3 ∧ W_L_drawn_lowers S1 S2 (endD Φ) (startD N_L_drawn_lowers ds) st) : C8.Cal P w K mg base (k + 2) "_law_drawn_lowers" (SpOf K ca spd) [] := by
  obtain ⟨fd, F⟩ := T.fn 57 (d := d_L_drawn_lowers) rfl
  have nd : (N_L_drawn_lowers).Nodup := sc_L_drawn_lowers.nd
  have ok : FnOk P w K mg base CX0 (k + 2) (fad d_L_drawn_lowers.at_) fd ["_law_hand_here", "_law_points", "_law_most"] (SpOf K ca spd) := fn_ok F sc_L_drawn_lowers (fun cdv A outer s H E hr => ⟨_, by
    have u64 := hr.units
    have u65 := room65 hr
    have u1 := room1 hr
    exact (dss_cons (ds_set 3 nd (de_call c1 hr (da_cons (de_var 0) (da_cons (de_op od_add (de_var 1) de_int) da_nil)) (hk := by omega))) (dss_cons (ds_set 4 nd (de_lstO da_nil)) (dss_cons (ds_for (di_rg (T.fr "range" (by decide +kernel)) (da_cons (de_var 3) da_nil)) (dg_name 5 nd) (dss_one (ds_expr (de_app (de_var 4) (de_lc 8 nd (di_rg (T.fr "range" (by decide +kernel)) (da_cons (de_var 5) da_nil)) (by intro _ _ _ _ _; exact dg_name 8 nd) (by intro _ _ _ _ _; exact (dts_one (dt_cmp (od_eq u64) (de_call c1 hr (da_cons (de_var 0) (da_cons de_int da_nil)) (hk := by omega)) de_int))) (by intro _ _ _ _ _; exact (de_var 8)) (blkOk_by (by kernel_rfl))))))) (dss_frz 4 (dss_cons (ds_for (di_rg (T.fr "range" (by decide +kernel)) (da_cons (de_op od_add (de_var 3) de_int) da_nil)) (dg_name 6 nd) (dss_cons (ds_set 7 nd (de_call c2 hr (da_cons (de_var 3) (da_cons (de_var 4) da_nil)) (hk := by omega))) (dss_cons (ds_if (dt_cmp od_le (de_cB call_len_seq sc_len (T.fr "len" (by decide +kernel)) b_len (da_cons (de_var 7) da_nil)) (de_var 2)) (dss_one (ds_ret (de_var 7))) dss_nil) (dss_one (ds_set 3 nd (de_op od_sub (de_var 3) de_int)))))) (dss_one (ds_ret (de_lst (da_cons (de_tup da_nil) da_nil)))))))))⟩) h
  have b : Binds K fd ["_law_hand_here", "_law_points", "_law_most"] [] := F.bindsN fun _ _ _ _ _ _ us hl => match us, hl with | [_, _, _], _ => rfl
  exact ⟨_, fd, _, [], ok, T.gl 24 rfl, F.kp, b, .nil⟩
theorem sc_L_shuffled : FnScope N_L_shuffled ["_law_hand_here", "_law_things"] d_L_shuffled.scope := ⟨rfl, rfl, rfl, by decide +kernel, rfl, by decide +kernel, by decide +kernel⟩
theorem wk_L_shuffled {k : Nat} {spd S1 : Spd} (T : Txt K mg ca fad) (c1 : C8.Cal P w K mg base k "_law_take" (SpOf K ca S1) []) (h : ∀ ds st Φ, spd ds st Φ → ds.length = 2 ∧ W_L_shuffled S1 (endD Φ) (startD N_L_shuffled ds) st) : C8.Cal P w K mg base (k + 2) "_law_shuffled" (SpOf K ca spd) [] := by
  obtain ⟨fd, F⟩ := T.fn 58 (d := d_L_shuffled) rfl
  have nd : (N_L_shuffled).Nodup := sc_L_shuffled.nd
  have ok : FnOk P w K mg base CX0 (k + 2) (fad d_L_shuffled.at_) fd ["_law_hand_here", "_law_things"] (SpOf K ca spd) := fn_ok F sc_L_shuffled (fun cdv A outer s H E hr => ⟨_, by
    have u64 := hr.units
    have u65 := room65 hr
    have u1 := room1 hr
    exact (dss_cons (ds_set 2 nd (de_lstOfO (T.fr "list" (by decide +kernel)) (da_cons (de_var 1) da_nil))) (dss_cons (ds_set 3 nd (de_lstO da_nil)) (dss_cons (ds_for (di_rg (T.fr "range" (by decide +kernel)) (da_cons (de_cB call_len_seq sc_len (T.fr "len" (by decide +kernel)) b_len (da_cons (de_var 1) da_nil)) da_nil)) (dg_name 4 nd) (dss_one (ds_expr (de_app (de_var 3) (de_pop (de_var 2) (de_call c1 hr (da_cons (de_var 0) (da_cons (de_cB call_len_seq sc_len (T.fr "len" (by decide +kernel)) b_len (da_cons (de_var 2) da_nil)) da_nil)) (hk := by omega))))))) (dss_one (ds_ret (de_var 3))))))⟩) h
  have b : Binds K fd ["_law_hand_here", "_law_things"] [] := F.bindsN fun _ _ _ _ _ _ us hl => match us, hl with | [_, _], _ => rfl
  exact ⟨_, fd, _, [], ok, T.gl 25 rfl, F.kp, b, .nil⟩
theorem sc_L_join_all : FnScope N_L_join_all ["_law_plain_here", "_law_worths"] d_L_join_all.scope := ⟨rfl, rfl, rfl, by decide +kernel, rfl, by decide +kernel, by decide +kernel⟩
theorem wk_L_join_all {k : Nat} {spd  : Spd} (T : Txt K mg ca fad)  (h : ∀ ds st Φ, spd ds st Φ → ds.length = 2 ∧ W_L_join_all  (endD Φ) (startD N_L_join_all ds) st) : C8.Cal P w K mg base (k + 2) "_law_join_all" (SpOf K ca spd) [] := by
  obtain ⟨fd, F⟩ := T.fn 59 (d := d_L_join_all) rfl
  have nd : (N_L_join_all).Nodup := sc_L_join_all.nd
  have ok : FnOk P w K mg base CX0 (k + 2) (fad d_L_join_all.at_) fd ["_law_plain_here", "_law_worths"] (SpOf K ca spd) := fn_ok F sc_L_join_all (fun cdv A outer s H E hr => ⟨_, by
    have u64 := hr.units
    have u65 := room65 hr
    have u1 := room1 hr
    exact (dss_cons (ds_set 2 nd (de_ix (de_var 0) de_int)) (dss_cons (ds_for (di_lst (de_var 1)) (dg_name 3 nd) (dss_one (ds_set 2 nd (de_ix (de_ix (de_ix (de_var 0) de_int) (de_var 2)) (de_var 3))))) (dss_one (ds_ret (de_var 2)))))⟩) h
  have b : Binds K fd ["_law_plain_here", "_law_worths"] [] := F.bindsN fun _ _ _ _ _ _ us hl => match us, hl with | [_, _], _ => rfl
  exact ⟨_, fd, _, [], ok, T.gl 26 rfl, F.kp, b, .nil⟩
theorem sc_L_meet_all : FnScope N_L_meet_all ["_law_plain_here", "_law_worths"] d_L_meet_all.scope := ⟨rfl, rfl, rfl, by decide +kernel, rfl, by decide +kernel, by decide +kernel⟩
theorem wk_L_meet_all {k : Nat} {spd  : Spd} (T : Txt K mg ca fad)  (h : ∀ ds st Φ, spd ds st Φ → ds.length = 2 ∧ W_L_meet_all  (endD Φ) (startD N_L_meet_all ds) st) : C8.Cal P w K mg base (k + 2) "_law_meet_all" (SpOf K ca spd) [] := by
  obtain ⟨fd, F⟩ := T.fn 60 (d := d_L_meet_all) rfl
  have nd : (N_L_meet_all).Nodup := sc_L_meet_all.nd
  have ok : FnOk P w K mg base CX0 (k + 2) (fad d_L_meet_all.at_) fd ["_law_plain_here", "_law_worths"] (SpOf K ca spd) := fn_ok F sc_L_meet_all (fun cdv A outer s H E hr => ⟨_, by
    have u64 := hr.units
    have u65 := room65 hr
    have u1 := room1 hr
    exact (dss_cons (ds_set 2 nd (de_ix (de_var 0) de_int)) (dss_cons (ds_for (di_lst (de_var 1)) (dg_name 3 nd) (dss_one (ds_set 2 nd (de_ix (de_ix (de_ix (de_var 0) de_int) (de_var 2)) (de_var 3))))) (dss_one (ds_ret (de_var 2)))))⟩) h
  have b : Binds K fd ["_law_plain_here", "_law_worths"] [] := F.bindsN fun _ _ _ _ _ _ us hl => match us, hl with | [_, _], _ => rfl
  exact ⟨_, fd, _, [], ok, T.gl 27 rfl, F.kp, b, .nil⟩
theorem sc_L_value : FnScope N_L_value ["_law_plain_here", "_law_context", "_law_worth"] d_L_value.scope := ⟨rfl, rfl, rfl, by decide +kernel, rfl, by decide +kernel, by decide +kernel⟩
theorem wk_L_value {k : Nat} {spd  : Spd} (T : Txt K mg ca fad)  (h : ∀ ds st Φ, spd ds st Φ → ds.length = 3 ∧ W_L_value  (endD Φ) (startD N_L_value ds) st) : C8.Cal P w K mg base (k + 2) "_law_value" (SpOf K ca spd) [] := by
  obtain ⟨fd, F⟩ := T.fn 61 (d := d_L_value) rfl
  have nd : (N_L_value).Nodup := sc_L_value.nd
  have ok : FnOk P w K mg base CX0 (k + 2) (fad d_L_value.at_) fd ["_law_plain_here", "_law_context", "_law_worth"] (SpOf K ca spd) := fn_ok F sc_L_value (fun cdv A outer s H E hr => ⟨_, by
    have u64 := hr.units
    have u65 := room65 hr
    have u1 := room1 hr
    exact (dss_one (ds_ret (de_ix (de_ix (de_ix (de_var 0) de_int) (de_ix (de_var 1) de_int)) (de_ix (de_ix (de_ix (de_var 0) de_int) (de_ix (de_var 1) de_int)) (de_var 2)))))⟩) h
  have b : Binds K fd ["_law_plain_here", "_law_context", "_law_worth"] [] := F.bindsN fun _ _ _ _ _ _ us hl => match us, hl with | [_, _, _], _ => rfl
  exact ⟨_, fd, _, [], ok, T.gl 28 rfl, F.kp, b, .nil⟩
theorem sc_L_hangs : FnScope N_L_hangs ["_law_plain_here", "_law_context"] d_L_hangs.scope := ⟨rfl, rfl, rfl, by decide +kernel, rfl, by decide +kernel, by decide +kernel⟩
theorem wk_L_hangs {k : Nat} {spd  : Spd} (T : Txt K mg ca fad)  (h : ∀ ds st Φ, spd ds st Φ → ds.length = 2 ∧ W_L_hangs  (endD Φ) (startD N_L_hangs ds) st) : C8.Cal P w K mg base (k + 2) "_law_hangs" (SpOf K ca spd) [] := by
  obtain ⟨fd, F⟩ := T.fn 62 (d := d_L_hangs) rfl
  have nd : (N_L_hangs).Nodup := sc_L_hangs.nd
  have ok : FnOk P w K mg base CX0 (k + 2) (fad d_L_hangs.at_) fd ["_law_plain_here", "_law_context"] (SpOf K ca spd) := fn_ok F sc_L_hangs (fun cdv A outer s H E hr => ⟨_, by
    have u64 := hr.units
    have u65 := room65 hr
    have u1 := room1 hr
    exact (dss_one (ds_ret (de_not (de_ix (de_ix (de_ix (de_var 0) de_int) (de_ix (de_var 1) de_int)) (de_ix (de_var 1) de_int)))))⟩) h
  have b : Binds K fd ["_law_plain_here", "_law_context"] [] := F.bindsN fun _ _ _ _ _ _ us hl => match us, hl with | [_, _], _ => rfl
  exact ⟨_, fd, _, [], ok, T.gl 29 rfl, F.kp, b, .nil⟩
theorem sc_L_inner : FnScope N_L_inner ["_law_plain_here", "_law_sign", "_law_context", "_law_so_far"] d_L_inner.scope := ⟨rfl, rfl, rfl, by decide +kernel, rfl, by decide +kernel, by decide +kernel⟩
theorem wk_L_inner {k : Nat} {spd  : Spd} (T : Txt K mg ca fad)  (h : ∀ ds st Φ, spd ds st Φ → ds.length = 4 ∧ W_L_inner  (endD Φ) (startD N_L_inner ds) st) : C8.Cal P w K mg base (k + 2) "_law_inner" (SpOf K ca spd) [] := by
  obtain ⟨fd, F⟩ := T.fn 63 (d := d_L_inner) rfl
  have nd : (N_L_inner).Nodup := sc_L_inner.nd
  have ok : FnOk P w K mg base CX0 (k + 2) (fad d_L_inner.at_) fd ["_law_plain_here", "_law_sign", "_law_context", "_law_so_far"] (SpOf K ca spd) := fn_ok F sc_L_inner (fun cdv A outer s H E hr => ⟨_, by
    have u64 := hr.units
    have u65 := room65 hr
    have u1 := room1 hr
    exact (dss_cons (ds_if (dt_cmp (od_eq u64) (de_var 1) de_str) (dss_one (ds_ret (de_tup (da_cons (de_ix (de_ix (de_ix (de_var 0) de_int) (de_ix (de_var 2) de_int)) (de_ix (de_ix (de_ix (de_var 0) de_int) (de_ix (de_var 2) de_int)) (de_var 3))) (da_cons (de_ix (de_var 2) de_int) da_nil))))) dss_nil) (dss_one (ds_ret (de_tup (da_cons (de_ix (de_var 2) de_int) (da_cons (de_ix (de_ix (de_ix (de_var 0) de_int) (de_ix (de_var 2) de_int)) (de_var 3)) da_nil))))))⟩) h
  have b : Binds K fd ["_law_plain_here", "_law_sign", "_law_context", "_law_so_far"] [] := F.bindsN fun _ _ _ _ _ _ us hl => match us, hl with | [_, _, _, _], _ => rfl
  exact ⟨_, fd, _, [], ok, T.gl 30 rfl, F.kp, b, .nil⟩
theorem sc_L_drawn_tree : FnScope N_L_drawn_tree ["_law_hand_here", "_law_size", "_law_budget", "_law_deep"] d_L_drawn_tree.scope := ⟨rfl, rfl, rfl, by decide +kernel, rfl, by decide +kernel, by decide +kernel⟩
theorem wk_L_drawn_tree {k : Nat} {spd S1 S2 : Spd} (T : Txt K mg ca fad) (c1 : C8.Cal P w K mg base k "_law_take" (SpOf K ca S1) []) (c2 : C8.Cal P w K mg base k "_law_grown" (SpOf K ca S2) []) (h : ∀ ds st Φ, spd ds st Φ → ds.length = 4 ∧ W_L_drawn_tree S1 S2 (endD Φ) (startD N_L_drawn_tree ds) st) : C8.Cal P w K mg base (k + 2) "_law_drawn_tree" (SpOf K ca spd) [] := by
  obtain ⟨fd, F⟩ := T.fn 64 (d := d_L_drawn_tree) rfl
  have nd : (N_L_drawn_tree).Nodup := sc_L_drawn_tree.nd
  have ok : FnOk P w K mg base CX0 (k + 2) (fad d_L_drawn_tree.at_) fd ["_law_hand_here", "_law_size", "_law_budget", "_law_deep"] (SpOf K ca spd) := fn_ok F sc_L_drawn_tree (fun cdv A outer s H E hr => ⟨_, by
    have u64 := hr.units
    have u65 := room65 hr
    have u1 := room1 hr
    exact (dss_cons (ds_set 4 nd (de_lRg (T.fr "list" (by decide +kernel)) (T.fr "range" (by decide +kernel)) (de_var 1))) (dss_cons (ds_if (dt_cmp (od_eq u64) (de_call c1 hr (da_cons (de_var 0) (da_cons de_int da_nil)) (hk := by omega)) de_int) (dss_one (ds_setLc 4 5 nd (di_rg (T.fr "range" (by decide +kernel)) (da_cons de_int da_nil)) (by intro _ _ _ _ _; exact dg_name 5 nd) (by intro _ _ _ _ _; exact dts_nil) (by intro _ _ _ _ _; exact (de_call c1 hr (da_cons (de_var 0) (da_cons (de_var 1) da_nil)) (hk := by omega))) (blkOk_by (by kernel_rfl)))) dss_nil) (dss_one (ds_ret (de_call c2 hr (da_cons (de_var 0) (da_cons (de_var 4) (da_cons (de_var 2) (da_cons (de_var 3) (da_cons (de_call c1 hr (da_cons (de_var 0) (da_cons de_int da_nil)) (hk := by omega)) da_nil))))) (hk := by omega))))))⟩) h
  have b : Binds K fd ["_law_hand_here", "_law_size", "_law_budget", "_law_deep"] [] := F.bindsN fun _ _ _ _ _ _ us hl => match us, hl with | [_, _, _, _], _ => rfl
  exact ⟨_, fd, _, [], ok, T.gl 31 rfl, F.kp, b, .nil⟩
theorem sc_L_grown : FnScope N_L_grown ["_law_hand_here", "_law_pool", "_law_budget", "_law_deep", "_law_turn"] d_L_grown.scope := ⟨rfl, rfl, rfl, by decide +kernel, rfl, by decide +kernel, by decide +kernel⟩
theorem wk_L_grown {k : Nat} {spd S1 S2 S3 : Spd} (T : Txt K mg ca fad) (c1 : C8.Cal P w K mg base k "_law_take" (SpOf K ca S1) []) (c2 : C8.Cal P w K mg base k "_law_grown" (SpOf K ca S2) []) (c3 : C8.Cal P w K mg base k "_law_leaves" (SpOf K ca S3) []) (h : ∀ ds st Φ, spd ds st Φ → ds.length = 5 ∧ W_L_grown S1 S2 S3 (endD Φ) (startD N_L_grown ds) st) : C8.Cal P w K mg base (k + 2) "_law_grown" (SpOf K ca spd) [] := by
  obtain ⟨fd, F⟩ := T.fn 65 (d := d_L_grown) rfl
  have nd : (N_L_grown).Nodup := sc_L_grown.nd
  have ok : FnOk P w K mg base CX0 (k + 2) (fad d_L_grown.at_) fd ["_law_hand_here", "_law_pool", "_law_budget", "_law_deep", "_law_turn"] (SpOf K ca spd) := fn_ok F sc_L_grown (fun cdv A outer s H E hr => ⟨_, by
    have u64 := hr.units
    have u65 := room65 hr
    have u1 := room1 hr
    exact (dss_cons (ds_if (dt_w (dw_or (dt_cmp (od_eq u64) (de_var 3) de_int) (dw_or (dt_cmp od_le (de_var 2) de_int) (dw_or1 (dt_w (dw_and (dt_cmp od_lt (de_var 2) de_int) (dw_and1 (dt_cmp (od_eq u64) (de_call c1 hr (da_cons (de_var 0) (da_cons de_int da_nil)) (hk := by omega)) de_int)))))))) (dss_one (ds_ret (de_ix (de_var 1) (de_call c1 hr (da_cons (de_var 0) (da_cons (de_cB call_len_seq sc_len (T.fr "len" (by decide +kernel)) b_len (da_cons (de_var 1) da_nil)) da_nil)) (hk := by omega))))) dss_nil) (dss_cons (ds_set 5 nd (de_op od_add de_int (de_call c1 hr (da_cons (de_var 0) (da_cons de_int da_nil)) (hk := by omega)))) (dss_cons (ds_if (dt_w (dw_and (dt_cmp (od_eq u64) (de_var 5) de_int) (dw_and1 (dt_cmp od_gt (de_call c1 hr (da_cons (de_var 0) (da_cons de_int da_nil)) (hk := by omega)) de_int)))) (dss_one (ds_set 5 nd de_int)) dss_nil) (dss_cons (ds_set 5 nd (de_cB (call_min2 rfl) sc_min (T.fr "min" (by decide +kernel)) b_min (da_cons (de_var 5) (da_cons (de_var 2) da_nil)))) (dss_cons (ds_set 6 nd (de_lstO da_nil)) (dss_cons (ds_set 7 nd (de_var 2)) (dss_cons (ds_for (di_rg (T.fr "range" (by decide +kernel)) (da_cons (de_var 5) da_nil)) (dg_name 8 nd) (dss_cons (ds_set 9 nd (de_cB (call_max2 rfl) sc_max (T.fr "max" (by decide +kernel)) b_max (da_cons de_int (da_cons (de_op od_div (de_op od_sub (de_var 7) (de_op od_sub (de_op od_sub (de_var 5) de_int) (de_var 8))) (de_op od_sub (de_var 5) (de_var 8))) da_nil)))) (dss_cons (ds_if (dt_w (dw_and (dt_cmp od_lt (de_var 8) (de_op od_sub (de_var 5) de_int)) (dw_and1 (dt_cmp (od_eq u64) (de_call c1 hr (da_cons (de_var 0) (da_cons de_int da_nil)) (hk := by omega)) de_int)))) (dss_one (ds_set 9 nd (de_cB (call_max2 rfl) sc_max (T.fr "max" (by decide +kernel)) b_max (da_cons de_int (da_cons (de_op od_sub (de_var 7) (de_op od_sub (de_op od_sub (de_var 5) de_int) (de_var 8))) da_nil))))) dss_nil) (dss_cons (ds_set 10 nd (de_op od_sub de_int (de_var 4))) (dss_cons (ds_if (dt_cmp (od_eq u64) (de_call c1 hr (da_cons (de_var 0) (da_cons de_int da_nil)) (hk := by omega)) de_int) (dss_one (ds_set 10 nd (de_var 4))) dss_nil) (dss_cons (ds_set 11 nd (de_call c2 hr (da_cons (de_var 0) (da_cons (de_var 1) (da_cons (de_var 9) (da_cons (de_op od_sub (de_var 3) de_int) (da_cons (de_var 10) da_nil))))) (hk := by omega))) (dss_cons (ds_expr (de_app (de_var 6) (de_var 11))) (dss_one (ds_set 7 nd (de_cB (call_max2 rfl) sc_max (T.fr "max" (by decide +kernel)) b_max (da_cons de_int (da_cons (de_op od_sub (de_var 7) (de_call c3 hr (da_cons (de_var 11) da_nil) (hk := by omega))) da_nil)))))))))))) (dss_one (ds_ret (de_tup (da_cons (de_ix (de_tup (da_cons de_str (da_cons de_str da_nil))) (de_var 4)) (da_cons (de_cT call_tuple_of sc_tupOf (T.fr "tuple" (by decide +kernel)) b_tuple (da_cons (de_var 6) da_nil)) da_nil))))))))))))⟩) h
  have b : Binds K fd ["_law_hand_here", "_law_pool", "_law_budget", "_law_deep", "_law_turn"] [] := F.bindsN fun _ _ _ _ _ _ us hl => match us, hl with | [_, _, _, _, _], _ => rfl
  exact ⟨_, fd, _, [], ok, T.gl 32 rfl, F.kp, b, .nil⟩
end
end Cw

set_option Elab.async false
set_option linter.all false
set_option maxRecDepth 100000
set_option maxHeartbeats 0
namespace Cw
open PySem L2 L2.DX PyProof.Rows PySem.Spec DL
section
variable {P : Program} {w : World} {K : PySem.W.Frag} {mg : Str → Option Value} {base : Heap} {ca : Cl → Addr} {fad : Str × Option Str → Addr}
theorem sc_L_leaves : FnScope N_L_leaves ["_law_shape"] d_L_leaves.scope := ⟨rfl, rfl, rfl, by decide +kernel, rfl, by decide +kernel, by decide +kernel⟩
theorem wk_L_leaves {k : Nat} {spd S1 S2 : Spd} (T : Txt K mg ca fad) (c1 : C8.Cal P w K mg base k "_law_whole" (SpOf K ca S1) []) (c2 : C8.Cal P w K mg base k "_law_leaves" (SpOf K ca S2) []) (h : ∀ ds st Φ, spd ds st Φ → ds.length = 1 ∧ W_L_leaves S1 S2 (endD Φ) (startD N_L_leaves ds) st) : C8.Cal P w K mg base (k + 2) "_law_leaves" (SpOf K ca spd) [] := by
  obtain ⟨fd, F⟩ := T.fn 66 (d := d_L_leaves) rfl
  have nd : (N_L_leaves).Nodup := sc_L_leaves.nd
  have ok : FnOk P w K mg base CX0 (k + 2) (fad d_L_leaves.at_) fd ["_law_shape"] (SpOf K ca spd) := fn_ok F sc_L_leaves (fun cdv A outer s H E hr => ⟨_, by
    have u64 := hr.units
    have u65 := room65 hr
    have u1 := room1 hr
    exact (dss_cons (ds_if (dt_val (de_call c1 hr (da_cons (de_var 0) da_nil) (hk := by omega))) (dss_one (ds_ret de_int)) dss_nil) (dss_one (ds_ret (de_cB (cr_sum rfl) sc_sum (T.fr "sum" (by decide +kernel)) b_sum (da_cons (de_lc 1 nd (di_tup (de_ix (de_var 0) de_int)) (by intro _ _ _ _ _; exact dg_name 1 nd) (by intro _ _ _ _ _; exact dts_nil) (by intro _ _ _ _ _; exact (de_call c2 hr (da_cons (de_var 1) da_nil) (hk := by omega))) (blkOk_by (by kernel_rfl))) da_nil)))))⟩) h
  have b : Binds K fd ["_law_shape"] [] := F.bindsN fun _ _ _ _ _ _ us hl => match us, hl with | [_], _ => rfl
  exact ⟨_, fd, _, [], ok, T.gl 33 rfl, F.kp, b, .nil⟩
theorem sc_L_plain : FnScope N_L_plain ["_law_plain_here", "_law_shape"] d_L_plain.scope := ⟨rfl, rfl, rfl, by decide +kernel, rfl, by decide +kernel, by decide +kernel⟩
theorem wk_L_plain {k : Nat} {spd S1 S2 S3 S4 : Spd} (T : Txt K mg ca fad) (c1 : C8.Cal P w K mg base k "_law_whole" (SpOf K ca S1) []) (c2 : C8.Cal P w K mg base k "_law_plain" (SpOf K ca S2) []) (c3 : C8.Cal P w K mg base k "_law_join_all" (SpOf K ca S3) []) (c4 : C8.Cal P w K mg base k "_law_meet_all" (SpOf K ca S4) []) (h : ∀ ds st Φ, spd ds st Φ → ds.length = 2 ∧ W_L_plain S1 S2 S3 S4 (endD Φ) (startD N_L_plain ds) st) : C8.Cal P w K mg base (k + 2) "_law_plain" (SpOf K ca spd) [] := by
  obtain ⟨fd, F⟩ := T.fn 67 (d := d_L_plain) rfl
  have nd : (N_L_plain).Nodup := sc_L_plain.nd
  have ok : FnOk P w K mg base CX0 (k + 2) (fad d_L_plain.at_) fd ["_law_plain_here", "_law_shape"] (SpOf K ca spd) := fn_ok F sc_L_plain (fun cdv A outer s H E hr => ⟨_, by
    have u64 := hr.units
    have u65 := room65 hr
    have u1 := room1 hr
    exact (dss_cons (ds_if (dt_val (de_call c1 hr (da_cons (de_var 1) da_nil) (hk := by omega))) (dss_one (ds_ret (de_var 1))) dss_nil) (dss_cons (ds_setLc 2 3 nd (di_tup (de_ix (de_var 1) de_int)) (by intro _ _ _ _ _; exact dg_name 3 nd) (by intro _ _ _ _ _; exact dts_nil) (by intro _ _ _ _ _; exact (de_call c2 hr (da_cons (de_var 0) (da_cons (de_var 3) da_nil)) (hk := by omega))) (blkOk_by (by kernel_rfl))) (dss_cons (ds_if (dt_cmp (od_eq u64) (de_ix (de_var 1) de_int) de_str) (dss_one (ds_ret (de_call c3 hr (da_cons (de_var 0) (da_cons (de_var 2) da_nil)) (hk := by omega)))) dss_nil) (dss_one (ds_ret (de_call c4 hr (da_cons (de_var 0) (da_cons (de_var 2) da_nil)) (hk := by omega)))))))⟩) h
  have b : Binds K fd ["_law_plain_here", "_law_shape"] [] := F.bindsN fun _ _ _ _ _ _ us hl => match us, hl with | [_, _], _ => rfl
  exact ⟨_, fd, _, [], ok, T.gl 34 rfl, F.kp, b, .nil⟩
theorem sc_L_dist_plain : FnScope N_L_dist_plain ["_law_hand_here"] d_L_dist_plain.scope := ⟨rfl, rfl, rfl, by decide +kernel, rfl, by decide +kernel, by decide +kernel⟩
theorem wk_L_dist_plain {k : Nat} {spd S1 S2 S3 S4 : Spd} (T : Txt K mg ca fad) (c1 : C8.Cal P w K mg base k "_law_drawn_lowers" (SpOf K ca S1) []) (c2 : C8.Cal P w K mg base k "_law_take" (SpOf K ca S2) []) (c3 : C8.Cal P w K mg base k "_law_lattice" (SpOf K ca S3) []) (c4 : C8.Cal P w K mg base k "_law_shuffled" (SpOf K ca S4) []) (h : ∀ ds st Φ, spd ds st Φ → ds.length = 1 ∧ W_L_dist_plain S1 S2 S3 S4 (endD Φ) (startD N_L_dist_plain ds) st) : C8.Cal P w K mg base (k + 2) "_law_dist_plain" (SpOf K ca spd) [] := by
  obtain ⟨fd, F⟩ := T.fn 68 (d := d_L_dist_plain) rfl
  have nd : (N_L_dist_plain).Nodup := sc_L_dist_plain.nd
  have ok : FnOk P w K mg base CX0 (k + 2) (fad d_L_dist_plain.at_) fd ["_law_hand_here"] (SpOf K ca spd) := fn_ok F sc_L_dist_plain (fun cdv A outer s H E hr => ⟨_, by
    have u64 := hr.units
    have u65 := room65 hr
    have u1 := room1 hr
    exact (dss_cons (ds_set 1 nd (de_call c1 hr (da_cons (de_var 0) (da_cons de_int (da_cons de_int da_nil))) (hk := by omega))) (dss_cons (ds_if (dt_w (dw_and (dt_cmp (od_eq u64) (de_cB call_len_seq sc_len (T.fr "len" (by decide +kernel)) b_len (da_cons (de_var 1) da_nil)) de_int) (dw_and1 (dt_cmp od_gt (de_call c2 hr (da_cons (de_var 0) (da_cons de_int da_nil)) (hk := by omega)) de_int)))) (dss_one (ds_set 1 nd (de_lst (da_cons (de_tup da_nil) (da_cons (de_tup (da_cons de_int da_nil)) (da_cons (de_tup (da_cons de_int da_nil)) (da_cons (de_tup (da_cons de_int (da_cons de_int da_nil))) da_nil))))))) dss_nil) (dss_one (ds_ret (de_call c3 hr (da_cons (de_call c4 hr (da_cons (de_var 0) (da_cons (de_var 1) da_nil)) (hk := by omega)) da_nil) (hk := by omega))))))⟩) h
  have b : Binds K fd ["_law_hand_here"] [] := F.bindsN fun _ _ _ _ _ _ us hl => match us, hl with | [_], _ => rfl
  exact ⟨_, fd, _, [], ok, T.gl 35 rfl, F.kp, b, .nil⟩
theorem sc_L_made_lattice : FnScope N_L_made_lattice ["_law_plain_here"] d_L_made_lattice.scope := ⟨rfl, rfl, rfl, by decide +kernel, rfl, by decide +kernel, by decide +kernel⟩
theorem wk_L_made_lattice {k : Nat} {spd S1 : Spd} (T : Txt K mg ca fad) (c1 : C8.Mak P w K mg base k "Lattice" (ca .lat) (SpOf K ca S1) []) (h : ∀ ds st Φ, spd ds st Φ → ds.length = 1 ∧ W_L_made_lattice S1 (endD Φ) (startD N_L_made_lattice ds) st) : C8.Cal P w K mg base (k + 2) "_law_made_lattice" (SpOf K ca spd) [] := by
  obtain ⟨fd, F⟩ := T.fn 69 (d := d_L_made_lattice) rfl
  have nd : (N_L_made_lattice).Nodup := sc_L_made_lattice.nd
  have ok : FnOk P w K mg base CX0 (k + 2) (fad d_L_made_lattice.at_) fd ["_law_plain_here"] (SpOf K ca spd) := fn_ok F sc_L_made_lattice (fun cdv A outer s H E hr => ⟨_, by
    have u64 := hr.units
    have u65 := room65 hr
    have u1 := room1 hr
    exact (dss_one (ds_ret (de_make .lat [] (fun _ => RpA.nil) c1 hr (da_cons (de_lc 1 nd (di_lst (de_ix (de_var 0) de_int)) (by intro _ _ _ _ _; exact dg_name 1 nd) (by intro _ _ _ _ _; exact dts_nil) (by intro _ _ _ _ _; exact (de_cT call_list_of sc_lstOf (T.fr "list" (by decide +kernel)) b_list (da_cons (de_var 1) da_nil))) (blkOk_by (by kernel_rfl))) da_nil) (hk := by omega))))⟩) h
  have b : Binds K fd ["_law_plain_here"] [] := F.bindsN fun _ _ _ _ _ _ us hl => match us, hl with | [_], _ => rfl
  exact ⟨_, fd, _, [], ok, T.gl 36 rfl, F.kp, b, .nil⟩
theorem sc_L_ends : FnScope N_L_ends ["_law_shape", "_law_road"] d_L_ends.scope := ⟨rfl, rfl, rfl, by decide +kernel, rfl, by decide +kernel, by decide +kernel⟩
theorem wk_L_ends {k : Nat} {spd S1 S2 : Spd} (T : Txt K mg ca fad) (c1 : C8.Cal P w K mg base k "_law_whole" (SpOf K ca S1) []) (c2 : C8.Cal P w K mg base k "_law_ends" (SpOf K ca S2) []) (h : ∀ ds st Φ, spd ds st Φ → ds.length = 2 ∧ W_L_ends S1 S2 (endD Φ) (startD N_L_ends ds) st) : C8.Cal P w K mg base (k + 2) "_law_ends" (SpOf K ca spd) [] := by
  obtain ⟨fd, F⟩ := T.fn 70 (d := d_L_ends) rfl
  have nd : (N_L_ends).Nodup := sc_L_ends.nd
  have ok : FnOk P w K mg base CX0 (k + 2) (fad d_L_ends.at_) fd ["_law_shape", "_law_road"] (SpOf K ca spd) := fn_ok F sc_L_ends (fun cdv A outer s H E hr => ⟨_, by
    have u64 := hr.units
    have u65 := room65 hr
    have u1 := room1 hr
    exact (dss_cons (ds_if (dt_val (de_call c1 hr (da_cons (de_var 0) da_nil) (hk := by omega))) (dss_one (ds_ret (de_lst (da_cons (de_var 1) da_nil)))) dss_nil) (dss_cons (ds_set 2 nd (de_lst da_nil)) (dss_cons (ds_for (di_rg (T.fr "range" (by decide +kernel)) (da_cons (de_cB call_len_seq sc_len (T.fr "len" (by decide +kernel)) b_len (da_cons (de_ix (de_var 0) de_int) da_nil)) da_nil)) (dg_name 3 nd) (dss_one (ds_set 2 nd (de_op od_add (de_var 2) (de_call c2 hr (da_cons (de_ix (de_ix (de_var 0) de_int) (de_var 3)) (da_cons (de_op od_add (de_var 1) (de_tup (da_cons (de_var 3) da_nil))) da_nil)) (hk := by omega)))))) (dss_one (ds_ret (de_var 2))))))⟩) h
  have b : Binds K fd ["_law_shape", "_law_road"] [] := F.bindsN fun _ _ _ _ _ _ us hl => match us, hl with | [_, _], _ => rfl
  exact ⟨_, fd, _, [], ok, T.gl 37 rfl, F.kp, b, .nil⟩
theorem sc_L_agreeing : FnScope N_L_agreeing ["_law_plain_here", "_law_context", "_law_worth"] d_L_agreeing.scope := ⟨rfl, rfl, rfl, by decide +kernel, rfl, by decide +kernel, by decide +kernel⟩
theorem wk_L_agreeing {k : Nat} {spd S1 : Spd} (T : Txt K mg ca fad) (c1 : C8.Cal P w K mg base k "_law_value" (SpOf K ca S1) []) (h : ∀ ds st Φ, spd ds st Φ → ds.length = 3 ∧ W_L_agreeing S1 (endD Φ) (startD N_L_agreeing ds) st) : C8.Cal P w K mg base (k + 2) "_law_agreeing" (SpOf K ca spd) [] := by
  obtain ⟨fd, F⟩ := T.fn 71 (d := d_L_agreeing) rfl
  have nd : (N_L_agreeing).Nodup := sc_L_agreeing.nd
  have ok : FnOk P w K mg base CX0 (k + 2) (fad d_L_agreeing.at_) fd ["_law_plain_here", "_law_context", "_law_worth"] (SpOf K ca spd) := fn_ok F sc_L_agreeing (fun cdv A outer s H E hr => ⟨_, by
    have u64 := hr.units
    have u65 := room65 hr
    have u1 := room1 hr
    exact (dss_cons (ds_set 3 nd (de_call c1 hr (da_cons (de_var 0) (da_cons (de_var 1) (da_cons (de_var 2) da_nil))) (hk := by omega))) (dss_one (ds_ret (de_lc 4 nd (di_rg (T.fr "range" (by decide +kernel)) (da_cons (de_ix (de_var 0) de_int) da_nil)) (by intro _ _ _ _ _; exact dg_name 4 nd) (by intro _ _ _ _ _; exact (dts_one (dt_cmp (od_eq u64) (de_call c1 hr (da_cons (de_var 0) (da_cons (de_var 1) (da_cons (de_var 4) da_nil))) (hk := by omega)) (de_var 3)))) (by intro _ _ _ _ _; exact (de_var 4)) (blkOk_by (by kernel_rfl))))))⟩) h
  have b : Binds K fd ["_law_plain_here", "_law_context", "_law_worth"] [] := F.bindsN fun _ _ _ _ _ _ us hl => match us, hl with | [_, _, _], _ => rfl
  exact ⟨_, fd, _, [], ok, T.gl 38 rfl, F.kp, b, .nil⟩
theorem sc_L_upper : FnScope N_L_upper ["_law_shape", "_law_depth"] d_L_upper.scope := ⟨rfl, rfl, rfl, by decide +kernel, rfl, by decide +kernel, by decide +kernel⟩
theorem wk_L_upper {k : Nat} {spd S1 S2 : Spd} (T : Txt K mg ca fad) (c1 : C8.Cal P w K mg base k "_law_whole" (SpOf K ca S1) []) (c2 : C8.Cal P w K mg base k "_law_upper" (SpOf K ca S2) []) (h : ∀ ds st Φ, spd ds st Φ → ds.length = 2 ∧ W_L_upper S1 S2 (endD Φ) (startD N_L_upper ds) st) : C8.Cal P w K mg base (k + 2) "_law_upper" (SpOf K ca spd) [] := by
  obtain ⟨fd, F⟩ := T.fn 72 (d := d_L_upper) rfl
  have nd : (N_L_upper).Nodup := sc_L_upper.nd
  have ok : FnOk P w K mg base CX0 (k + 2) (fad d_L_upper.at_) fd ["_law_shape", "_law_depth"] (SpOf K ca spd) := fn_ok F sc_L_upper (fun cdv A outer s H E hr => ⟨_, by
    have u64 := hr.units
    have u65 := room65 hr
    have u1 := room1 hr
    exact (dss_cons (ds_if (dt_w (dw_or (dt_cmp (od_eq u64) (de_var 1) de_int) (dw_or1 (dt_val (de_call c1 hr (da_cons (de_var 0) da_nil) (hk := by omega)))))) (dss_one (ds_ret de_int)) dss_nil) (dss_one (ds_ret (de_tup (da_cons (de_ix (de_var 0) de_int) (da_cons (de_cT call_tuple_of sc_tupOf (T.fr "tuple" (by decide +kernel)) b_tuple (da_cons (de_lc 2 nd (di_tup (de_ix (de_var 0) de_int)) (by intro _ _ _ _ _; exact dg_name 2 nd) (by intro _ _ _ _ _; exact dts_nil) (by intro _ _ _ _ _; exact (de_call c2 hr (da_cons (de_var 2) (da_cons (de_op od_sub (de_var 1) de_int) da_nil)) (hk := by omega))) (blkOk_by (by kernel_rfl))) da_nil)) da_nil))))))⟩) h
  have b : Binds K fd ["_law_shape", "_law_depth"] [] := F.bindsN fun _ _ _ _ _ _ us hl => match us, hl with | [_, _], _ => rfl
  exact ⟨_, fd, _, [], ok, T.gl 39 rfl, F.kp, b, .nil⟩
theorem sc_L_fold : FnScope N_L_fold ["_law_plain_here", "_law_upper_here", "_law_known", "_law_fill", "_law_road"] d_L_fold.scope := ⟨rfl, rfl, rfl, by decide +kernel, rfl, by decide +kernel, by decide +kernel⟩
theorem wk_L_fold {k : Nat} {spd S1 S2 S3 S4 : Spd} (T : Txt K mg ca fad) (c1 : C8.Cal P w K mg base k "_law_whole" (SpOf K ca S1) []) (c2 : C8.Cal P w K mg base k "_law_fold" (SpOf K ca S2) []) (c3 : C8.Cal P w K mg base k "_law_join_all" (SpOf K ca S3) []) (c4 : C8.Cal P w K mg base k "_law_meet_all" (SpOf K ca S4) []) (h : ∀ ds st Φ, spd ds st Φ → ds.length = 5 ∧ W_L_fold S1 S2 S3 S4 (endD Φ) (startD N_L_fold ds) st) : C8.Cal P w K mg base (k + 2) "_law_fold" (SpOf K ca spd) [] := by
  obtain ⟨fd, F⟩ := T.fn 73 (d := d_L_fold) rfl
  have nd : (N_L_fold).Nodup := sc_L_fold.nd
  have ok : FnOk P w K mg base CX0 (k + 2) (fad d_L_fold.at_) fd ["_law_plain_here", "_law_upper_here", "_law_known", "_law_fill", "_law_road"] (SpOf K ca spd) := fn_ok F sc_L_fold (fun cdv A outer s H E hr => ⟨_, by
    have u64 := hr.units
    have u65 := room65 hr
    have u1 := room1 hr
    exact (dss_cons (ds_if (dt_val (de_call c1 hr (da_cons (de_var 1) da_nil) (hk := by omega))) (dss_one (ds_ret (de_dget2 u1 (de_var 2) (de_var 4) (de_var 3)))) dss_nil) (dss_cons (ds_setLc 5 6 nd (di_rg (T.fr "range" (by decide +kernel)) (da_cons (de_cB call_len_seq sc_len (T.fr "len" (by decide +kernel)) b_len (da_cons (de_ix (de_var 1) de_int) da_nil)) da_nil)) (by intro _ _ _ _ _; exact dg_name 6 nd) (by intro _ _ _ _ _; exact dts_nil) (by intro _ _ _ _ _; exact (de_call c2 hr (da_cons (de_var 0) (da_cons (de_ix (de_ix (de_var 1) de_int) (de_var 6)) (da_cons (de_var 2) (da_cons (de_var 3) (da_cons (de_op od_add (de_var 4) (de_tup (da_cons (de_var 6) da_nil))) da_nil))))) (hk := by omega))) (blkOk_by (by kernel_rfl))) (dss_cons (ds_if (dt_cmp (od_eq u64) (de_ix (de_var 1) de_int) de_str) (dss_one (ds_ret (de_call c3 hr (da_cons (de_var 0) (da_cons (de_var 5) da_nil)) (hk := by omega)))) dss_nil) (dss_one (ds_ret (de_call c4 hr (da_cons (de_var 0) (da_cons (de_var 5) da_nil)) (hk := by omega)))))))⟩) h
  have b : Binds K fd ["_law_plain_here", "_law_upper_here", "_law_known", "_law_fill", "_law_road"] [] := F.bindsN fun _ _ _ _ _ _ us hl => match us, hl with | [_, _, _, _, _], _ => rfl
  exact ⟨_, fd, _, [], ok, T.gl 40 rfl, F.kp, b, .nil⟩
theorem sc_L_spot_context : FnScope N_L_spot_context ["_law_plain_here", "_law_upper_here", "_law_known", "_law_road"] d_L_spot_context.scope := ⟨rfl, rfl, rfl, by decide +kernel, rfl, by decide +kernel, by decide +kernel⟩
theorem wk_L_spot_context {k : Nat} {spd S1 S2 S3 S4 : Spd} (T : Txt K mg ca fad) (c1 : C8.Cal P w K mg base k "_law_fold" (SpOf K ca S1) []) (c2 : C8.Cal P w K mg base k "_law_meet_all" (SpOf K ca S2) []) (c3 : C8.Cal P w K mg base k "_law_join_all" (SpOf K ca S3) []) (c4 : C8.Cal P w K mg base k "_law_inner" (SpOf K ca S4) []) (h : ∀ ds st Φ, spd ds st Φ → ds.length = 4 ∧ W_L_spot_context S1 S2 S3 S4 (endD Φ) (startD N_L_spot_context ds) st) : C8.Cal P w K mg base (k + 2) "_law_spot_context" (SpOf K ca spd) [] := by
  obtain ⟨fd, F⟩ := T.fn 74 (d := d_L_spot_context) rfl
  have nd : (N_L_spot_context).Nodup := sc_L_spot_context.nd
  have ok : FnOk P w K mg base CX0 (k + 2) (fad d_L_spot_context.at_) fd ["_law_plain_here", "_law_upper_here", "_law_known", "_law_road"] (SpOf K ca spd) := fn_ok F sc_L_spot_context (fun cdv A outer s H E hr => ⟨_, by
    have u64 := hr.units
    have u65 := room65 hr
    have u1 := room1 hr
    exact (dss_cons (ds_set 4 nd (de_tup (da_cons (de_ix (de_var 0) de_int) (da_cons (de_ix (de_var 0) de_int) da_nil)))) (dss_cons (ds_set 5 nd (de_var 1)) (dss_cons (ds_for (di_rg (T.fr "range" (by decide +kernel)) (da_cons (de_cB call_len_seq sc_len (T.fr "len" (by decide +kernel)) b_len (da_cons (de_var 3) da_nil)) da_nil)) (dg_name 6 nd) (dss_cons (ds_set 7 nd (de_ix (de_var 0) de_int)) (dss_cons (ds_if (dt_cmp (od_eq u64) (de_ix (de_var 5) de_int) de_str) (dss_one (ds_set 7 nd (de_ix (de_var 0) de_int))) dss_nil) (dss_cons (ds_setLc 8 11 nd (di_rg (T.fr "range" (by decide +kernel)) (da_cons (de_cB call_len_seq sc_len (T.fr "len" (by decide +kernel)) b_len (da_cons (de_ix (de_var 5) de_int) da_nil)) da_nil)) (by intro _ _ _ _ _; exact dg_name 11 nd) (by intro _ _ _ _ _; exact (dts_one (dt_cmp (od_ne u64) (de_var 11) (de_ix (de_var 3) (de_var 6))))) (by intro _ _ _ _ _; exact (de_var 11)) (blkOk_by (by kernel_rfl))) (dss_cons (ds_setLc 9 11 nd (di_lst (de_var 8)) (by intro _ _ _ _ _; exact dg_name 11 nd) (by intro _ _ _ _ _; exact dts_nil) (by intro _ _ _ _ _; exact (de_call c1 hr (da_cons (de_var 0) (da_cons (de_ix (de_ix (de_var 5) de_int) (de_var 11)) (da_cons (de_var 2) (da_cons (de_var 7) (da_cons (de_op od_add (de_sl (de_var 3) do_none (do_some (de_var 6))) (de_tup (da_cons (de_var 11) da_nil))) da_nil))))) (hk := by omega))) (blkOk_by (by kernel_rfl))) (dss_cons (ds_set 10 nd (de_call c2 hr (da_cons (de_var 0) (da_cons (de_var 9) da_nil)) (hk := by omega))) (dss_cons (ds_if (dt_cmp (od_eq u64) (de_ix (de_var 5) de_int) de_str) (dss_one (ds_set 10 nd (de_call c3 hr (da_cons (de_var 0) (da_cons (de_var 9) da_nil)) (hk := by omega)))) dss_nil) (dss_cons (ds_set 4 nd (de_call c4 hr (da_cons (de_var 0) (da_cons (de_ix (de_var 5) de_int) (da_cons (de_var 4) (da_cons (de_var 10) da_nil)))) (hk := by omega))) (dss_one (ds_set 5 nd (de_ix (de_ix (de_var 5) de_int) (de_ix (de_var 3) (de_var 6))))))))))))) (dss_one (ds_ret (de_var 4))))))⟩) h
  have b : Binds K fd ["_law_plain_here", "_law_upper_here", "_law_known", "_law_road"] [] := F.bindsN fun _ _ _ _ _ _ us hl => match us, hl with | [_, _, _, _], _ => rfl
  exact ⟨_, fd, _, [], ok, T.gl 41 rfl, F.kp, b, .nil⟩
theorem sc_L_hanging : FnScope N_L_hanging ["_law_plain_here", "_law_upper_here", "_law_known", "_law_spots"] d_L_hanging.scope := ⟨rfl, rfl, rfl, by decide +kernel, rfl, by decide +kernel, by decide +kernel⟩
theorem wk_L_hanging {k : Nat} {spd S1 S2 : Spd} (T : Txt K mg ca fad) (c1 : C8.Cal P w K mg base k "_law_hangs" (SpOf K ca S1) []) (c2 : C8.Cal P w K mg base k "_law_spot_context" (SpOf K ca S2) []) (h : ∀ ds st Φ, spd ds st Φ → ds.length = 4 ∧ W_L_hanging S1 S2 (endD Φ) (startD N_L_hanging ds) st) : C8.Cal P w K mg base (k + 2) "_law_hanging" (SpOf K ca spd) [] := by
  obtain ⟨fd, F⟩ := T.fn 75 (d := d_L_hanging) rfl
  have nd : (N_L_hanging).Nodup := sc_L_hanging.nd
  have ok : FnOk P w K mg base CX0 (k + 2) (fad d_L_hanging.at_) fd ["_law_plain_here", "_law_upper_here", "_law_known", "_law_spots"] (SpOf K ca spd) := fn_ok F sc_L_hanging (fun cdv A outer s H E hr => ⟨_, by
    have u64 := hr.units
    have u65 := room65 hr
    have u1 := room1 hr
    exact (dss_cons (ds_setLc 4 5 nd (di_lst (de_var 3)) (by intro _ _ _ _ _; exact dg_name 5 nd) (by intro _ _ _ _ _; exact (dts_one (dt_dnotin u1 (de_var 5) (de_var 2)))) (by intro _ _ _ _ _; exact (de_var 5)) (blkOk_by (by kernel_rfl))) (dss_one (ds_ret (de_lc 5 nd (di_lst (de_var 4)) (by intro _ _ _ _ _; exact dg_name 5 nd) (by intro _ _ _ _ _; exact (dts_one (dt_val (de_call c1 hr (da_cons (de_var 0) (da_cons (de_call c2 hr (da_cons (de_var 0) (da_cons (de_var 1) (da_cons (de_var 2) (da_cons (de_var 5) da_nil)))) (hk := by omega)) da_nil)) (hk := by omega))))) (by intro _ _ _ _ _; exact (de_var 5)) (blkOk_by (by kernel_rfl))))))⟩) h
  have b : Binds K fd ["_law_plain_here", "_law_upper_here", "_law_known", "_law_spots"] [] := F.bindsN fun _ _ _ _ _ _ us hl => match us, hl with | [_, _, _, _], _ => rfl
  exact ⟨_, fd, _, [], ok, T.gl 42 rfl, F.kp, b, .nil⟩
end
end Cw

set_option Elab.async false
set_option linter.all false
set_option maxRecDepth 100000
set_option maxHeartbeats 0
namespace Cw
open PySem L2 L2.DX PyProof.Rows PySem.Spec DL
section
variable {P : Program} {w : World} {K : PySem.W.Frag} {mg : Str → Option Value} {base : Heap} {ca : Cl → Addr} {fad : Str × Option Str → Addr}
theorem sc_L_weave : FnScope N_L_weave ["_law_hand_here", "_law_plain_here", "_law_lattice_here", "_law_tree", "_law_upper_here", "_law_truths", "_law_turns"] d_L_weave.scope := ⟨rfl, rfl, rfl, by decide +kernel, rfl, by decide +kernel, by decide +kernel⟩
theorem wk_L_weave {k : Nat} {spd S1 S2 S3 S4 S5 S6 S7 S8 S9 S10 S11 S12 : Spd} (T : Txt K mg ca fad) (c1 : C8.Cal P w K mg base k "_law_ends" (SpOf K ca S1) []) (c2 : C8.Mak P w K mg base k "Pool" (ca .pool) (SpOf K ca S2) []) (c3 : C8.Mak P w K mg base k "TreeGround" (ca .gro) (SpOf K ca S3) [.int 0]) (c4 : C8.Cal P w K mg base k "_law_hanging" (SpOf K ca S4) []) (c5 : C8.Met P w K mg base k (ca .pool) "take_job" (SpOf K ca S5) []) (c6 : C8.Cal P w K mg base k "_law_spot_context" (SpOf K ca S6) []) (c7 : C8.Cal P w K mg base k "_law_agreeing" (SpOf K ca S7) []) (c8 : C8.Cal P w K mg base k "_law_take" (SpOf K ca S8) []) (c9 : C8.Met P w K mg base k (ca .pool) "give_job" (SpOf K ca S9) []) (c10 : C8.Cal P w K mg base k "_law_plain" (SpOf K ca S10) []) (c11 : Prp P w K mg base k (ca .pool) "is_done" (SpOf K ca S11)) (c12 : C8.Met P w K mg base k (ca .pool) "spot_bounds" (SpOf K ca S12) []) (h : ∀ ds st Φ, spd ds st Φ → ds.length = 7 ∧ W_L_weave S1 S2 S3 S4 S5 S6 S7 S8 S9 S10 S11 S12 (endD Φ) (startD N_L_weave ds) st) : C8.Cal P w K mg base (k + 2) "_law_weave" (SpOf K ca spd) [] := by
  obtain ⟨fd, F⟩ := T.fn 76 (d := d_L_weave) rfl
  have nd : (N_L_weave).Nodup := sc_L_weave.nd
  have ok : FnOk P w K mg base CX0 (k + 2) (fad d_L_weave.at_) fd ["_law_hand_here", "_law_plain_here", "_law_lattice_here", "_law_tree", "_law_upper_here", "_law_truths", "_law_turns"] (SpOf K ca spd) := fn_ok F sc_L_weave (fun cdv A outer s H E hr => ⟨_, by
    have u64 := hr.units
    have u65 := room65 hr
    have u1 := room1 hr
    exact (dss_cons (ds_set 7 nd (de_call c1 hr (da_cons (de_var 4) (da_cons (de_tup da_nil) da_nil)) (hk := by omega))) (dss_cons (ds_set 8 nd (de_makeO .pool [] (fun _ => RpA.nil) c2 hr (da_cons (de_var 2) (da_cons (de_make .gro [.int 0] (fun _ => RpA.cons rfl RpA.nil) c3 hr (da_cons (de_var 3) da_nil) (hk := by omega)) (da_cons de_int da_nil))) (hk := by omega))) (dss_cons (ds_set 9 nd (de_lstO (da_cons de_non (da_cons de_non da_nil)))) (dss_cons (ds_set 10 nd de_dnewT) (dss_cons (ds_set 11 nd de_int) (dss_cons (ds_for (di_lst (de_var 6)) (dg_name 12 nd) (dss_one (ds_if (dt_cmp od_isN (de_ix (de_var 9) (de_var 12)) de_non) (dss_cons (ds_set 13 nd (de_call c4 hr (da_cons (de_var 1) (da_cons (de_var 4) (da_cons (de_var 10) (da_cons (de_var 7) da_nil)))) (hk := by omega))) (dss_cons (ds_set 15 nd (de_lcS 14 nd (de_var 9) (by intro _ _ _ _ _; exact dg_name 14 nd) (by intro _ _ _ _ _; exact (dts_one (dt_cmp od_notN (de_var 14) de_non))) (by intro _ _ _ _ _; exact (de_ix (de_var 14) de_int)) (blkOk_by (by kernel_rfl)))) (dss_cons (ds_setLc 17 16 nd (di_lst (de_var 13)) (by intro _ _ _ _ _; exact dg_name 16 nd) (by intro _ _ _ _ _; exact (dts_one (dt_cmp (od_notIn u65) (de_var 16) (de_var 15)))) (by intro _ _ _ _ _; exact (de_var 16)) (blkOk_by (by kernel_rfl))) (dss_cons (ds_set 14 nd (de_meth .pool (by decide +kernel) c5 hr (de_var 8) (da_cons (de_var 12) da_nil) (hk := by omega))) (dss_one (ds_if (dt_cmp (od_eq u64) (de_cB call_len_seq sc_len (T.fr "len" (by decide +kernel)) b_len (da_cons (de_var 17) da_nil)) de_int) (dss_one (ds_if (dt_cmp od_notN (de_var 14) de_non) (dss_one (ds_ret de_bl)) dss_nil)) (dss_cons (ds_set 18 nd (de_call c6 hr (da_cons (de_var 1) (da_cons (de_var 4) (da_cons (de_var 10) (da_cons (de_ix (de_var 17) de_int) da_nil)))) (hk := by omega))) (dss_cons (ds_if (dt_w (dw_or (dt_cmp od_isN (de_var 14) de_non) (dw_or1 (dt_cmp (od_ne u64) (de_lst (da_cons (de_fld .job 0 (T.cls _) (T.na .job 0 rfl) (de_var 14)) (da_cons (de_fld .job 1 (T.cls _) (T.na .job 1 rfl) (de_var 14)) (da_cons (de_fld .job 2 (T.cls _) (T.na .job 2 rfl) (de_var 14)) (da_cons (de_fld .job 3 (T.cls _) (T.na .job 3 rfl) (de_var 14)) da_nil))))) (de_lst (da_cons (de_var 11) (da_cons (de_var 12) (da_cons (de_ix (de_var 17) de_int) (da_cons (de_var 18) da_nil))))))))) (dss_one (ds_ret de_bl)) dss_nil) (dss_cons (ds_asg (de_lst (da_cons (de_var 11) (da_cons (de_ix (de_var 17) de_int) (da_cons (de_var 18) da_nil)))) (dg_sub (de_var 9) (de_var 12))) (dss_one (ds_set 11 nd (de_op od_add (de_var 11) de_int)))))))))))) (dss_cons (ds_asg (de_ix (de_var 9) (de_var 12)) (dg_unl 3 (dgs_cons (dg_name 19 nd) (dgs_cons (dg_name 16 nd) (dgs_cons (dg_name 18 nd) dgs_nil))))) (dss_cons (ds_set 20 nd (de_call c7 hr (da_cons (de_var 1) (da_cons (de_var 18) (da_cons (de_dget u1 (de_var 5) (de_var 16)) da_nil))) (hk := by omega))) (dss_cons (ds_set 21 nd (de_ix (de_var 20) (de_call c8 hr (da_cons (de_var 0) (da_cons (de_cB call_len_seq sc_len (T.fr "len" (by decide +kernel)) b_len (da_cons (de_var 20) da_nil)) da_nil)) (hk := by omega)))) (dss_cons (ds_if (dt_cmp od_notB (de_meth .pool (by decide +kernel) c9 hr (de_var 8) (da_cons (de_var 19) (da_cons (de_var 21) da_nil)) (hk := by omega)) de_bl) (dss_one (ds_ret de_bl)) dss_nil) (dss_cons (ds_dput u1 (de_var 10) (de_var 16) (de_var 21)) (dss_one (ds_asg de_non (dg_sub (de_var 9) (de_var 12)))))))))))) (dss_cons (ds_set 21 nd (de_call c10 hr (da_cons (de_var 1) (da_cons (de_fld .tre 0 (T.cls _) (T.na .tre 0 rfl) (de_var 3)) da_nil)) (hk := by omega))) (dss_one (ds_ret (de_and (de_cmp od_isB (de_prop .pool c11 hr (de_var 8) (hk := by omega)) de_bl) (de_and (de_cmp (od_eq u64) (de_meth .pool (by decide +kernel) c12 hr (de_var 8) (da_cons (de_tup da_nil) da_nil) (hk := by omega)) (de_tup (da_cons (de_var 21) (da_cons (de_var 21) da_nil)))) (de_one (de_cmp (od_eq u64) (de_fld .pool 5 (T.cls _) (T.na .pool 5 rfl) (de_var 8)) (de_cT call_tuple_of sc_tupOf (T.fr "tuple" (by decide +kernel)) b_tuple (da_cons (de_cB (cr_sortedDat u64) sc_sorted (T.fr "sorted" (by decide +kernel)) b_sorted (da_cons (de_items (T.fr "list" (by decide +kernel)) (de_var 10)) da_nil)) da_nil)))))))))))))))⟩) h
  have b : Binds K fd ["_law_hand_here", "_law_plain_here", "_law_lattice_here", "_law_tree", "_law_upper_here", "_law_truths", "_law_turns"] [] := F.bindsN fun _ _ _ _ _ _ us hl => match us, hl with | [_, _, _, _, _, _, _], _ => rfl
  exact ⟨_, fd, _, [], ok, T.gl 43 rfl, F.kp, b, .nil⟩
theorem sc_law : FnScope N_law ["_law_script"] d_law.scope := ⟨rfl, rfl, rfl, by decide +kernel, rfl, by decide +kernel, by decide +kernel⟩
theorem wk_law {k : Nat} {spd S1 S2 S3 S4 S5 S6 S7 S8 S9 : Spd} (T : Txt K mg ca fad) (c1 : C8.Cal P w K mg base k "_law_hand" (SpOf K ca S1) []) (c2 : C8.Cal P w K mg base k "_law_dist_plain" (SpOf K ca S2) []) (c3 : C8.Cal P w K mg base k "_law_made_lattice" (SpOf K ca S3) []) (c4 : C8.Cal P w K mg base k "_law_take" (SpOf K ca S4) []) (c5 : C8.Cal P w K mg base k "_law_drawn_tree" (SpOf K ca S5) []) (c6 : C8.Mak P w K mg base k "Tree" (ca .tre) (SpOf K ca S6) []) (c7 : C8.Cal P w K mg base k "_law_plain" (SpOf K ca S7) []) (c8 : C8.Cal P w K mg base k "_law_upper" (SpOf K ca S8) []) (c9 : C8.Cal P w K mg base k "_law_weave" (SpOf K ca S9) []) (h : ∀ ds st Φ, spd ds st Φ → ds.length = 1 ∧ W_law S1 S2 S3 S4 S5 S6 S7 S8 S9 (endD Φ) (startD N_law ds) st) : C8.Cal P w K mg base (k + 2) "law" (SpOf K ca spd) [] := by
  obtain ⟨fd, F⟩ := T.fn 77 (d := d_law) rfl
  have nd : (N_law).Nodup := sc_law.nd
  have ok : FnOk P w K mg base CX0 (k + 2) (fad d_law.at_) fd ["_law_script"] (SpOf K ca spd) := fn_ok F sc_law (fun cdv A outer s H E hr => ⟨_, by
    have u64 := hr.units
    have u65 := room65 hr
    have u1 := room1 hr
    exact (dss_cons (ds_set 1 nd (de_call c1 hr (da_cons (de_var 0) da_nil) (hk := by omega))) (dss_cons (ds_set 2 nd (de_call c2 hr (da_cons (de_var 1) da_nil) (hk := by omega))) (dss_cons (ds_set 3 nd (de_call c3 hr (da_cons (de_var 2) da_nil) (hk := by omega))) (dss_cons (ds_setLc 4 12 nd (di_rg (T.fr "range" (by decide +kernel)) (da_cons (de_op od_add de_int (de_call c4 hr (da_cons (de_var 1) (da_cons de_int da_nil)) (hk := by omega))) da_nil)) (by intro _ _ _ _ _; exact dg_name 12 nd) (by intro _ _ _ _ _; exact dts_nil) (by intro _ _ _ _ _; exact (de_call c5 hr (da_cons (de_var 1) (da_cons (de_ix (de_var 2) de_int) (da_cons de_int (da_cons de_int da_nil)))) (hk := by omega))) (blkOk_by (by kernel_rfl))) (dss_cons (ds_set 5 nd (de_tup (da_cons (de_ix (de_tup (da_cons de_str (da_cons de_str da_nil))) (de_call c4 hr (da_cons (de_var 1) (da_cons de_int da_nil)) (hk := by omega))) (da_cons (de_cT call_tuple_of sc_tupOf (T.fr "tuple" (by decide +kernel)) b_tuple (da_cons (de_var 4) da_nil)) da_nil)))) (dss_cons (ds_set 6 nd (de_make .tre [] (fun _ => RpA.nil) c6 hr (da_cons (de_var 5) da_nil) (hk := by omega))) (dss_cons (ds_set 7 nd de_dnewT) (dss_cons (ds_for (di_rg (T.fr "range" (by decide +kernel)) (da_cons (de_cB call_len_seq sc_len (T.fr "len" (by decide +kernel)) b_len (da_cons (de_var 4) da_nil)) da_nil)) (dg_name 8 nd) (dss_one (ds_dput u1 (de_var 7) (de_tup (da_cons (de_var 8) da_nil)) (de_call c7 hr (da_cons (de_var 2) (da_cons (de_ix (de_var 4) (de_var 8)) da_nil)) (hk := by omega))))) (dss_cons (ds_set 9 nd (de_call c8 hr (da_cons (de_var 5) (da_cons de_int da_nil)) (hk := by omega))) (dss_cons (ds_for (di_rg (T.fr "range" (by decide +kernel)) (da_cons de_int da_nil)) (dg_name 10 nd) (dss_cons (ds_set 11 nd (de_op od_add (de_op od_add (de_lst (da_cons de_int da_nil)) (de_lc 12 nd (di_rg (T.fr "range" (by decide +kernel)) (da_cons de_int da_nil)) (by intro _ _ _ _ _; exact dg_name 12 nd) (by intro _ _ _ _ _; exact dts_nil) (by intro _ _ _ _ _; exact (de_op od_mod (de_op od_div (de_cT call_int1 sc_int (T.fr "int" (by decide +kernel)) b_int (da_cons (de_var 10) da_nil)) (de_ix (de_tup (da_cons de_int (da_cons de_int (da_cons de_int (da_cons de_int (da_cons de_int da_nil)))))) (de_var 12))) de_int)) (blkOk_by (by kernel_rfl)))) (de_op od_mul (de_lst (da_cons de_int (da_cons de_int da_nil))) de_int))) (dss_one (ds_if (dt_not (dt_val (de_call c9 hr (da_cons (de_var 1) (da_cons (de_var 2) (da_cons (de_var 3) (da_cons (de_var 6) (da_cons (de_var 9) (da_cons (de_var 7) (da_cons (de_var 11) da_nil))))))) (hk := by omega)))) (dss_one (ds_ret de_bl)) dss_nil)))) (dss_one (ds_ret de_bl))))))))))))⟩) h
  have b : Binds K fd ["_law_script"] [] := F.bindsN fun _ _ _ _ _ _ us hl => match us, hl with | [_], _ => rfl
  exact ⟨_, fd, _, [], ok, T.gl 44 rfl, F.kp, b, .nil⟩
end
end Cw

set_option Elab.async false
set_option linter.all false
set_option maxRecDepth 100000
set_option maxHeartbeats 0
namespace Cw
open PySem hiding Env
open L2 hiding St
open DL
/-! ### steps of a reading -/
section
variable {F : DEnds} {e : Env} {st : Sto} {Φ : D → Sto → Prop} {Ψ : List D → Sto → Prop} {Θ : Bool → Sto → Prop} {Χ : Env → Sto → Prop} {wa wb wc : WE} {w wr : WA} {wt wu : WT} {wg : WG} {ws wz : WS} {P P' : D → D → Sto → D → Prop} {Q : List D → Sto → D → Prop} {i j : Nat} {d x y : D} {spd : Spd} {c : Cl} {ds : List D} {Υ : D → Prop}
theorem i_seq (h : ws { F with nx := wz F } e st) : wSeq ws wz F e st := h
theorem i_asg (h : wa e st fun d st1 => wg d e st1 F.nx) : wAsg wa wg F e st := h
theorem i_ret (h : wa e st F.rt) : wRet wa F e st := h
theorem i_retN (h : F.rt .non st) : wRetN F e st := h
theorem i_drop (h : wa e st fun _ st1 => F.nx e st1) : wDrop wa F e st := h
theorem i_next (h : F.nx e st) : wNext F e st := h
theorem i_if (h : wt e st fun c st1 => if c = true then ws F e st1 else wz F e st1) : wIf wt ws wz F e st := h
theorem i_name (h : Χ (e.set i (some d)) st) : gwName i d e st Χ := h
theorem i_var (h : e[i]? = some (some d)) (k : Φ d st) : wVar i e st Φ := ⟨d, h, k⟩
theorem i_c (h : Φ d st) : wC d e st Φ := h
theorem i_nil (h : Ψ [] st) : wNil e st Ψ := h
theorem i_cons (h : wa e st fun d st1 => wr e st1 fun ds st2 => Ψ (d :: ds) st2) : wCons wa wr e st Ψ := h
theorem i_tup (h : w e st fun ds st1 => ds.length ≤ 100000 ∧ Φ (.tup ds) st1) : wTup w e st Φ := h
theorem i_lst (h : w e st fun ds st1 => ds.length ≤ 100000 ∧ Φ (.lst ds) st1) : wLst w e st Φ := h
theorem i_lstO (h : w e st fun ds st1 => ds.length ≤ 100000 ∧ ∀ p, Φ (.own p) (st1 ++ [(p, .lst ds)])) : wLstO w e st Φ := h
theorem i_bin (h : wa e st fun x st1 => wb e st1 fun y st2 => ∃ d, P x y st2 d ∧ Φ d st2) : wBin P wa wb e st Φ := h
theorem i_tst (h : wa e st fun x st1 => ∃ c, x = .bl c ∧ Θ c st1) : wTst wa e st Θ := h
theorem i_chain (h : wa e st fun x st1 => wb e st1 fun y st2 => ∃ b, P x y st2 (.bl b) ∧ if b = true then wc e st2 fun z st3 => ∃ d, P' y z st3 d ∧ Φ d st3 else Φ (.bl false) st2) : wChain P P' wa wb wc e st Φ := h
theorem i_andT (h : wt e st fun c st1 => if c = true then wu e st1 Θ else Θ false st1) : wAndT wt wu e st Θ := h
theorem i_orT (h : wt e st fun c st1 => if c = true then Θ true st1 else wu e st1 Θ) : wOrT wt wu e st Θ := h
theorem i_notT (h : wt e st fun c st1 => Θ (!c) st1) : wNotT wt e st Θ := h
theorem i_andV (h : wa e st fun x st1 => ∃ c, x = .bl c ∧ if c = true then wb e st1 Φ else Φ (.bl false) st1) : wAndV wa wb e st Φ := h
theorem i_orV (h : wa e st fun x st1 => ∃ c, x = .bl c ∧ if c = true then Φ (.bl true) st1 else wb e st1 Φ) : wOrV wa wb e st Φ := h
theorem i_notV (h : wa e st fun x st1 => ∃ c, x = .bl c ∧ Φ (.bl (!c)) st1) : wNotV wa e st Φ := h
theorem i_ifE (h : wt e st fun c st1 => if c = true then wa e st1 Φ else wb e st1 Φ) : wIfE wt wa wb e st Φ := h
theorem i_fld (h : wa e st fun x st1 => ∃ ds d, FldOf st1 x c ds ∧ ds[j]? = some d ∧ Φ d st1) : wFld c j wa e st Φ := h
theorem i_setF (h : wb e st fun d st1 => wa e st1 fun x st2 => ∃ k a ds es, x = .own a ∧ st2[k]? = some (a, .ins c ds) ∧ SetAt j d ds es ∧ F.nx e (st2.set k (a, .ins c es))) : wSetF c j wa wb F e st := h
theorem i_call (h : w e st fun ds st1 => callD spd ds st1 Φ) : wCall spd w e st Φ := h
theorem i_meth (h : wa e st fun x st1 => (∃ fs, FldOf st1 x c fs) ∧ wr e st1 fun ds st2 => callD spd (x :: ds) st2 Φ) : wMeth c spd wa wr e st Φ := h
theorem i_prop (h : wa e st fun x st1 => (∃ fs, FldOf st1 x c fs) ∧ callD spd [x] st1 Φ) : wProp c spd wa e st Φ := h
theorem i_makeO {dds : List D} (h : w e st fun ds st1 => ∀ p, callD spd (.own p :: (ds ++ dds)) (st1 ++ [(p, .ins c [])]) fun d st2 => d = .non ∧ Φ (.own p) st2) : wMakeO c spd dds w e st Φ := h
theorem i_make {dds : List D} (h : w e st fun ds st1 => ∀ p, callD spd (.own p :: (ds ++ dds)) (st1 ++ [(p, .ins c [])]) fun d st2 => d = .non ∧ ∃ j fs, st2[j]? = some (p, .ins c fs) ∧ Φ (.obj c fs) (st2.eraseIdx j)) : wMake c spd dds w e st Φ := h
theorem i_cb (h : w e st fun ds st1 => ∃ d, Q ds st1 d ∧ Φ d st1) : wCB Q w e st Φ := h
theorem i_is {f : D → Option Bool} (h : wa e st fun x st1 => ∃ b, f x = some b ∧ Φ (.bl b) st1) : wIs f wa e st Φ := h
theorem i_for {wi : WA} (h : wi e st fun ds st1 => forgo wg ws F ds e st1) : wFor wi wg ws F e st := h
theorem i_ilst (h : wa e st fun x st1 => ∃ ds, ItOf x ds ∧ Ψ ds st1) : wiLst wa e st Ψ := h
theorem i_itup (h : wa e st fun x st1 => ∃ ds, x = .tup ds ∧ Ψ ds st1) : wiTup wa e st Ψ := h
theorem i_irg (h : w e st fun ds st1 => ∃ n : Int, ds = [.int n] ∧ n ≤ 100000 ∧ -100000 ≤ n ∧ Ψ (intsD n) st1) : wiRg w e st Ψ := h
theorem i_irgO (h : wa e st fun x st1 => ∃ n : Int, x = .rg n ∧ n ≤ 100000 ∧ -100000 ≤ n ∧ Ψ (intsD n) st1) : wiRgO wa e st Ψ := h
theorem i_irev (h : wa e st fun x st1 => ∃ n : Int, x = .int n ∧ 0 ≤ n ∧ n ≤ 100000 ∧ Ψ (intsD n).reverse st1) : wiRev wa e st Ψ := h
theorem i_ienL (h : w e st fun as st1 => ∃ ds, as = [.lst ds] ∧ Ψ (enumD 0 ds) st1) : wiEnL w e st Ψ := h
theorem i_ienT (h : w e st fun as st1 => ∃ ds, as = [.tup ds] ∧ Ψ (enumD 0 ds) st1) : wiEnT w e st Ψ := h
theorem i_lRg (h : wa e st fun x st1 => ∃ n : Int, x = .int n ∧ 0 ≤ n ∧ n ≤ 100000 ∧ Φ (.lst (intsD n)) st1) : wLRg wa e st Φ := h
theorem i_lc {wi : WA} (h : wi e st fun ds st1 => ds.length ≤ 100000 ∧ lcgo j wt wa e (fun acc st2 => Φ (.lst acc) st2) ds [] st1) : wLc wi j wt wa e st Φ := h
theorem i_lcO {wi : WA} (h : wi e st fun ds st1 => ds.length ≤ 100000 ∧ lcgo j wt wa e (fun acc st2 => ∀ p, Φ (.own p) (st2 ++ [(p, .lst acc)])) ds [] st1) : wLcO wi j wt wa e st Φ := h
theorem i_yes (h : Θ true st) : wYes e st Θ := h
theorem i_app (h : wa e st fun x st1 => (∃ (j : Nat) (a : Addr) (ds : List D), x = .own a ∧ st1[j]? = some (a, OB.lst ds)) ∧ wr e st1 fun ys st2 => ∃ (j : Nat) (a : Addr) (ds : List D) (y : D), x = .own a ∧ ys = [y] ∧ st2[j]? = some (a, .lst ds) ∧ ds.length < 100000 ∧ Φ .non (st2.set j (a, .lst (ds ++ [y])))) : wApp wa wr e st Φ := h
theorem i_sub {wo wi : WE} (h : wo e st fun x st1 => wi e st1 fun y st2 => ∃ (j : Nat) (a : Addr) (ds : List D) (i : Nat), x = .own a ∧ y = .int (i : Int) ∧ st2[j]? = some (a, .lst ds) ∧ i < ds.length ∧ Χ e (st2.set j (a, .lst (ds.set i d)))) : gwSub wo wi d e st Χ := h
theorem i_gtup {n : Nat} {wr : WGs} (h : ∃ ds, d = .tup ds ∧ ds.length = n ∧ wr ds e st Χ) : gwTup n wr d e st Χ := h
theorem i_gunl {n : Nat} {wr : WGs} (h : ∃ ds, LstOf st d ds ∧ ds.length = n ∧ wr ds e st Χ) : gwUnl n wr d e st Χ := h
theorem i_gcons {wr : WGs} (h : wg d e st fun e1 st1 => wr ds e1 st1 Χ) : gwCons wg wr (d :: ds) e st Χ := ⟨d, ds, rfl, h⟩
theorem i_gnil (h : Χ e st) : gwNil [] e st Χ := ⟨rfl, h⟩
theorem i_star (h : wa e st fun x st1 => ∃ ds, SqOf st1 x ds ∧ wr e st1 fun es st2 => Ψ (ds ++ es) st2) : wStar wa wr e st Ψ := h
/-! of values -/
theorem p_add {i j : Int} (h : Υ (.int (i + j))) : ∃ d, PAdd (.int i) (.int j) st d ∧ Υ d := ⟨_, .inl ⟨i, j, rfl, rfl, rfl⟩, h⟩
theorem p_sub {i j : Int} (h : Υ (.int (i - j))) : ∃ d, PSub (.int i) (.int j) st d ∧ Υ d := ⟨_, ⟨i, j, rfl, rfl, rfl⟩, h⟩
theorem p_lt {i j : Int} (h : Υ (.bl (decide (i < j)))) : ∃ d, PLt (.int i) (.int j) st d ∧ Υ d := ⟨_, ⟨i, j, rfl, rfl, rfl⟩, h⟩
theorem p_le {i j : Int} (h : Υ (.bl (decide (i ≤ j)))) : ∃ d, PLe (.int i) (.int j) st d ∧ Υ d := ⟨_, ⟨i, j, rfl, rfl, rfl⟩, h⟩
theorem p_gt {i j : Int} (h : Υ (.bl (decide (j < i)))) : ∃ d, PGt (.int i) (.int j) st d ∧ Υ d := ⟨_, ⟨i, j, rfl, rfl, rfl⟩, h⟩
theorem p_leB {i j : Int} {R : Bool → Prop} (h : R (decide (i ≤ j))) : ∃ b, PLe (.int i) (.int j) st (.bl b) ∧ R b := ⟨_, ⟨i, j, rfl, rfl, rfl⟩, h⟩
theorem p_eqI {i j : Int} (h : Υ (.bl (decide (i = j)))) : ∃ d, PEq (.int i) (.int j) st d ∧ Υ d := ⟨_, .inl (.inl ⟨i, j, rfl, rfl, rfl⟩), h⟩
theorem p_eqS {i j : Str} (h : Υ (.bl (decide (i = j)))) : ∃ d, PEq (.str i) (.str j) st d ∧ Υ d := ⟨_, .inl (.inr ⟨i, j, rfl, rfl, rfl⟩), h⟩
theorem p_neI {i j : Int} (h : Υ (.bl (!decide (i = j)))) : ∃ d, PNe (.int i) (.int j) st d ∧ Υ d := ⟨_, .inl (.inl ⟨i, j, rfl, rfl, rfl⟩), h⟩
theorem p_isNy (h : Υ (.bl true)) : ∃ d, PIsN false .non .non st d ∧ Υ d := ⟨_, ⟨rfl, .inl ⟨rfl, rfl⟩⟩, h⟩
theorem p_isNn (hx : x ≠ .non) (h : Υ (.bl false)) : ∃ d, PIsN false x .non st d ∧ Υ d := ⟨_, ⟨rfl, .inr ⟨hx, rfl⟩⟩, h⟩
theorem p_notNy (h : Υ (.bl false)) : ∃ d, PIsN true .non .non st d ∧ Υ d := ⟨_, ⟨rfl, .inl ⟨rfl, rfl⟩⟩, h⟩
theorem p_notNn (hx : x ≠ .non) (h : Υ (.bl true)) : ∃ d, PIsN true x .non st d ∧ Υ d := ⟨_, ⟨rfl, .inr ⟨hx, rfl⟩⟩, h⟩
theorem p_isB {a b : Bool} (h : Υ (.bl (decide (a = b)))) : ∃ d, PIsB false (.bl a) (.bl b) st d ∧ Υ d := ⟨_, ⟨a, b, rfl, rfl, rfl⟩, h⟩
theorem p_notB {a b : Bool} (h : Υ (.bl (!decide (a = b)))) : ∃ d, PIsB true (.bl a) (.bl b) st d ∧ Υ d := ⟨_, ⟨a, b, rfl, rfl, rfl⟩, h⟩
theorem p_ixT {i : Int} (hx : atI ds i = some d) (h : Υ d) : ∃ d, PIx (.tup ds) (.int i) st d ∧ Υ d := ⟨_, ⟨ds, i, .inl (.inr rfl), rfl, hx⟩, h⟩
theorem p_ixL {i : Int} (hx : atI ds i = some d) (h : Υ d) : ∃ d, PIx (.lst ds) (.int i) st d ∧ Υ d := ⟨_, ⟨ds, i, .inl (.inl (.inl rfl)), rfl, hx⟩, h⟩
theorem p_ixF {i : Int} (hx : atI ds i = some d) (h : Υ d) : ∃ d, PIx (.ftp ds) (.int i) st d ∧ Υ d := ⟨_, ⟨ds, i, .inr rfl, rfl, hx⟩, h⟩
theorem p_ixO {i : Int} {p : Addr} (j : Nat) (hj : st[j]? = some (p, .lst ds)) (hx : atI ds i = some d) (h : Υ d) : ∃ d, PIx (.own p) (.int i) st d ∧ Υ d := ⟨_, ⟨ds, i, .inl (.inl (.inr ⟨j, p, rfl, hj⟩)), rfl, hx⟩, h⟩
theorem p_mul {i j : Int} (hc : CMul i j) (h : Υ (.int (i * j))) : ∃ d, PMul (.int i) (.int j) st d ∧ Υ d := ⟨_, .inl ⟨i, j, rfl, rfl, hc, rfl⟩, h⟩
theorem p_div {i j : Int} (hc : CDiv i j) (h : Υ (.int (i / j))) : ∃ d, PDiv (.int i) (.int j) st d ∧ Υ d := ⟨_, ⟨i, j, rfl, rfl, hc, rfl⟩, h⟩
theorem p_mod {i j : Int} (hc : 0 < j) (h : Υ (.int (i % j))) : ∃ d, PMod (.int i) (.int j) st d ∧ Υ d := ⟨_, ⟨i, j, rfl, rfl, hc, rfl⟩, h⟩
theorem p_pow {i j : Int} (hc : CPow i j) (h : Υ (.int (i ^ j.toNat))) : ∃ d, PPow (.int i) (.int j) st d ∧ Υ d := ⟨_, ⟨i, j, rfl, rfl, hc, rfl⟩, h⟩
theorem p_abs {i : Int} (h : Υ (.int (if i < 0 then -i else i))) : ∃ d, PAbs [.int i] st d ∧ Υ d := ⟨_, ⟨i, rfl, rfl⟩, h⟩
theorem p_max {i j : Int} (h : Υ (.int (if j > i then j else i))) : ∃ d, PMax [.int i, .int j] st d ∧ Υ d := ⟨_, ⟨i, j, rfl, rfl⟩, h⟩
theorem p_min {i j : Int} (h : Υ (.int (if j < i then j else i))) : ∃ d, PMin [.int i, .int j] st d ∧ Υ d := ⟨_, ⟨i, j, rfl, rfl⟩, h⟩
theorem p_lenT (h : Υ (.int (ds.length : Int))) : ∃ d, PLen [.tup ds] st d ∧ Υ d := ⟨_, .inl ⟨_, ds, rfl, .inr rfl, rfl⟩, h⟩
theorem p_lenL (h : Υ (.int (ds.length : Int))) : ∃ d, PLen [.lst ds] st d ∧ Υ d := ⟨_, .inl ⟨_, ds, rfl, .inl (.inl rfl), rfl⟩, h⟩
theorem p_lenO {p : Addr} (j : Nat) (hj : st[j]? = some (p, .lst ds)) (h : Υ (.int (ds.length : Int))) : ∃ d, PLen [.own p] st d ∧ Υ d := ⟨_, .inl ⟨_, ds, rfl, .inl (.inr ⟨j, p, rfl, hj⟩), rfl⟩, h⟩
theorem p_int {i : Int} (h : Υ (.int i)) : ∃ d, PInt [.int i] st d ∧ Υ d := ⟨_, ⟨i, rfl, rfl⟩, h⟩
theorem p_tupL (h : Υ (.tup ds)) : ∃ d, PTupOf [.lst ds] st d ∧ Υ d := ⟨_, ⟨_, ds, rfl, .inl (.inl rfl), rfl⟩, h⟩
theorem p_tupO {p : Addr} (j : Nat) (hj : st[j]? = some (p, .lst ds)) (h : Υ (.tup ds)) : ∃ d, PTupOf [.own p] st d ∧ Υ d := ⟨_, ⟨_, ds, rfl, .inl (.inr ⟨j, p, rfl, hj⟩), rfl⟩, h⟩
theorem p_lstL (h : Υ (.lst ds)) : ∃ d, PLstOf [.lst ds] st d ∧ Υ d := ⟨_, ⟨_, ds, rfl, .inl (.inl rfl), rfl⟩, h⟩
theorem p_lstT (h : Υ (.lst ds)) : ∃ d, PLstOf [.tup ds] st d ∧ Υ d := ⟨_, ⟨_, ds, rfl, .inr rfl, rfl⟩, h⟩
theorem p_catT {es : List D} (hl : ds.length + es.length ≤ 100000) (h : Υ (.tup (ds ++ es))) : ∃ d, PAdd (.tup ds) (.tup es) st d ∧ Υ d := ⟨_, .inr (.inr ⟨ds, es, rfl, rfl, hl, rfl⟩), h⟩
theorem p_catL {es : List D} (hl : ds.length + es.length ≤ 100000) (h : Υ (.lst (ds ++ es))) : ∃ d, PAdd (.lst ds) (.lst es) st d ∧ Υ d := ⟨_, .inr (.inl ⟨ds, es, .inl rfl, .inl rfl, hl, rfl⟩), h⟩
theorem q_obj {l : List D} {R : Prop} (h : R) : (∃ fs, FldOf st (.obj c l) c fs) ∧ R := ⟨⟨l, .inl rfl⟩, h⟩
theorem q_objO {p : Addr} {l : List D} {R : Prop} (k : Nat) (hk : st[k]? = some (p, .ins c l)) (h : R) : (∃ fs, FldOf st (.own p) c fs) ∧ R := ⟨⟨l, .inr ⟨k, p, rfl, hk⟩⟩, h⟩
theorem q_tst {b : Bool} {R : Bool → Prop} (h : R b) : ∃ c, D.bl b = .bl c ∧ R c := ⟨b, rfl, h⟩
theorem q_ifT {A B : Prop} (h : A) : if (true : Bool) = true then A else B := h
theorem q_ifF {A B : Prop} (h : B) : if (false : Bool) = true then A else B := by simpa using h
end
/-! ### calls, ends -/
/-- a promise that needs nothing of the store -/
def Pur (R : List D → D → Prop) : Spd := fun ds st Φ => st = [] ∧ ∃ r, R ds r ∧ Φ r []
section
variable {st : Sto} {Φ : D → Sto → Prop} {r d : D} {ds : List D} {R : List D → D → Prop}
theorem c_pur (h : R ds r) (k : Φ r st) : callD (Pur R) ds st Φ := ⟨[], [], rfl, List.nodup_nil, rfl, r, h, rfl, by show Φ r (st ++ []); rw [List.append_nil]; exact k⟩
theorem e_keep (k : Φ r []) : Fin Φ r st := .keep [] [] List.nodup_nil rfl k
theorem e_frz {p : Addr} (j : Nat) (hj : st[j]? = some (p, .lst ds)) (k : Φ (.lst ds) []) : Fin Φ (.own p) st := .frz j ds hj (e_keep k)
end
section
variable {F : DEnds} {e : Env} {st : Sto} {Φ : D → Sto → Prop} {i j : Nat} {c : Cl}
theorem i_varH (h : ∃ d, e[i]? = some (some d) ∧ Φ d st) : wVar i e st Φ := h
theorem q_nT {A B : Prop} (h : A) : if (!false) = true then A else B := h
theorem q_nF {A B : Prop} (h : B) : if (!true) = true then A else B := by simpa using h
theorem q_len {n : Nat} {R : Prop} (h : Nat.ble n 100000 = true) (k : R) : n ≤ 100000 ∧ R := ⟨Nat.le_of_ble_eq_true h, k⟩
theorem lt_ok {i n : Nat} (h : Nat.blt i n = true) : i < n := Nat.le_of_ble_eq_true h
theorem if_any {b : Bool} {A B : Prop} (h1 : b = true → A) (h2 : b = false → B) : if b = true then A else B := by cases b; exact h2 rfl; exact h1 rfl
theorem if_t {b : Bool} {A B : Prop} (hb : b = true) (h : A) : if b = true then A else B := by rw [if_pos hb]; exact h
theorem if_f {b : Bool} {A B : Prop} (hb : b = false) (h : B) : if b = true then A else B := by rw [if_neg (by rw [hb]; decide)]; exact h
end
end Cw

set_option Elab.async false
set_option linter.all false
set_option maxRecDepth 100000
set_option maxHeartbeats 0
namespace Cw
open PySem hiding Env
open L2 hiding St
open DL
/-- one step -/
local macro_rules | `(tactic| walk_at "sx") => `(tactic| first | (with_reducible refine i_varH ?_; refine ⟨_, rfl, ?_⟩) | (with_reducible first | refine i_seq ?_ | refine i_asg ?_ | refine i_name ?_ | refine i_bin ?_ | refine i_c ?_ | refine i_fld ?_ | refine i_cons ?_ | refine i_nil ?_ | refine i_if ?_ | refine i_tst ?_ | refine i_ret ?_ | refine i_call ?_ | refine i_meth ?_ | refine i_andT ?_ | refine i_orT ?_ | refine i_notT ?_ | refine i_chain ?_ | refine i_is ?_ | refine i_tup ?_ | refine i_lst ?_ | refine i_cb ?_ | refine i_for ?_ | refine i_next ?_ | refine i_drop ?_ | refine i_andV ?_ | refine i_orV ?_ | refine i_notV ?_ | refine i_ifE ?_ | refine i_lstO ?_ | refine i_setF ?_ | refine i_sub ?_ | refine i_app ?_ | refine i_gtup ?_ | refine i_gcons ?_ | refine i_gnil ?_ | refine i_ilst ?_ | refine i_itup ?_ | refine i_irg ?_ | refine i_irgO ?_ | refine i_irev ?_ | refine i_ienT ?_ | refine i_ienL ?_ | refine i_lRg ?_ | refine i_lc ?_ | refine i_lcO ?_ | refine i_yes ?_ | refine i_retN ?_ | refine i_prop ?_ | refine i_makeO ?_ | refine i_make ?_ | refine i_star ?_) | (with_reducible first | refine q_tst ?_ | refine q_ifT ?_ | refine q_ifF ?_ | refine q_nT ?_ | refine q_nF ?_ | refine q_obj ?_ | refine p_add ?_ | refine p_sub ?_ | refine p_lt ?_ | refine p_le ?_ | refine p_gt ?_ | refine p_leB ?_ | refine p_eqI ?_ | refine p_eqS ?_ | refine p_neI ?_ | refine p_isNy ?_ | refine p_notNy ?_ | refine p_isB ?_ | refine p_notB ?_ | refine p_lenT ?_ | refine p_lenL ?_ | refine p_int ?_ | refine p_tupL ?_ | refine p_lstL ?_ | refine p_lstT ?_) | refine ⟨_, _, .inl rfl, rfl, ?_⟩ | refine p_mul (.inr (by decide)) ?_ | refine p_div ⟨by decide, by decide⟩ ?_ | refine p_mod (by decide) ?_ | (with_reducible refine p_abs ?_) | (with_reducible refine p_max ?_) | (with_reducible refine p_min ?_) | refine q_len rfl ?_ | refine ⟨_, .inl rfl, ?_⟩ | refine ⟨_, rfl, ?_⟩ | refine p_ixL rfl ?_ | refine p_ixT rfl ?_ | refine p_ixO 0 rfl rfl ?_ | refine p_ixO 1 rfl rfl ?_ | refine p_ixO 2 rfl rfl ?_ | refine ⟨_, .inr ⟨_, rfl, rfl⟩, ?_⟩ | refine p_ixO 3 rfl rfl ?_ | refine p_ixO 4 rfl rfl ?_ | refine p_ixO 5 rfl rfl ?_ | refine ⟨_, _, .inr ⟨0, _, rfl, rfl⟩, rfl, ?_⟩ | refine ⟨⟨_, .inr ⟨0, _, rfl, rfl⟩⟩, ?_⟩ | refine ⟨⟨0, _, _, rfl, rfl⟩, ?_⟩ | refine p_lenO 0 rfl ?_ | refine p_tupO 0 rfl ?_ | refine ⟨_, _, .inr ⟨1, _, rfl, rfl⟩, rfl, ?_⟩ | refine ⟨⟨_, .inr ⟨1, _, rfl, rfl⟩⟩, ?_⟩ | refine ⟨⟨1, _, _, rfl, rfl⟩, ?_⟩ | refine p_lenO 1 rfl ?_ | refine p_tupO 1 rfl ?_ | refine ⟨_, _, .inr ⟨2, _, rfl, rfl⟩, rfl, ?_⟩ | refine ⟨⟨_, .inr ⟨2, _, rfl, rfl⟩⟩, ?_⟩ | refine ⟨⟨2, _, _, rfl, rfl⟩, ?_⟩ | refine p_lenO 2 rfl ?_ | refine p_tupO 2 rfl ?_ | refine ⟨_, _, .inr ⟨3, _, rfl, rfl⟩, rfl, ?_⟩ | refine ⟨⟨_, .inr ⟨3, _, rfl, rfl⟩⟩, ?_⟩ | refine ⟨⟨3, _, _, rfl, rfl⟩, ?_⟩ | refine p_lenO 3 rfl ?_ | refine p_tupO 3 rfl ?_ | refine ⟨_, _, .inr ⟨4, _, rfl, rfl⟩, rfl, ?_⟩ | refine ⟨⟨_, .inr ⟨4, _, rfl, rfl⟩⟩, ?_⟩ | refine ⟨⟨4, _, _, rfl, rfl⟩, ?_⟩ | refine p_lenO 4 rfl ?_ | refine p_tupO 4 rfl ?_ | refine ⟨_, _, .inr ⟨5, _, rfl, rfl⟩, rfl, ?_⟩ | refine ⟨⟨_, .inr ⟨5, _, rfl, rfl⟩⟩, ?_⟩ | refine ⟨⟨5, _, _, rfl, rfl⟩, ?_⟩ | refine p_lenO 5 rfl ?_ | refine p_tupO 5 rfl ?_)
local macro_rules | `(tactic| walk_at "sy") => `(tactic| first | walk_at "sx" | refine p_ixT (at_rowsT (by assumption)) ?_ | refine p_ixT (at_range (by assumption)) ?_ | refine p_ixL (at_rowsL (by assumption)) ?_ | refine p_ixL (at_range (by assumption)) ?_ | refine ⟨_, rfl, rfl, ?_⟩ | refine ⟨rfl, ?_⟩ | refine ⟨0, _, _, _, rfl, rfl, .inl ⟨rfl, rfl⟩, ?_⟩ | refine ⟨0, _, _, _, rfl, rfl, .inr ⟨lt_ok rfl, rfl⟩, ?_⟩ | refine ⟨1, _, _, _, rfl, rfl, .inl ⟨rfl, rfl⟩, ?_⟩ | refine ⟨1, _, _, _, rfl, rfl, .inr ⟨lt_ok rfl, rfl⟩, ?_⟩ | refine ⟨2, _, _, _, rfl, rfl, .inl ⟨rfl, rfl⟩, ?_⟩ | refine ⟨2, _, _, _, rfl, rfl, .inr ⟨lt_ok rfl, rfl⟩, ?_⟩ | refine ⟨3, _, _, _, rfl, rfl, .inl ⟨rfl, rfl⟩, ?_⟩ | refine ⟨3, _, _, _, rfl, rfl, .inr ⟨lt_ok rfl, rfl⟩, ?_⟩)
local macro_rules | `(tactic| walk_at "sw") => `(tactic| first | walk_at "sy" | refine i_forc ?_ | refine i_forn ?_ | refine i_lcc ?_ | refine i_lcn ?_ | refine ⟨0, _, _, _, rfl, rfl, rfl, lt_ok rfl, ?_⟩ | refine ⟨1, _, _, _, rfl, rfl, rfl, lt_ok rfl, ?_⟩ | refine ⟨2, _, _, _, rfl, rfl, rfl, lt_ok rfl, ?_⟩ | refine ⟨3, _, _, _, rfl, rfl, rfl, lt_ok rfl, ?_⟩)

/-! ### a lattice in numbers -/
structure Lat where
  n : Nat
  le : Nat → Nat → Bool
  jn : Nat → Nat → Nat
  mt : Nat → Nat → Nat
  bt : Nat
  tp : Nat
structure Lat.Ok (L : Lat) : Prop where
  pos : 0 < L.n
  few : L.n ≤ 16
  jlt : ∀ i j, i < L.n → j < L.n → L.jn i j < L.n
  mlt : ∀ i j, i < L.n → j < L.n → L.mt i j < L.n
  btl : L.bt < L.n
  tpl : L.tp < L.n
abbrev nD (i : Nat) : D := .int (i : Int)
def rowsL (n : Nat) (f : Nat → Nat → D) : List D := (List.range n).map fun i => .lst ((List.range n).map fun j => f i j)
def rowsT (n : Nat) (f : Nat → Nat → D) : List D := (List.range n).map fun i => .tup ((List.range n).map fun j => f i j)
/-- the law's own lattice -/
abbrev plD (L : Lat) : D := .lst [nD L.n, .lst (rowsL L.n fun i j => .bl (L.le i j)), .lst (rowsL L.n fun i j => nD (L.jn i j)), .lst (rowsL L.n fun i j => nD (L.mt i j)), nD L.bt, nD L.tp]
/-- the program's lattice -/
abbrev laD (L : Lat) (pr : List D) : D := .obj .lat [.tup (rowsT L.n fun i j => .bl (L.le i j)), nD L.n, .tup (rowsT L.n fun i j => nD (L.jn i j)), .tup (rowsT L.n fun i j => nD (L.mt i j)), nD L.bt, nD L.tp, .tup pr]
theorem atI_nat {ds : List D} {i : Nat} {d : D} (h : ds[i]? = some d) : atI ds (i : Int) = some d := by
  unfold atI
  have hl := (List.getElem?_eq_some_iff.mp h).1
  rw [Evl.ixN_nat hl]
  exact h
theorem at_range {n i : Nat} {f : Nat → D} (h : i < n) : atI ((List.range n).map f) (i : Int) = some (f i) := by
  refine atI_nat ?_
  rw [List.getElem?_map, List.getElem?_range h]; rfl
theorem at_rowsT {n i : Nat} {f : Nat → Nat → D} (h : i < n) : atI (rowsT n f) (i : Int) = some (.tup ((List.range n).map fun j => f i j)) := at_range (f := fun i => .tup ((List.range n).map fun j => f i j)) h
theorem at_rowsL {n i : Nat} {f : Nat → Nat → D} (h : i < n) : atI (rowsL n f) (i : Int) = some (.lst ((List.range n).map fun j => f i j)) := at_range (f := fun i => .lst ((List.range n).map fun j => f i j)) h
def foldJ (L : Lat) (ws : List Nat) : Nat := ws.foldl L.jn L.bt
def foldM (L : Lat) (ws : List Nat) : Nat := ws.foldl L.mt L.tp
/-! ### methods of the lattice -/
def S_at_most : Spd := Pur fun ds r => ∃ (L : Lat) (pr : List D) (i j : Nat), ds = [laD L pr, nD i, nD j] ∧ i < L.n ∧ j < L.n ∧ r = .bl (L.le i j)
def S_join_of : Spd := Pur fun ds r => ∃ (L : Lat) (pr : List D) (i j : Nat), ds = [laD L pr, nD i, nD j] ∧ i < L.n ∧ j < L.n ∧ r = nD (L.jn i j)
def S_meet_of : Spd := Pur fun ds r => ∃ (L : Lat) (pr : List D) (i j : Nat), ds = [laD L pr, nD i, nD j] ∧ i < L.n ∧ j < L.n ∧ r = nD (L.mt i j)
theorem pl_at_most (ds : List D) (st : Sto) (Φ : D → Sto → Prop) (h : S_at_most ds st Φ) : ds.length = 3 ∧ W_Lattice_at_most (endD Φ) (startD N_Lattice_at_most ds) st := by
  obtain ⟨rfl, r, ⟨L, pr, i, j, rfl, hi, hj, rfl⟩, k⟩ := h
  refine ⟨rfl, ?_⟩
  show W_Lattice_at_most  _ [some _, some _, some _] _
  unfold W_Lattice_at_most
  repeat walk_at "sx"
  refine p_ixT (at_rowsT hi) ?_
  repeat walk_at "sx"
  refine p_ixT (at_range hj) ?_
  exact e_keep k
theorem pl_join_of (ds : List D) (st : Sto) (Φ : D → Sto → Prop) (h : S_join_of ds st Φ) : ds.length = 3 ∧ W_Lattice_join_of (endD Φ) (startD N_Lattice_join_of ds) st := by
  obtain ⟨rfl, r, ⟨L, pr, i, j, rfl, hi, hj, rfl⟩, k⟩ := h
  refine ⟨rfl, ?_⟩
  show W_Lattice_join_of  _ [some _, some _, some _] _
  unfold W_Lattice_join_of
  repeat walk_at "sx"
  refine p_ixT (at_rowsT hi) ?_
  repeat walk_at "sx"
  refine p_ixT (at_range hj) ?_
  exact e_keep k
theorem pl_meet_of (ds : List D) (st : Sto) (Φ : D → Sto → Prop) (h : S_meet_of ds st Φ) : ds.length = 3 ∧ W_Lattice_meet_of (endD Φ) (startD N_Lattice_meet_of ds) st := by
  obtain ⟨rfl, r, ⟨L, pr, i, j, rfl, hi, hj, rfl⟩, k⟩ := h
  refine ⟨rfl, ?_⟩
  show W_Lattice_meet_of  _ [some _, some _, some _] _
  unfold W_Lattice_meet_of
  repeat walk_at "sx"
  refine p_ixT (at_rowsT hi) ?_
  repeat walk_at "sx"
  refine p_ixT (at_range hj) ?_
  exact e_keep k
theorem foldl_lt {n : Nat} {f : Nat → Nat → Nat} (hf : ∀ i j, i < n → j < n → f i j < n) : ∀ (ws : List Nat) (t : Nat), t < n → (∀ w ∈ ws, w < n) → ws.foldl f t < n
  | [], t, ht, _ => ht
  | w :: ws, t, ht, hw => foldl_lt hf ws (f t w) (hf t w ht (hw w List.mem_cons_self)) fun v m => hw v (List.mem_cons_of_mem _ m)
theorem foldJ_lt {L : Lat} (o : L.Ok) {ws : List Nat} (h : ∀ w ∈ ws, w < L.n) : foldJ L ws < L.n := foldl_lt o.jlt ws L.bt o.btl h
theorem foldM_lt {L : Lat} (o : L.Ok) {ws : List Nat} (h : ∀ w ∈ ws, w < L.n) : foldM L ws < L.n := foldl_lt o.mlt ws L.tp o.tpl h
def S_join_all : Spd := Pur fun ds r => ∃ (L : Lat) (pr : List D) (ws : List Nat), L.Ok ∧ (∀ w ∈ ws, w < L.n) ∧ ds = [laD L pr, .lst (ws.map nD)] ∧ r = nD (foldJ L ws)
def S_meet_all : Spd := Pur fun ds r => ∃ (L : Lat) (pr : List D) (ws : List Nat), L.Ok ∧ (∀ w ∈ ws, w < L.n) ∧ ds = [laD L pr, .lst (ws.map nD)] ∧ r = nD (foldM L ws)
theorem lp_join {L : Lat} {pr : List D} (o : L.Ok) {W : D} {F : DEnds} {st : Sto} : ∀ (ws : List Nat) (t : Nat) (x : Option D), t < L.n → (∀ w ∈ ws, w < L.n) → (∀ x, F.nx [some (laD L pr), some W, some (nD (ws.foldl L.jn t)), x] st) →
    forgo (gwName 3) (wAsg (wBin PIx (wBin PIx (wFld .lat 2 (wVar 0)) (wVar 2)) (wVar 3)) (gwName 2)) F (ws.map nD) [some (laD L pr), some W, some (nD t), x] st
  | [], t, x, _, _, h => h x
  | w :: ws, t, x, ht, hw, h => by
    have hwl := hw w List.mem_cons_self
    show gwName 3 _ _ _ _
    repeat walk_at "sx"
    refine p_ixT (at_rowsT ht) ?_
    repeat walk_at "sx"
    refine p_ixT (at_range hwl) ?_
    repeat walk_at "sx"
    exact lp_join o ws _ _ (o.jlt t w ht hwl) (fun v m => hw v (List.mem_cons_of_mem _ m)) h
theorem pl_join_all (ds : List D) (st : Sto) (Φ : D → Sto → Prop) (h : S_join_all ds st Φ) : ds.length = 2 ∧ W_Lattice_join_all (endD Φ) (startD N_Lattice_join_all ds) st := by
  obtain ⟨rfl, r, ⟨L, pr, ws, o, hw, rfl, rfl⟩, k⟩ := h
  refine ⟨rfl, ?_⟩
  show W_Lattice_join_all  _ [some _, some _, none, none] _
  unfold W_Lattice_join_all
  repeat walk_at "sx"
  refine lp_join o ws _ _ o.btl hw fun x => ?_
  repeat walk_at "sx"
  exact e_keep k
theorem lp_meet {L : Lat} {pr : List D} (o : L.Ok) {W : D} {F : DEnds} {st : Sto} : ∀ (ws : List Nat) (t : Nat) (x : Option D), t < L.n → (∀ w ∈ ws, w < L.n) → (∀ x, F.nx [some (laD L pr), some W, some (nD (ws.foldl L.mt t)), x] st) →
    forgo (gwName 3) (wAsg (wBin PIx (wBin PIx (wFld .lat 3 (wVar 0)) (wVar 2)) (wVar 3)) (gwName 2)) F (ws.map nD) [some (laD L pr), some W, some (nD t), x] st
  | [], t, x, _, _, h => h x
  | w :: ws, t, x, ht, hw, h => by
    have hwl := hw w List.mem_cons_self
    show gwName 3 _ _ _ _
    repeat walk_at "sx"
    refine p_ixT (at_rowsT ht) ?_
    repeat walk_at "sx"
    refine p_ixT (at_range hwl) ?_
    repeat walk_at "sx"
    exact lp_meet o ws _ _ (o.mlt t w ht hwl) (fun v m => hw v (List.mem_cons_of_mem _ m)) h
theorem pl_meet_all (ds : List D) (st : Sto) (Φ : D → Sto → Prop) (h : S_meet_all ds st Φ) : ds.length = 2 ∧ W_Lattice_meet_all (endD Φ) (startD N_Lattice_meet_all ds) st := by
  obtain ⟨rfl, r, ⟨L, pr, ws, o, hw, rfl, rfl⟩, k⟩ := h
  refine ⟨rfl, ?_⟩
  show W_Lattice_meet_all  _ [some _, some _, none, none] _
  unfold W_Lattice_meet_all
  repeat walk_at "sx"
  refine lp_meet o ws _ _ o.tpl hw fun x => ?_
  repeat walk_at "sx"
  exact e_keep k
/-! ### signs, folds -/
def sgS (b : Bool) : Str := if b = true then "joins" else "meets"
abbrev sgD (b : Bool) : D := .str (sgS b)
theorem sg_eq (b : Bool) : decide (sgS b = "joins") = b := by cases b <;> decide +kernel
def fold (L : Lat) (b : Bool) (ws : List Nat) : Nat := if b = true then foldJ L ws else foldM L ws
theorem fold_lt {L : Lat} (o : L.Ok) {b : Bool} {ws : List Nat} (h : ∀ w ∈ ws, w < L.n) : fold L b ws < L.n := by
  cases b
  · exact foldM_lt o h
  · exact foldJ_lt o h
def S_folded : Spd := Pur fun ds r => ∃ (L : Lat) (pr : List D) (b : Bool) (ws : List Nat), L.Ok ∧ (∀ w ∈ ws, w < L.n) ∧ ds = [laD L pr, sgD b, .lst (ws.map nD)] ∧ r = nD (fold L b ws)
theorem pl_folded (ds : List D) (st : Sto) (Φ : D → Sto → Prop) (h : S_folded ds st Φ) : ds.length = 3 ∧ W_folded_worths S_join_all S_meet_all (endD Φ) (startD N_folded_worths ds) st := by
  obtain ⟨rfl, r, ⟨L, pr, b, ws, o, hw, rfl, rfl⟩, k⟩ := h
  refine ⟨rfl, ?_⟩
  show W_folded_worths _ _ _ [some _, some _, some _] _
  unfold W_folded_worths
  repeat walk_at "sx"
  rw [sg_eq]
  cases b
  · repeat walk_at "sx"
    exact c_pur ⟨L, pr, ws, o, hw, rfl, rfl⟩ (e_keep k)
  · repeat walk_at "sx"
    exact c_pur ⟨L, pr, ws, o, hw, rfl, rfl⟩ (e_keep k)
end Cw

set_option Elab.async false
set_option linter.all false
set_option maxRecDepth 100000
set_option maxHeartbeats 0
namespace Cw
open PySem hiding Env
open L2 hiding St
open DL
/-- one step -/
local macro_rules | `(tactic| walk_at "sx") => `(tactic| first | (with_reducible refine i_varH ?_; refine ⟨_, rfl, ?_⟩) | (with_reducible first | refine i_seq ?_ | refine i_asg ?_ | refine i_name ?_ | refine i_bin ?_ | refine i_c ?_ | refine i_fld ?_ | refine i_cons ?_ | refine i_nil ?_ | refine i_if ?_ | refine i_tst ?_ | refine i_ret ?_ | refine i_call ?_ | refine i_meth ?_ | refine i_andT ?_ | refine i_orT ?_ | refine i_notT ?_ | refine i_chain ?_ | refine i_is ?_ | refine i_tup ?_ | refine i_lst ?_ | refine i_cb ?_ | refine i_for ?_ | refine i_next ?_ | refine i_drop ?_ | refine i_andV ?_ | refine i_orV ?_ | refine i_notV ?_ | refine i_ifE ?_ | refine i_lstO ?_ | refine i_setF ?_ | refine i_sub ?_ | refine i_app ?_ | refine i_gtup ?_ | refine i_gcons ?_ | refine i_gnil ?_ | refine i_ilst ?_ | refine i_itup ?_ | refine i_irg ?_ | refine i_irgO ?_ | refine i_irev ?_ | refine i_ienT ?_ | refine i_ienL ?_ | refine i_lRg ?_ | refine i_lc ?_ | refine i_lcO ?_ | refine i_yes ?_ | refine i_retN ?_ | refine i_prop ?_ | refine i_makeO ?_ | refine i_make ?_ | refine i_star ?_) | (with_reducible first | refine q_tst ?_ | refine q_ifT ?_ | refine q_ifF ?_ | refine q_nT ?_ | refine q_nF ?_ | refine q_obj ?_ | refine p_add ?_ | refine p_sub ?_ | refine p_lt ?_ | refine p_le ?_ | refine p_gt ?_ | refine p_leB ?_ | refine p_eqI ?_ | refine p_eqS ?_ | refine p_neI ?_ | refine p_isNy ?_ | refine p_notNy ?_ | refine p_isB ?_ | refine p_notB ?_ | refine p_lenT ?_ | refine p_lenL ?_ | refine p_int ?_ | refine p_tupL ?_ | refine p_lstL ?_ | refine p_lstT ?_) | refine ⟨_, _, .inl rfl, rfl, ?_⟩ | refine p_mul (.inr (by decide)) ?_ | refine p_div ⟨by decide, by decide⟩ ?_ | refine p_mod (by decide) ?_ | (with_reducible refine p_abs ?_) | (with_reducible refine p_max ?_) | (with_reducible refine p_min ?_) | refine q_len rfl ?_ | refine ⟨_, .inl rfl, ?_⟩ | refine ⟨_, rfl, ?_⟩ | refine p_ixL rfl ?_ | refine p_ixT rfl ?_ | refine p_ixO 0 rfl rfl ?_ | refine p_ixO 1 rfl rfl ?_ | refine p_ixO 2 rfl rfl ?_ | refine ⟨_, .inr ⟨_, rfl, rfl⟩, ?_⟩ | refine p_ixO 3 rfl rfl ?_ | refine p_ixO 4 rfl rfl ?_ | refine p_ixO 5 rfl rfl ?_ | refine ⟨_, _, .inr ⟨0, _, rfl, rfl⟩, rfl, ?_⟩ | refine ⟨⟨_, .inr ⟨0, _, rfl, rfl⟩⟩, ?_⟩ | refine ⟨⟨0, _, _, rfl, rfl⟩, ?_⟩ | refine p_lenO 0 rfl ?_ | refine p_tupO 0 rfl ?_ | refine ⟨_, _, .inr ⟨1, _, rfl, rfl⟩, rfl, ?_⟩ | refine ⟨⟨_, .inr ⟨1, _, rfl, rfl⟩⟩, ?_⟩ | refine ⟨⟨1, _, _, rfl, rfl⟩, ?_⟩ | refine p_lenO 1 rfl ?_ | refine p_tupO 1 rfl ?_ | refine ⟨_, _, .inr ⟨2, _, rfl, rfl⟩, rfl, ?_⟩ | refine ⟨⟨_, .inr ⟨2, _, rfl, rfl⟩⟩, ?_⟩ | refine ⟨⟨2, _, _, rfl, rfl⟩, ?_⟩ | refine p_lenO 2 rfl ?_ | refine p_tupO 2 rfl ?_ | refine ⟨_, _, .inr ⟨3, _, rfl, rfl⟩, rfl, ?_⟩ | refine ⟨⟨_, .inr ⟨3, _, rfl, rfl⟩⟩, ?_⟩ | refine ⟨⟨3, _, _, rfl, rfl⟩, ?_⟩ | refine p_lenO 3 rfl ?_ | refine p_tupO 3 rfl ?_ | refine ⟨_, _, .inr ⟨4, _, rfl, rfl⟩, rfl, ?_⟩ | refine ⟨⟨_, .inr ⟨4, _, rfl, rfl⟩⟩, ?_⟩ | refine ⟨⟨4, _, _, rfl, rfl⟩, ?_⟩ | refine p_lenO 4 rfl ?_ | refine p_tupO 4 rfl ?_ | refine ⟨_, _, .inr ⟨5, _, rfl, rfl⟩, rfl, ?_⟩ | refine ⟨⟨_, .inr ⟨5, _, rfl, rfl⟩⟩, ?_⟩ | refine ⟨⟨5, _, _, rfl, rfl⟩, ?_⟩ | refine p_lenO 5 rfl ?_ | refine p_tupO 5 rfl ?_)
local macro_rules | `(tactic| walk_at "sy") => `(tactic| first | walk_at "sx" | refine p_ixT (at_rowsT (by assumption)) ?_ | refine p_ixT (at_range (by assumption)) ?_ | refine p_ixL (at_rowsL (by assumption)) ?_ | refine p_ixL (at_range (by assumption)) ?_ | refine ⟨_, rfl, rfl, ?_⟩ | refine ⟨rfl, ?_⟩ | refine ⟨0, _, _, _, rfl, rfl, .inl ⟨rfl, rfl⟩, ?_⟩ | refine ⟨0, _, _, _, rfl, rfl, .inr ⟨lt_ok rfl, rfl⟩, ?_⟩ | refine ⟨1, _, _, _, rfl, rfl, .inl ⟨rfl, rfl⟩, ?_⟩ | refine ⟨1, _, _, _, rfl, rfl, .inr ⟨lt_ok rfl, rfl⟩, ?_⟩ | refine ⟨2, _, _, _, rfl, rfl, .inl ⟨rfl, rfl⟩, ?_⟩ | refine ⟨2, _, _, _, rfl, rfl, .inr ⟨lt_ok rfl, rfl⟩, ?_⟩ | refine ⟨3, _, _, _, rfl, rfl, .inl ⟨rfl, rfl⟩, ?_⟩ | refine ⟨3, _, _, _, rfl, rfl, .inr ⟨lt_ok rfl, rfl⟩, ?_⟩)
local macro_rules | `(tactic| walk_at "sw") => `(tactic| first | walk_at "sy" | refine i_forc ?_ | refine i_forn ?_ | refine i_lcc ?_ | refine i_lcn ?_ | refine ⟨0, _, _, _, rfl, rfl, rfl, lt_ok rfl, ?_⟩ | refine ⟨1, _, _, _, rfl, rfl, rfl, lt_ok rfl, ?_⟩ | refine ⟨2, _, _, _, rfl, rfl, rfl, lt_ok rfl, ?_⟩ | refine ⟨3, _, _, _, rfl, rfl, rfl, lt_ok rfl, ?_⟩)

/-! ### numbers, kinds -/
def S_whole : Spd := Pur fun ds r => ∃ d, ds = [d] ∧ ((∃ i, d = .int i ∧ r = .bl true) ∨ ∃ l, d = .tup l ∧ r = .bl false)
theorem pl_whole (ds : List D) (st : Sto) (Φ : D → Sto → Prop) (h : S_whole ds st Φ) : ds.length = 1 ∧ W_L_whole (endD Φ) (startD N_L_whole ds) st := by
  obtain ⟨rfl, r, ⟨d, rfl, h⟩, k⟩ := h
  refine ⟨rfl, ?_⟩
  show W_L_whole  _ [some _] _
  unfold W_L_whole
  rcases h with ⟨i, rfl, rfl⟩ | ⟨l, rfl, rfl⟩
  · repeat walk_at "sx"
    exact e_keep k
  · repeat walk_at "sx"
    exact e_keep k
def S_is_number : Spd := Pur fun ds r => ∃ t lo hi : Int, ds = [.int t, .int lo, .int hi] ∧ r = .bl (decide (lo ≤ t ∧ t ≤ hi))
theorem pl_is_number (ds : List D) (st : Sto) (Φ : D → Sto → Prop) (h : S_is_number ds st Φ) : ds.length = 3 ∧ W_is_number (endD Φ) (startD N_is_number ds) st := by
  obtain ⟨rfl, r, ⟨t, lo, hi, rfl, rfl⟩, k⟩ := h
  refine ⟨rfl, ?_⟩
  show W_is_number  _ [some _, some _, some _] _
  unfold W_is_number
  repeat walk_at "sx"
  by_cases h1 : lo ≤ t
  · refine if_t (decide_eq_true h1) ?_
    repeat walk_at "sx"
    have e : decide (lo ≤ t ∧ t ≤ hi) = decide (t ≤ hi) := by simp [h1]
    rw [e] at k
    exact e_keep k
  · refine if_f (decide_eq_false h1) ?_
    have e : decide (lo ≤ t ∧ t ≤ hi) = false := by simp [h1]
    rw [e] at k
    exact e_keep k
def S_num_below : Spd := Pur fun ds r => ∃ t hi : Int, ds = [.int t, .int hi] ∧ r = .bl (decide (0 ≤ t ∧ t < hi))
theorem pl_num_below (ds : List D) (st : Sto) (Φ : D → Sto → Prop) (h : S_num_below ds st Φ) : ds.length = 2 ∧ W_is_number_below (endD Φ) (startD N_is_number_below ds) st := by
  obtain ⟨rfl, r, ⟨t, hi, rfl, rfl⟩, k⟩ := h
  refine ⟨rfl, ?_⟩
  show W_is_number_below  _ [some _, some _] _
  unfold W_is_number_below
  repeat walk_at "sx"
  by_cases h1 : 0 ≤ t
  · refine if_t (decide_eq_true h1) ?_
    repeat walk_at "sx"
    have e : decide (0 ≤ t ∧ t < hi) = decide (t < hi) := by simp [h1]
    rw [e] at k
    exact e_keep k
  · refine if_f (decide_eq_false h1) ?_
    have e : decide (0 ≤ t ∧ t < hi) = false := by simp [h1]
    rw [e] at k
    exact e_keep k
def S_stands_in : Spd := Pur fun ds r => ∃ (L : Lat) (pr : List D) (w : Nat), ds = [laD L pr, nD w] ∧ w < L.n ∧ r = .bl true
theorem pl_stands_in (ds : List D) (st : Sto) (Φ : D → Sto → Prop) (h : S_stands_in ds st Φ) : ds.length = 2 ∧ W_stands_in (endD Φ) (startD N_stands_in ds) st := by
  obtain ⟨rfl, r, ⟨L, pr, w, rfl, hw, rfl⟩, k⟩ := h
  refine ⟨rfl, ?_⟩
  show W_stands_in  _ [some _, some _] _
  unfold W_stands_in
  repeat walk_at "sx"
  have e : decide ((w : Int) < (L.n : Int)) = true := decide_eq_true (by omega)
  rw [e]
  exact e_keep k
def S_check_worth : Spd := Pur fun ds r => ∃ (L : Lat) (pr : List D) (w : Nat), ds = [laD L pr, nD w] ∧ w < L.n ∧ r = nD w
theorem pl_check_worth (ds : List D) (st : Sto) (Φ : D → Sto → Prop) (h : S_check_worth ds st Φ) : ds.length = 2 ∧ W_check_worth (endD Φ) (startD N_check_worth ds) st := by
  obtain ⟨rfl, r, ⟨L, pr, w, rfl, hw, rfl⟩, k⟩ := h
  refine ⟨rfl, ?_⟩
  show W_check_worth  _ [some _, some _] _
  unfold W_check_worth
  repeat walk_at "sx"
  refine if_f (by rw [decide_eq_true (by omega)]; rfl) ?_
  repeat walk_at "sx"
  exact e_keep k
/-! ### the law's lattice -/
def S_ljoin : Spd := Pur fun ds r => ∃ (L : Lat) (ws : List Nat), L.Ok ∧ (∀ w ∈ ws, w < L.n) ∧ ds = [plD L, .lst (ws.map nD)] ∧ r = nD (foldJ L ws)
def S_lmeet : Spd := Pur fun ds r => ∃ (L : Lat) (ws : List Nat), L.Ok ∧ (∀ w ∈ ws, w < L.n) ∧ ds = [plD L, .lst (ws.map nD)] ∧ r = nD (foldM L ws)
theorem lp_ljoin {L : Lat} (o : L.Ok) {W : D} {F : DEnds} {st : Sto} : ∀ (ws : List Nat) (t : Nat) (x : Option D), t < L.n → (∀ w ∈ ws, w < L.n) → (∀ x, F.nx [some (plD L), some W, some (nD (ws.foldl L.jn t)), x] st) →
    forgo (gwName 3) (wAsg (wBin PIx (wBin PIx (wBin PIx (wVar 0) (wC (.int 2))) (wVar 2)) (wVar 3)) (gwName 2)) F (ws.map nD) [some (plD L), some W, some (nD t), x] st
  | [], t, x, _, _, h => h x
  | w :: ws, t, x, ht, hw, h => by
    have hwl := hw w List.mem_cons_self
    show gwName 3 _ _ _ _
    repeat walk_at "sx"
    repeat walk_at "sx"
    refine p_ixL (at_rowsL ht) ?_
    repeat walk_at "sx"
    refine p_ixL (at_range hwl) ?_
    repeat walk_at "sx"
    exact lp_ljoin o ws _ _ (o.jlt t w ht hwl) (fun v m => hw v (List.mem_cons_of_mem _ m)) h
theorem pl_ljoin (ds : List D) (st : Sto) (Φ : D → Sto → Prop) (h : S_ljoin ds st Φ) : ds.length = 2 ∧ W_L_join_all (endD Φ) (startD N_L_join_all ds) st := by
  obtain ⟨rfl, r, ⟨L, ws, o, hw, rfl, rfl⟩, k⟩ := h
  refine ⟨rfl, ?_⟩
  show W_L_join_all  _ [some _, some _, none, none] _
  unfold W_L_join_all
  repeat walk_at "sx"
  repeat walk_at "sx"
  refine lp_ljoin o ws _ _ o.btl hw fun x => ?_
  repeat walk_at "sx"
  exact e_keep k
theorem lp_lmeet {L : Lat} (o : L.Ok) {W : D} {F : DEnds} {st : Sto} : ∀ (ws : List Nat) (t : Nat) (x : Option D), t < L.n → (∀ w ∈ ws, w < L.n) → (∀ x, F.nx [some (plD L), some W, some (nD (ws.foldl L.mt t)), x] st) →
    forgo (gwName 3) (wAsg (wBin PIx (wBin PIx (wBin PIx (wVar 0) (wC (.int 3))) (wVar 2)) (wVar 3)) (gwName 2)) F (ws.map nD) [some (plD L), some W, some (nD t), x] st
  | [], t, x, _, _, h => h x
  | w :: ws, t, x, ht, hw, h => by
    have hwl := hw w List.mem_cons_self
    show gwName 3 _ _ _ _
    repeat walk_at "sx"
    repeat walk_at "sx"
    refine p_ixL (at_rowsL ht) ?_
    repeat walk_at "sx"
    refine p_ixL (at_range hwl) ?_
    repeat walk_at "sx"
    exact lp_lmeet o ws _ _ (o.mlt t w ht hwl) (fun v m => hw v (List.mem_cons_of_mem _ m)) h
theorem pl_lmeet (ds : List D) (st : Sto) (Φ : D → Sto → Prop) (h : S_lmeet ds st Φ) : ds.length = 2 ∧ W_L_meet_all (endD Φ) (startD N_L_meet_all ds) st := by
  obtain ⟨rfl, r, ⟨L, ws, o, hw, rfl, rfl⟩, k⟩ := h
  refine ⟨rfl, ?_⟩
  show W_L_meet_all  _ [some _, some _, none, none] _
  unfold W_L_meet_all
  repeat walk_at "sx"
  repeat walk_at "sx"
  refine lp_lmeet o ws _ _ o.tpl hw fun x => ?_
  repeat walk_at "sx"
  exact e_keep k
abbrev cxD (lo hi : Nat) : D := .tup [nD lo, nD hi]
def valC (L : Lat) (lo hi w : Nat) : Nat := L.jn lo (L.mt hi w)
def S_lvalue : Spd := Pur fun ds r => ∃ (L : Lat) (lo hi w : Nat), L.Ok ∧ lo < L.n ∧ hi < L.n ∧ w < L.n ∧ ds = [plD L, cxD lo hi, nD w] ∧ r = nD (valC L lo hi w)
theorem pl_lvalue (ds : List D) (st : Sto) (Φ : D → Sto → Prop) (h : S_lvalue ds st Φ) : ds.length = 3 ∧ W_L_value (endD Φ) (startD N_L_value ds) st := by
  obtain ⟨rfl, r, ⟨L, lo, hi, w, o, hl, hh, hw, rfl, rfl⟩, k⟩ := h
  refine ⟨rfl, ?_⟩
  show W_L_value  _ [some _, some _, some _] _
  unfold W_L_value
  repeat walk_at "sx"
  repeat walk_at "sx"
  refine p_ixL (at_rowsL hl) ?_
  repeat walk_at "sx"
  repeat walk_at "sx"
  refine p_ixL (at_rowsL hh) ?_
  repeat walk_at "sx"
  refine p_ixL (at_range hw) ?_
  refine p_ixL (at_range (o.mlt _ _ hh hw)) ?_
  exact e_keep k
def S_lhangs : Spd := Pur fun ds r => ∃ (L : Lat) (lo hi : Nat), lo < L.n ∧ hi < L.n ∧ ds = [plD L, cxD lo hi] ∧ r = .bl (!L.le hi lo)
theorem pl_lhangs (ds : List D) (st : Sto) (Φ : D → Sto → Prop) (h : S_lhangs ds st Φ) : ds.length = 2 ∧ W_L_hangs (endD Φ) (startD N_L_hangs ds) st := by
  obtain ⟨rfl, r, ⟨L, lo, hi, hl, hh, rfl, rfl⟩, k⟩ := h
  refine ⟨rfl, ?_⟩
  show W_L_hangs  _ [some _, some _] _
  unfold W_L_hangs
  repeat walk_at "sx"
  repeat walk_at "sx"
  refine p_ixL (at_rowsL hh) ?_
  repeat walk_at "sx"
  refine p_ixL (at_range hl) ?_
  repeat walk_at "sx"
  exact e_keep k
def innC (L : Lat) (b : Bool) (lo hi s : Nat) : Nat × Nat := if b = true then (L.jn lo (L.mt hi s), hi) else (lo, L.mt hi s)
def S_linner : Spd := Pur fun ds r => ∃ (L : Lat) (b : Bool) (lo hi s : Nat), L.Ok ∧ lo < L.n ∧ hi < L.n ∧ s < L.n ∧ ds = [plD L, sgD b, cxD lo hi, nD s] ∧ r = cxD (innC L b lo hi s).1 (innC L b lo hi s).2
theorem pl_linner (ds : List D) (st : Sto) (Φ : D → Sto → Prop) (h : S_linner ds st Φ) : ds.length = 4 ∧ W_L_inner (endD Φ) (startD N_L_inner ds) st := by
  obtain ⟨rfl, r, ⟨L, b, lo, hi, s, o, hl, hh, hs, rfl, rfl⟩, k⟩ := h
  refine ⟨rfl, ?_⟩
  show W_L_inner  _ [some _, some _, some _, some _] _
  unfold W_L_inner
  repeat walk_at "sx"
  rw [sg_eq]
  cases b
  · repeat walk_at "sx"
    repeat walk_at "sx"
    repeat walk_at "sx"
    refine p_ixL (at_rowsL hh) ?_
    repeat walk_at "sx"
    refine p_ixL (at_range hs) ?_
    repeat walk_at "sx"
    exact e_keep k
  · repeat walk_at "sx"
    repeat walk_at "sx"
    refine p_ixL (at_rowsL hl) ?_
    repeat walk_at "sx"
    repeat walk_at "sx"
    refine p_ixL (at_rowsL hh) ?_
    repeat walk_at "sx"
    refine p_ixL (at_range hs) ?_
    refine p_ixL (at_range (o.mlt _ _ hh hs)) ?_
    repeat walk_at "sx"
    repeat walk_at "sx"
    exact e_keep k
end Cw

set_option Elab.async false
set_option linter.all false
set_option maxRecDepth 100000
set_option maxHeartbeats 0
namespace Cw
open PySem hiding Env
open L2 hiding St
open DL
/-- one step -/
local macro_rules | `(tactic| walk_at "sx") => `(tactic| first | (with_reducible refine i_varH ?_; refine ⟨_, rfl, ?_⟩) | (with_reducible first | refine i_seq ?_ | refine i_asg ?_ | refine i_name ?_ | refine i_bin ?_ | refine i_c ?_ | refine i_fld ?_ | refine i_cons ?_ | refine i_nil ?_ | refine i_if ?_ | refine i_tst ?_ | refine i_ret ?_ | refine i_call ?_ | refine i_meth ?_ | refine i_andT ?_ | refine i_orT ?_ | refine i_notT ?_ | refine i_chain ?_ | refine i_is ?_ | refine i_tup ?_ | refine i_lst ?_ | refine i_cb ?_ | refine i_for ?_ | refine i_next ?_ | refine i_drop ?_ | refine i_andV ?_ | refine i_orV ?_ | refine i_notV ?_ | refine i_ifE ?_ | refine i_lstO ?_ | refine i_setF ?_ | refine i_sub ?_ | refine i_app ?_ | refine i_gtup ?_ | refine i_gcons ?_ | refine i_gnil ?_ | refine i_ilst ?_ | refine i_itup ?_ | refine i_irg ?_ | refine i_irgO ?_ | refine i_irev ?_ | refine i_ienT ?_ | refine i_ienL ?_ | refine i_lRg ?_ | refine i_lc ?_ | refine i_lcO ?_ | refine i_yes ?_ | refine i_retN ?_ | refine i_prop ?_ | refine i_makeO ?_ | refine i_make ?_ | refine i_star ?_) | (with_reducible first | refine q_tst ?_ | refine q_ifT ?_ | refine q_ifF ?_ | refine q_nT ?_ | refine q_nF ?_ | refine q_obj ?_ | refine p_add ?_ | refine p_sub ?_ | refine p_lt ?_ | refine p_le ?_ | refine p_gt ?_ | refine p_leB ?_ | refine p_eqI ?_ | refine p_eqS ?_ | refine p_neI ?_ | refine p_isNy ?_ | refine p_notNy ?_ | refine p_isB ?_ | refine p_notB ?_ | refine p_lenT ?_ | refine p_lenL ?_ | refine p_int ?_ | refine p_tupL ?_ | refine p_lstL ?_ | refine p_lstT ?_) | refine ⟨_, _, .inl rfl, rfl, ?_⟩ | refine p_mul (.inr (by decide)) ?_ | refine p_div ⟨by decide, by decide⟩ ?_ | refine p_mod (by decide) ?_ | (with_reducible refine p_abs ?_) | (with_reducible refine p_max ?_) | (with_reducible refine p_min ?_) | refine q_len rfl ?_ | refine ⟨_, .inl rfl, ?_⟩ | refine ⟨_, rfl, ?_⟩ | refine p_ixL rfl ?_ | refine p_ixT rfl ?_ | refine p_ixO 0 rfl rfl ?_ | refine p_ixO 1 rfl rfl ?_ | refine p_ixO 2 rfl rfl ?_ | refine ⟨_, .inr ⟨_, rfl, rfl⟩, ?_⟩ | refine p_ixO 3 rfl rfl ?_ | refine p_ixO 4 rfl rfl ?_ | refine p_ixO 5 rfl rfl ?_ | refine ⟨_, _, .inr ⟨0, _, rfl, rfl⟩, rfl, ?_⟩ | refine ⟨⟨_, .inr ⟨0, _, rfl, rfl⟩⟩, ?_⟩ | refine ⟨⟨0, _, _, rfl, rfl⟩, ?_⟩ | refine p_lenO 0 rfl ?_ | refine p_tupO 0 rfl ?_ | refine ⟨_, _, .inr ⟨1, _, rfl, rfl⟩, rfl, ?_⟩ | refine ⟨⟨_, .inr ⟨1, _, rfl, rfl⟩⟩, ?_⟩ | refine ⟨⟨1, _, _, rfl, rfl⟩, ?_⟩ | refine p_lenO 1 rfl ?_ | refine p_tupO 1 rfl ?_ | refine ⟨_, _, .inr ⟨2, _, rfl, rfl⟩, rfl, ?_⟩ | refine ⟨⟨_, .inr ⟨2, _, rfl, rfl⟩⟩, ?_⟩ | refine ⟨⟨2, _, _, rfl, rfl⟩, ?_⟩ | refine p_lenO 2 rfl ?_ | refine p_tupO 2 rfl ?_ | refine ⟨_, _, .inr ⟨3, _, rfl, rfl⟩, rfl, ?_⟩ | refine ⟨⟨_, .inr ⟨3, _, rfl, rfl⟩⟩, ?_⟩ | refine ⟨⟨3, _, _, rfl, rfl⟩, ?_⟩ | refine p_lenO 3 rfl ?_ | refine p_tupO 3 rfl ?_ | refine ⟨_, _, .inr ⟨4, _, rfl, rfl⟩, rfl, ?_⟩ | refine ⟨⟨_, .inr ⟨4, _, rfl, rfl⟩⟩, ?_⟩ | refine ⟨⟨4, _, _, rfl, rfl⟩, ?_⟩ | refine p_lenO 4 rfl ?_ | refine p_tupO 4 rfl ?_ | refine ⟨_, _, .inr ⟨5, _, rfl, rfl⟩, rfl, ?_⟩ | refine ⟨⟨_, .inr ⟨5, _, rfl, rfl⟩⟩, ?_⟩ | refine ⟨⟨5, _, _, rfl, rfl⟩, ?_⟩ | refine p_lenO 5 rfl ?_ | refine p_tupO 5 rfl ?_)
local macro_rules | `(tactic| walk_at "sy") => `(tactic| first | walk_at "sx" | refine p_ixT (at_rowsT (by assumption)) ?_ | refine p_ixT (at_range (by assumption)) ?_ | refine p_ixL (at_rowsL (by assumption)) ?_ | refine p_ixL (at_range (by assumption)) ?_ | refine ⟨_, rfl, rfl, ?_⟩ | refine ⟨rfl, ?_⟩ | refine ⟨0, _, _, _, rfl, rfl, .inl ⟨rfl, rfl⟩, ?_⟩ | refine ⟨0, _, _, _, rfl, rfl, .inr ⟨lt_ok rfl, rfl⟩, ?_⟩ | refine ⟨1, _, _, _, rfl, rfl, .inl ⟨rfl, rfl⟩, ?_⟩ | refine ⟨1, _, _, _, rfl, rfl, .inr ⟨lt_ok rfl, rfl⟩, ?_⟩ | refine ⟨2, _, _, _, rfl, rfl, .inl ⟨rfl, rfl⟩, ?_⟩ | refine ⟨2, _, _, _, rfl, rfl, .inr ⟨lt_ok rfl, rfl⟩, ?_⟩ | refine ⟨3, _, _, _, rfl, rfl, .inl ⟨rfl, rfl⟩, ?_⟩ | refine ⟨3, _, _, _, rfl, rfl, .inr ⟨lt_ok rfl, rfl⟩, ?_⟩)
local macro_rules | `(tactic| walk_at "sw") => `(tactic| first | walk_at "sy" | refine i_forc ?_ | refine i_forn ?_ | refine i_lcc ?_ | refine i_lcn ?_ | refine ⟨0, _, _, _, rfl, rfl, rfl, lt_ok rfl, ?_⟩ | refine ⟨1, _, _, _, rfl, rfl, rfl, lt_ok rfl, ?_⟩ | refine ⟨2, _, _, _, rfl, rfl, rfl, lt_ok rfl, ?_⟩ | refine ⟨3, _, _, _, rfl, rfl, rfl, lt_ok rfl, ?_⟩)

/-! ### the law's hand -/
def HandB (b : OB) : Prop := ∃ (cs : List Nat) (t a : Nat) (s : Int), b = .lst [.lst (cs.map nD), nD t, nD a, .int s]
def mixA (a b : Int) : Int := (a * 40014 + b * 7907 + 60013) % 2147483399
def mixB (a b : Int) : Int := (mixA a b * mixA a b + b * 90031 + mixA a b / 139) % 2147483629
def mixF (a b : Int) : Int := (mixB a b * 68111 + mixA a b / 13) % 2147483587 / 64
theorem mixF_nn (a b : Int) : 0 ≤ mixF a b := Int.ediv_nonneg (Int.emod_nonneg _ (by decide)) (by decide)
def S_mixed : Spd := Pur fun ds r => ∃ a b : Int, ds = [.int a, .int b] ∧ r = .int (mixF a b)
theorem pl_mixed (ds : List D) (st : Sto) (Φ : D → Sto → Prop) (h : S_mixed ds st Φ) : ds.length = 2 ∧ W_L_mixed (endD Φ) (startD N_L_mixed ds) st := by
  obtain ⟨rfl, r, ⟨a, b, rfl, rfl⟩, k⟩ := h
  refine ⟨rfl, ?_⟩
  show W_L_mixed  _ [some _, some _, none, none] _
  unfold W_L_mixed
  repeat walk_at "sx"
  have h0 : 0 ≤ (a * 40014 + b * 7907 + 60013) % 2147483399 := Int.emod_nonneg _ (by decide)
  have h1 : (a * 40014 + b * 7907 + 60013) % 2147483399 < 2147483399 := Int.emod_lt_of_pos _ (by decide)
  refine p_mul (.inr ⟨by omega, by omega⟩) ?_
  repeat walk_at "sx"
  exact e_keep k
/-- a draw: any number below many; the hand stays a hand -/
def S_take : Spd := fun ds st Φ => ∃ (p : Addr) (b : OB) (many : Nat), ds = [.own p, nD many] ∧ 0 < many ∧ many ≤ 1000 ∧ st = [(p, b)] ∧ HandB b ∧ ∀ k b', k < many → HandB b' → Φ (nD k) [(p, b')]
theorem c_take {st : Sto} {Φ : D → Sto → Prop} {p : Addr} {b : OB} {many : Nat} (j : Nat) (hj : st[j]? = some (p, b)) (h0 : 0 < many) (h1 : many ≤ 1000) (hb : HandB b) (k : ∀ k b', k < many → HandB b' → Φ (nD k) (st.set j (p, b'))) : callD S_take [.own p, nD many] st Φ := by
  refine ⟨[j], [(p, b)], ?_, by simp, p, b, many, rfl, h0, h1, rfl, hb, fun k' b' hk hb' => ⟨rfl, ?_⟩⟩
  · show (match st[j]?, pick st [] with | some q, some r => some (q :: r) | _, _ => none) = _
    rw [hj]; rfl
  · show Φ (nD k') (st.set j (p, b') ++ [])
    rw [List.append_nil]
    exact k k' b' hk hb'
theorem pl_take (ds : List D) (st : Sto) (Φ : D → Sto → Prop) (h : S_take ds st Φ) : ds.length = 2 ∧ W_L_take S_mixed (endD Φ) (startD N_L_take ds) st := by
  obtain ⟨p, b, many, rfl, h0, h1, rfl, ⟨cs, t, a, s, rfl⟩, k⟩ := h
  have fin : ∀ (x : Int) (b' : OB), 0 ≤ x → HandB b' → Fin Φ (.int (x % (many : Int))) [(p, b')] := fun x b' hx hb' => by
    have e : x % (many : Int) = ((x.toNat % many : Nat) : Int) := by rw [Int.natCast_emod, Int.toNat_of_nonneg hx]
    rw [e]
    exact .keep [0] [(p, b')] (by simp) rfl (k _ b' (Nat.mod_lt _ h0) hb')
  refine ⟨rfl, ?_⟩
  show W_L_take _ _ [some _, some _, none, none] _
  unfold W_L_take
  repeat walk_at "sx"
  have hm0 : (0 : Int) < many := by omega
  have last : ∀ (cs : List Nat) (t a : Nat) (s : Int) (e2 e3 : Option D), wSeq (wAsg (wBin PMod (wCB PInt (wCons (wBin PAdd (wBin PIx (wVar 0) (wC (.int 3))) (wC (.int 1))) wNil)) (wC (.int 2147483549))) (gwSub (wVar 0) (wC (.int 3))))
      (wRet (wBin PMod (wCB PInt (wCons (wCall S_mixed (wCons (wBin PIx (wVar 0) (wC (.int 3))) (wCons (wBin PIx (wVar 0) (wC (.int 1))) wNil))) wNil)) (wVar 1))) (endD Φ) [some (.own p), some (nD many), e2, e3] [(p, .lst [.lst (cs.map nD), nD t, nD a, .int s])] := fun cs t a s e2 e3 => by
    repeat walk_at "sx"
    refine ⟨0, _, _, 3, rfl, rfl, rfl, lt_ok rfl, ?_⟩
    repeat walk_at "sx"
    refine c_pur ⟨_, _, rfl, rfl⟩ ?_
    repeat walk_at "sx"
    refine p_mod hm0 ?_
    exact fin _ _ (mixF_nn _ _) ⟨cs, t, a, _, rfl⟩
  have mid : ∀ (cs : List Nat) (t a : Nat) (s : Int) (e2 : Option D), wSeq (wIf (wTst (wBin PGt (wBin PIx (wVar 0) (wC (.int 2))) (wC (.int 0)))) (wSeq (wAsg (wBin PIx (wVar 0) (wC (.int 2))) (gwName 3))
      (wSeq (wAsg (wBin PDiv (wCB PInt (wCons (wVar 3) wNil)) (wVar 1)) (gwSub (wVar 0) (wC (.int 2)))) (wRet (wBin PMod (wCB PInt (wCons (wVar 3) wNil)) (wVar 1))))) wNext) (wSeq (wAsg (wBin PMod (wCB PInt (wCons (wBin PAdd (wBin PIx (wVar 0) (wC (.int 3))) (wC (.int 1))) wNil)) (wC (.int 2147483549))) (gwSub (wVar 0) (wC (.int 3))))
      (wRet (wBin PMod (wCB PInt (wCons (wCall S_mixed (wCons (wBin PIx (wVar 0) (wC (.int 3))) (wCons (wBin PIx (wVar 0) (wC (.int 1))) wNil))) wNil)) (wVar 1)))) (endD Φ) [some (.own p), some (nD many), e2, none] [(p, .lst [.lst (cs.map nD), nD t, nD a, .int s])] := fun cs t a s e2 => by
    repeat walk_at "sx"
    refine if_any (fun _ => ?_) (fun _ => ?_)
    · repeat walk_at "sx"
      refine p_div ⟨hm0, by omega⟩ ?_
      repeat walk_at "sx"
      refine ⟨0, _, _, 2, rfl, rfl, rfl, lt_ok rfl, ?_⟩
      repeat walk_at "sx"
      refine p_mod hm0 ?_
      refine fin _ _ (by omega) ⟨cs, t, a / many, s, ?_⟩
      show OB.lst [D.lst (cs.map nD), nD t, D.int ((a : Int) / (many : Int)), D.int s] = _
      rw [← Int.natCast_ediv]
    · exact last cs t a s e2 none
  by_cases ha : (a : Int) = 0
  · refine if_t (decide_eq_true ha) ?_
    repeat walk_at "sx"
    by_cases ht : (t : Int) < ((cs.map nD).length : Int)
    · refine if_t (decide_eq_true ht) ?_
      have htl : t < cs.length := by rw [List.length_map] at ht; omega
      repeat walk_at "sx"
      refine p_ixL (d := nD cs[t]) (atI_nat (by rw [List.getElem?_map, List.getElem?_eq_getElem htl]; rfl)) ?_
      repeat walk_at "sx"
      refine ⟨0, _, _, 1, rfl, rfl, rfl, lt_ok rfl, ?_⟩
      repeat walk_at "sx"
      refine p_pow ⟨by decide, by decide, by decide⟩ ?_
      generalize (10 : Int) ^ (18 : Int).toNat = N
      repeat walk_at "sx"
      refine if_any (fun _ => ?_) (fun _ => ?_)
      · repeat walk_at "sx"
        refine c_pur ⟨_, _, rfl, rfl⟩ ?_
        repeat walk_at "sx"
        refine p_mod hm0 ?_
        exact fin _ _ (mixF_nn _ _) ⟨cs, t + 1, a, s, rfl⟩
      · repeat walk_at "sx"
        refine ⟨0, _, _, 2, rfl, rfl, rfl, lt_ok rfl, ?_⟩
        exact mid cs (t + 1) cs[t] s _
    · exact if_f (decide_eq_false ht) (mid cs t a s none)
  · exact if_f (decide_eq_false ha) (mid cs t a s none)
end Cw

set_option Elab.async false
set_option linter.all false
set_option maxRecDepth 100000
set_option maxHeartbeats 0
namespace Cw
open PySem hiding Env
open L2 hiding St
open DL
/-- one step -/
local macro_rules | `(tactic| walk_at "sx") => `(tactic| first | (with_reducible refine i_varH ?_; refine ⟨_, rfl, ?_⟩) | (with_reducible first | refine i_seq ?_ | refine i_asg ?_ | refine i_name ?_ | refine i_bin ?_ | refine i_c ?_ | refine i_fld ?_ | refine i_cons ?_ | refine i_nil ?_ | refine i_if ?_ | refine i_tst ?_ | refine i_ret ?_ | refine i_call ?_ | refine i_meth ?_ | refine i_andT ?_ | refine i_orT ?_ | refine i_notT ?_ | refine i_chain ?_ | refine i_is ?_ | refine i_tup ?_ | refine i_lst ?_ | refine i_cb ?_ | refine i_for ?_ | refine i_next ?_ | refine i_drop ?_ | refine i_andV ?_ | refine i_orV ?_ | refine i_notV ?_ | refine i_ifE ?_ | refine i_lstO ?_ | refine i_setF ?_ | refine i_sub ?_ | refine i_app ?_ | refine i_gtup ?_ | refine i_gcons ?_ | refine i_gnil ?_ | refine i_ilst ?_ | refine i_itup ?_ | refine i_irg ?_ | refine i_irgO ?_ | refine i_irev ?_ | refine i_ienT ?_ | refine i_ienL ?_ | refine i_lRg ?_ | refine i_lc ?_ | refine i_lcO ?_ | refine i_yes ?_ | refine i_retN ?_ | refine i_prop ?_ | refine i_makeO ?_ | refine i_make ?_ | refine i_star ?_) | (with_reducible first | refine q_tst ?_ | refine q_ifT ?_ | refine q_ifF ?_ | refine q_nT ?_ | refine q_nF ?_ | refine q_obj ?_ | refine p_add ?_ | refine p_sub ?_ | refine p_lt ?_ | refine p_le ?_ | refine p_gt ?_ | refine p_leB ?_ | refine p_eqI ?_ | refine p_eqS ?_ | refine p_neI ?_ | refine p_isNy ?_ | refine p_notNy ?_ | refine p_isB ?_ | refine p_notB ?_ | refine p_lenT ?_ | refine p_lenL ?_ | refine p_int ?_ | refine p_tupL ?_ | refine p_lstL ?_ | refine p_lstT ?_) | refine ⟨_, _, .inl rfl, rfl, ?_⟩ | refine p_mul (.inr (by decide)) ?_ | refine p_div ⟨by decide, by decide⟩ ?_ | refine p_mod (by decide) ?_ | (with_reducible refine p_abs ?_) | (with_reducible refine p_max ?_) | (with_reducible refine p_min ?_) | refine q_len rfl ?_ | refine ⟨_, .inl rfl, ?_⟩ | refine ⟨_, rfl, ?_⟩ | refine p_ixL rfl ?_ | refine p_ixT rfl ?_ | refine p_ixO 0 rfl rfl ?_ | refine p_ixO 1 rfl rfl ?_ | refine p_ixO 2 rfl rfl ?_ | refine ⟨_, .inr ⟨_, rfl, rfl⟩, ?_⟩ | refine p_ixO 3 rfl rfl ?_ | refine p_ixO 4 rfl rfl ?_ | refine p_ixO 5 rfl rfl ?_ | refine ⟨_, _, .inr ⟨0, _, rfl, rfl⟩, rfl, ?_⟩ | refine ⟨⟨_, .inr ⟨0, _, rfl, rfl⟩⟩, ?_⟩ | refine ⟨⟨0, _, _, rfl, rfl⟩, ?_⟩ | refine p_lenO 0 rfl ?_ | refine p_tupO 0 rfl ?_ | refine ⟨_, _, .inr ⟨1, _, rfl, rfl⟩, rfl, ?_⟩ | refine ⟨⟨_, .inr ⟨1, _, rfl, rfl⟩⟩, ?_⟩ | refine ⟨⟨1, _, _, rfl, rfl⟩, ?_⟩ | refine p_lenO 1 rfl ?_ | refine p_tupO 1 rfl ?_ | refine ⟨_, _, .inr ⟨2, _, rfl, rfl⟩, rfl, ?_⟩ | refine ⟨⟨_, .inr ⟨2, _, rfl, rfl⟩⟩, ?_⟩ | refine ⟨⟨2, _, _, rfl, rfl⟩, ?_⟩ | refine p_lenO 2 rfl ?_ | refine p_tupO 2 rfl ?_ | refine ⟨_, _, .inr ⟨3, _, rfl, rfl⟩, rfl, ?_⟩ | refine ⟨⟨_, .inr ⟨3, _, rfl, rfl⟩⟩, ?_⟩ | refine ⟨⟨3, _, _, rfl, rfl⟩, ?_⟩ | refine p_lenO 3 rfl ?_ | refine p_tupO 3 rfl ?_ | refine ⟨_, _, .inr ⟨4, _, rfl, rfl⟩, rfl, ?_⟩ | refine ⟨⟨_, .inr ⟨4, _, rfl, rfl⟩⟩, ?_⟩ | refine ⟨⟨4, _, _, rfl, rfl⟩, ?_⟩ | refine p_lenO 4 rfl ?_ | refine p_tupO 4 rfl ?_ | refine ⟨_, _, .inr ⟨5, _, rfl, rfl⟩, rfl, ?_⟩ | refine ⟨⟨_, .inr ⟨5, _, rfl, rfl⟩⟩, ?_⟩ | refine ⟨⟨5, _, _, rfl, rfl⟩, ?_⟩ | refine p_lenO 5 rfl ?_ | refine p_tupO 5 rfl ?_)
local macro_rules | `(tactic| walk_at "sy") => `(tactic| first | walk_at "sx" | refine p_ixT (at_rowsT (by assumption)) ?_ | refine p_ixT (at_range (by assumption)) ?_ | refine p_ixL (at_rowsL (by assumption)) ?_ | refine p_ixL (at_range (by assumption)) ?_ | refine ⟨_, rfl, rfl, ?_⟩ | refine ⟨rfl, ?_⟩ | refine ⟨0, _, _, _, rfl, rfl, .inl ⟨rfl, rfl⟩, ?_⟩ | refine ⟨0, _, _, _, rfl, rfl, .inr ⟨lt_ok rfl, rfl⟩, ?_⟩ | refine ⟨1, _, _, _, rfl, rfl, .inl ⟨rfl, rfl⟩, ?_⟩ | refine ⟨1, _, _, _, rfl, rfl, .inr ⟨lt_ok rfl, rfl⟩, ?_⟩ | refine ⟨2, _, _, _, rfl, rfl, .inl ⟨rfl, rfl⟩, ?_⟩ | refine ⟨2, _, _, _, rfl, rfl, .inr ⟨lt_ok rfl, rfl⟩, ?_⟩ | refine ⟨3, _, _, _, rfl, rfl, .inl ⟨rfl, rfl⟩, ?_⟩ | refine ⟨3, _, _, _, rfl, rfl, .inr ⟨lt_ok rfl, rfl⟩, ?_⟩)
local macro_rules | `(tactic| walk_at "sw") => `(tactic| first | walk_at "sy" | refine i_forc ?_ | refine i_forn ?_ | refine i_lcc ?_ | refine i_lcn ?_ | refine ⟨0, _, _, _, rfl, rfl, rfl, lt_ok rfl, ?_⟩ | refine ⟨1, _, _, _, rfl, rfl, rfl, lt_ok rfl, ?_⟩ | refine ⟨2, _, _, _, rfl, rfl, rfl, lt_ok rfl, ?_⟩ | refine ⟨3, _, _, _, rfl, rfl, rfl, lt_ok rfl, ?_⟩)

/-! ### loops -/
theorem for_ind {wg : WG} {wb : WS} {F : DEnds} (I : List D → Env → Sto → Prop) (step : ∀ (K : Env → Sto → Prop) (d : D) (r : List D) (e : Env) (st : Sto), I (d :: r) e st → (∀ e' st', I r e' st' → K e' st') → wg d e st fun e1 st1 => wb { F with nx := K, ct := K, bk := F.nx } e1 st1)
    (done : ∀ e st, I [] e st → F.nx e st) : ∀ (ds : List D) (e : Env) (st : Sto), I ds e st → forgo wg wb F ds e st
  | [], e, st, h => done e st h
  | d :: r, e, st, h => step (forgo wg wb F r) d r e st h (for_ind I step done r)
theorem lc_ind {j : Nat} {wt : WT} {we : WE} {e : Env} {Ψ : List D → Sto → Prop} (I : List D → List D → Sto → Prop) (step : ∀ (K : List D → Sto → Prop) (d : D) (r acc : List D) (st : Sto), I (d :: r) acc st → (∀ acc' st', I r acc' st' → K acc' st') →
      wt (e.set j (some d)) st fun b st1 => if b = true then we (e.set j (some d)) st1 fun y st2 => K (acc ++ [y]) st2 else K acc st1)
    (done : ∀ acc st, I [] acc st → Ψ acc st) : ∀ (ds acc : List D) (st : Sto), I ds acc st → lcgo j wt we e Ψ ds acc st
  | [], acc, st, h => done acc st h
  | d :: r, acc, st, h => step (lcgo j wt we e Ψ r) d r acc st h (lc_ind I step done r)
/-- a pure comprehension -/
theorem lc_gen {α : Type} {j : Nat} {wt : WT} {we : WE} {e : Env} {st : Sto} {Ψ : List D → Sto → Prop} (l : List α) (inj : α → D) (g : α → Bool) (f : α → D) (ht : ∀ a ∈ l, ∀ Θ : Bool → Sto → Prop, Θ (g a) st → wt (e.set j (some (inj a))) st Θ)
    (he : ∀ a ∈ l, g a = true → ∀ Φ : D → Sto → Prop, Φ (f a) st → we (e.set j (some (inj a))) st Φ) : ∀ (acc : List D), Ψ (acc ++ (l.filter g).map f) st → lcgo j wt we e Ψ (l.map inj) acc st := by
  induction l with
  | nil =>
    intro acc h
    show Ψ acc st
    simpa using h
  | cons a l ih =>
    intro acc h
    refine ht a List.mem_cons_self _ ?_
    have ih' := ih (fun b m => ht b (List.mem_cons_of_mem _ m)) (fun b m => he b (List.mem_cons_of_mem _ m))
    cases hg : g a with
    | true =>
      rw [if_pos rfl]
      refine he a List.mem_cons_self hg _ (ih' _ ?_)
      rw [List.filter_cons_of_pos hg, List.map_cons] at h
      simpa using h
    | false =>
      rw [if_neg (by decide)]
      refine ih' _ ?_
      rwa [List.filter_cons_of_neg (by rw [hg]; decide)] at h
theorem intsD_nat (n : Nat) : intsD (n : Int) = (List.range n).map nD := rfl
/-! ### the law's hand is made -/
def S_lhand : Spd := fun ds st Φ => ∃ ns : List Int, ds = [.scr ns] ∧ ns.length ≤ 1000 ∧ st = [] ∧ ∀ p b, HandB b → Φ (.own p) [(p, b)]
theorem pl_lhand (ds : List D) (st : Sto) (Φ : D → Sto → Prop) (h : S_lhand ds st Φ) : ds.length = 1 ∧ W_L_hand (endD Φ) (startD N_L_hand ds) st := by
  obtain ⟨ns, rfl, hn, rfl, k⟩ := h
  refine ⟨rfl, ?_⟩
  show W_L_hand  _ [some _, none, none, none] _
  unfold W_L_hand
  repeat walk_at "sx"
  intro p
  repeat walk_at "sx"
  refine for_ind (fun r e st => ∃ (cs : List Nat) (tot : Int) (x : Option D) (rs : List Int), r = rs.map D.int ∧ rs.length + cs.length ≤ 1000 ∧ e = [some (.scr ns), some (.int tot), some (.own p), x] ∧ st = [(p, .lst (cs.map nD))]) ?_ ?_ _ _ _ ⟨[], _, _, ns, rfl, hn, rfl, rfl⟩
  · rintro K d r e st ⟨cs, tot, x, rs, hr, hl, rfl, rfl⟩ hK
    cases rs with
    | nil => cases hr
    | cons c rs =>
      obtain ⟨rfl, rfl⟩ := List.cons.inj hr
      repeat walk_at "sx"
      have e : (if c < 0 then -c else c) = (c.natAbs : Int) := by split <;> omega
      rw [e]
      refine ⟨0, _, _, _, rfl, rfl, rfl, ?_, hK _ _ ⟨cs ++ [c.natAbs], _, _, rs, rfl, ?_, rfl, ?_⟩⟩
      · rw [List.length_map]; rw [List.length_cons] at hl; omega
      · rw [List.length_append]; simp at hl ⊢; omega
      · rw [List.map_append]; rfl
  · rintro e st ⟨cs, tot, x, rs, hr, hl, rfl, rfl⟩
    refine ⟨0, p, _, rfl, rfl, ?_⟩
    repeat walk_at "sx"
    intro q
    exact .keep [0] [(q, _)] (by simp) rfl (k q _ ⟨cs, 0, 0, tot, rfl⟩)
end Cw

set_option Elab.async false
set_option linter.all false
set_option maxRecDepth 100000
set_option maxHeartbeats 0
namespace Cw
open PySem hiding Env
open L2 hiding St
open DL
/-- one step -/
local macro_rules | `(tactic| walk_at "sx") => `(tactic| first | (with_reducible refine i_varH ?_; refine ⟨_, rfl, ?_⟩) | (with_reducible first | refine i_seq ?_ | refine i_asg ?_ | refine i_name ?_ | refine i_bin ?_ | refine i_c ?_ | refine i_fld ?_ | refine i_cons ?_ | refine i_nil ?_ | refine i_if ?_ | refine i_tst ?_ | refine i_ret ?_ | refine i_call ?_ | refine i_meth ?_ | refine i_andT ?_ | refine i_orT ?_ | refine i_notT ?_ | refine i_chain ?_ | refine i_is ?_ | refine i_tup ?_ | refine i_lst ?_ | refine i_cb ?_ | refine i_for ?_ | refine i_next ?_ | refine i_drop ?_ | refine i_andV ?_ | refine i_orV ?_ | refine i_notV ?_ | refine i_ifE ?_ | refine i_lstO ?_ | refine i_setF ?_ | refine i_sub ?_ | refine i_app ?_ | refine i_gtup ?_ | refine i_gcons ?_ | refine i_gnil ?_ | refine i_ilst ?_ | refine i_itup ?_ | refine i_irg ?_ | refine i_irgO ?_ | refine i_irev ?_ | refine i_ienT ?_ | refine i_ienL ?_ | refine i_lRg ?_ | refine i_lc ?_ | refine i_lcO ?_ | refine i_yes ?_ | refine i_retN ?_ | refine i_prop ?_ | refine i_makeO ?_ | refine i_make ?_ | refine i_star ?_) | (with_reducible first | refine q_tst ?_ | refine q_ifT ?_ | refine q_ifF ?_ | refine q_nT ?_ | refine q_nF ?_ | refine q_obj ?_ | refine p_add ?_ | refine p_sub ?_ | refine p_lt ?_ | refine p_le ?_ | refine p_gt ?_ | refine p_leB ?_ | refine p_eqI ?_ | refine p_eqS ?_ | refine p_neI ?_ | refine p_isNy ?_ | refine p_notNy ?_ | refine p_isB ?_ | refine p_notB ?_ | refine p_lenT ?_ | refine p_lenL ?_ | refine p_int ?_ | refine p_tupL ?_ | refine p_lstL ?_ | refine p_lstT ?_) | refine ⟨_, _, .inl rfl, rfl, ?_⟩ | refine p_mul (.inr (by decide)) ?_ | refine p_div ⟨by decide, by decide⟩ ?_ | refine p_mod (by decide) ?_ | (with_reducible refine p_abs ?_) | (with_reducible refine p_max ?_) | (with_reducible refine p_min ?_) | refine q_len rfl ?_ | refine ⟨_, .inl rfl, ?_⟩ | refine ⟨_, rfl, ?_⟩ | refine p_ixL rfl ?_ | refine p_ixT rfl ?_ | refine p_ixO 0 rfl rfl ?_ | refine p_ixO 1 rfl rfl ?_ | refine p_ixO 2 rfl rfl ?_ | refine ⟨_, .inr ⟨_, rfl, rfl⟩, ?_⟩ | refine p_ixO 3 rfl rfl ?_ | refine p_ixO 4 rfl rfl ?_ | refine p_ixO 5 rfl rfl ?_ | refine ⟨_, _, .inr ⟨0, _, rfl, rfl⟩, rfl, ?_⟩ | refine ⟨⟨_, .inr ⟨0, _, rfl, rfl⟩⟩, ?_⟩ | refine ⟨⟨0, _, _, rfl, rfl⟩, ?_⟩ | refine p_lenO 0 rfl ?_ | refine p_tupO 0 rfl ?_ | refine ⟨_, _, .inr ⟨1, _, rfl, rfl⟩, rfl, ?_⟩ | refine ⟨⟨_, .inr ⟨1, _, rfl, rfl⟩⟩, ?_⟩ | refine ⟨⟨1, _, _, rfl, rfl⟩, ?_⟩ | refine p_lenO 1 rfl ?_ | refine p_tupO 1 rfl ?_ | refine ⟨_, _, .inr ⟨2, _, rfl, rfl⟩, rfl, ?_⟩ | refine ⟨⟨_, .inr ⟨2, _, rfl, rfl⟩⟩, ?_⟩ | refine ⟨⟨2, _, _, rfl, rfl⟩, ?_⟩ | refine p_lenO 2 rfl ?_ | refine p_tupO 2 rfl ?_ | refine ⟨_, _, .inr ⟨3, _, rfl, rfl⟩, rfl, ?_⟩ | refine ⟨⟨_, .inr ⟨3, _, rfl, rfl⟩⟩, ?_⟩ | refine ⟨⟨3, _, _, rfl, rfl⟩, ?_⟩ | refine p_lenO 3 rfl ?_ | refine p_tupO 3 rfl ?_ | refine ⟨_, _, .inr ⟨4, _, rfl, rfl⟩, rfl, ?_⟩ | refine ⟨⟨_, .inr ⟨4, _, rfl, rfl⟩⟩, ?_⟩ | refine ⟨⟨4, _, _, rfl, rfl⟩, ?_⟩ | refine p_lenO 4 rfl ?_ | refine p_tupO 4 rfl ?_ | refine ⟨_, _, .inr ⟨5, _, rfl, rfl⟩, rfl, ?_⟩ | refine ⟨⟨_, .inr ⟨5, _, rfl, rfl⟩⟩, ?_⟩ | refine ⟨⟨5, _, _, rfl, rfl⟩, ?_⟩ | refine p_lenO 5 rfl ?_ | refine p_tupO 5 rfl ?_)
local macro_rules | `(tactic| walk_at "sy") => `(tactic| first | walk_at "sx" | refine p_ixT (at_rowsT (by assumption)) ?_ | refine p_ixT (at_range (by assumption)) ?_ | refine p_ixL (at_rowsL (by assumption)) ?_ | refine p_ixL (at_range (by assumption)) ?_ | refine ⟨_, rfl, rfl, ?_⟩ | refine ⟨rfl, ?_⟩ | refine ⟨0, _, _, _, rfl, rfl, .inl ⟨rfl, rfl⟩, ?_⟩ | refine ⟨0, _, _, _, rfl, rfl, .inr ⟨lt_ok rfl, rfl⟩, ?_⟩ | refine ⟨1, _, _, _, rfl, rfl, .inl ⟨rfl, rfl⟩, ?_⟩ | refine ⟨1, _, _, _, rfl, rfl, .inr ⟨lt_ok rfl, rfl⟩, ?_⟩ | refine ⟨2, _, _, _, rfl, rfl, .inl ⟨rfl, rfl⟩, ?_⟩ | refine ⟨2, _, _, _, rfl, rfl, .inr ⟨lt_ok rfl, rfl⟩, ?_⟩ | refine ⟨3, _, _, _, rfl, rfl, .inl ⟨rfl, rfl⟩, ?_⟩ | refine ⟨3, _, _, _, rfl, rfl, .inr ⟨lt_ok rfl, rfl⟩, ?_⟩)
local macro_rules | `(tactic| walk_at "sw") => `(tactic| first | walk_at "sy" | refine i_forc ?_ | refine i_forn ?_ | refine i_lcc ?_ | refine i_lcn ?_ | refine ⟨0, _, _, _, rfl, rfl, rfl, lt_ok rfl, ?_⟩ | refine ⟨1, _, _, _, rfl, rfl, rfl, lt_ok rfl, ?_⟩ | refine ⟨2, _, _, _, rfl, rfl, rfl, lt_ok rfl, ?_⟩ | refine ⟨3, _, _, _, rfl, rfl, rfl, lt_ok rfl, ?_⟩)

/-! ### the program's lattice is made -/
structure Lat.Ord (L : Lat) : Prop extends L.Ok where
  refl : ∀ i, i < L.n → L.le i i = true
  anti : ∀ i j, i < L.n → j < L.n → L.le i j = true → L.le j i = true → i = j
  trans : ∀ i j k, i < L.n → j < L.n → k < L.n → L.le i j = true → L.le j k = true → L.le i k = true
  ju1 : ∀ i j, i < L.n → j < L.n → L.le i (L.jn i j) = true
  ju2 : ∀ i j, i < L.n → j < L.n → L.le j (L.jn i j) = true
  jl : ∀ i j k, i < L.n → j < L.n → k < L.n → L.le i k = true → L.le j k = true → L.le (L.jn i j) k = true
  ml1 : ∀ i j, i < L.n → j < L.n → L.le (L.mt i j) i = true
  ml2 : ∀ i j, i < L.n → j < L.n → L.le (L.mt i j) j = true
  mg : ∀ i j k, i < L.n → j < L.n → k < L.n → L.le k i = true → L.le k j = true → L.le k (L.mt i j) = true
  bm : ∀ i, i < L.n → L.le L.bt i = true
  tm : ∀ i, i < L.n → L.le i L.tp = true
abbrev blT (n : Nat) (f : Nat → Nat → Bool) : D := .tup (rowsT n fun i j => .bl (f i j))
abbrev blL (n : Nat) (f : Nat → Nat → Bool) : D := .lst (rowsL n fun i j => .bl (f i j))
theorem len_rowsT (n : Nat) (f : Nat → Nat → D) : (rowsT n f).length = n := by unfold rowsT; rw [List.length_map, List.length_range]
theorem len_rowsL (n : Nat) (f : Nat → Nat → D) : (rowsL n f).length = n := by unfold rowsL; rw [List.length_map, List.length_range]
theorem len_mr {α : Type} (n : Nat) (f : Nat → α) : ((List.range n).map f).length = n := by rw [List.length_map, List.length_range]
def S_checked_rows : Spd := Pur fun ds r => ∃ (n : Nat) (f : Nat → Nat → Bool), 0 < n ∧ n ≤ 16 ∧ ds = [blL n f] ∧ r = blT n f
theorem enum_cons (k : Nat) (d : D) (r : List D) : enumD k (d :: r) = .tup [.int (k : Nat), d] :: enumD (k + 1) r := rfl
theorem pl_checked_rows (ds : List D) (st : Sto) (Φ : D → Sto → Prop) (h : S_checked_rows ds st Φ) : ds.length = 1 ∧ W_checked_rows (endD Φ) (startD N_checked_rows ds) st := by
  obtain ⟨rfl, r, ⟨n, f, h0, h1, rfl, rfl⟩, k⟩ := h
  refine ⟨rfl, ?_⟩
  show W_checked_rows  _ [some _, none, none, none, none, none] _
  unfold W_checked_rows
  repeat walk_at "sy"
  rw [len_rowsL]
  refine if_t (decide_eq_true (by omega)) ?_
  repeat walk_at "sy"
  refine if_f (by rw [decide_eq_true (by omega)]; rfl) ?_
  repeat walk_at "sy"
  intro p
  repeat walk_at "sy"
  refine for_ind (fun r e st => ∃ (is : List Nat) (k : Nat) (acc : List D) (x1 x2 x3 x4 : Option D), r = enumD k (is.map fun i => .lst ((List.range n).map fun j => .bl (f i j))) ∧ is.length + acc.length ≤ 16 ∧ e = [some (blL n f), some (.own p), x1, x2, x3, x4] ∧ st = [(p, .lst acc)] ∧ acc ++ (is.map fun i => .tup ((List.range n).map fun j => .bl (f i j))) = rowsT n fun i j => .bl (f i j)) ?_ ?_ _ _ _ ⟨List.range n, 0, [], _, _, _, _, rfl, by simpa using h1, rfl, rfl, rfl⟩
  · rintro K d r e st ⟨is, k, acc, x1, x2, x3, x4, hr, hl, rfl, rfl, ha⟩ hK
    cases is with
    | nil => cases hr
    | cons i is =>
      obtain ⟨rfl, rfl⟩ := List.cons.inj hr
      repeat walk_at "sy"
      refine if_f (by rw [len_mr, len_rowsL]; simp) ?_
      repeat walk_at "sy"
      refine for_ind (fun r e st => ∃ (js : List Nat) (k2 : Nat) (x3 x4 : Option D), r = enumD k2 (js.map fun j => .bl (f i j)) ∧ e = [some (blL n f), some (.own p), some (.int (k : Nat)), some (.lst ((List.range n).map fun j => .bl (f i j))), x3, x4] ∧ st = [(p, .lst acc)]) ?_ ?_ _ _ _ ⟨List.range n, 0, _, _, rfl, rfl, rfl⟩
      · rintro K' d r e st ⟨js, k', x3, x4, hr, rfl, rfl⟩ hK'
        cases js with
        | nil => cases hr
        | cons j js =>
          obtain ⟨rfl, rfl⟩ := List.cons.inj hr
          repeat walk_at "sy"
          exact hK' _ _ ⟨js, k' + 1, _, _, rfl, rfl, rfl⟩
      · rintro e st ⟨js, k', x3, x4, hr, rfl, rfl⟩
        repeat walk_at "sy"
        refine ⟨0, _, _, _, rfl, rfl, rfl, ?_, hK _ _ ⟨is, k + 1, acc ++ [.tup ((List.range n).map fun j => .bl (f i j))], _, _, _, _, rfl, ?_, rfl, rfl, ?_⟩⟩
        · simp at hl; omega
        · simp at hl ⊢; omega
        · rw [← ha, List.append_assoc]; rfl
  · rintro e st ⟨is, k', acc, x1, x2, x3, x4, hr, hl, rfl, rfl, ha⟩
    cases is with
    | cons i is => cases hr
    | nil =>
      repeat walk_at "sy"
      rw [List.map_nil, List.append_nil] at ha
      rw [ha]
      exact e_keep k
end Cw

set_option Elab.async false
set_option linter.all false
set_option maxRecDepth 100000
set_option maxHeartbeats 0
namespace Cw
open PySem hiding Env
open L2 hiding St
open DL
/-- one step -/
local macro_rules | `(tactic| walk_at "sx") => `(tactic| first | (with_reducible refine i_varH ?_; refine ⟨_, rfl, ?_⟩) | (with_reducible first | refine i_seq ?_ | refine i_asg ?_ | refine i_name ?_ | refine i_bin ?_ | refine i_c ?_ | refine i_fld ?_ | refine i_cons ?_ | refine i_nil ?_ | refine i_if ?_ | refine i_tst ?_ | refine i_ret ?_ | refine i_call ?_ | refine i_meth ?_ | refine i_andT ?_ | refine i_orT ?_ | refine i_notT ?_ | refine i_chain ?_ | refine i_is ?_ | refine i_tup ?_ | refine i_lst ?_ | refine i_cb ?_ | refine i_for ?_ | refine i_next ?_ | refine i_drop ?_ | refine i_andV ?_ | refine i_orV ?_ | refine i_notV ?_ | refine i_ifE ?_ | refine i_lstO ?_ | refine i_setF ?_ | refine i_sub ?_ | refine i_app ?_ | refine i_gtup ?_ | refine i_gcons ?_ | refine i_gnil ?_ | refine i_ilst ?_ | refine i_itup ?_ | refine i_irg ?_ | refine i_irgO ?_ | refine i_irev ?_ | refine i_ienT ?_ | refine i_ienL ?_ | refine i_lRg ?_ | refine i_lc ?_ | refine i_lcO ?_ | refine i_yes ?_ | refine i_retN ?_ | refine i_prop ?_ | refine i_makeO ?_ | refine i_make ?_ | refine i_star ?_) | (with_reducible first | refine q_tst ?_ | refine q_ifT ?_ | refine q_ifF ?_ | refine q_nT ?_ | refine q_nF ?_ | refine q_obj ?_ | refine p_add ?_ | refine p_sub ?_ | refine p_lt ?_ | refine p_le ?_ | refine p_gt ?_ | refine p_leB ?_ | refine p_eqI ?_ | refine p_eqS ?_ | refine p_neI ?_ | refine p_isNy ?_ | refine p_notNy ?_ | refine p_isB ?_ | refine p_notB ?_ | refine p_lenT ?_ | refine p_lenL ?_ | refine p_int ?_ | refine p_tupL ?_ | refine p_lstL ?_ | refine p_lstT ?_) | refine ⟨_, _, .inl rfl, rfl, ?_⟩ | refine p_mul (.inr (by decide)) ?_ | refine p_div ⟨by decide, by decide⟩ ?_ | refine p_mod (by decide) ?_ | (with_reducible refine p_abs ?_) | (with_reducible refine p_max ?_) | (with_reducible refine p_min ?_) | refine q_len rfl ?_ | refine ⟨_, .inl rfl, ?_⟩ | refine ⟨_, rfl, ?_⟩ | refine p_ixL rfl ?_ | refine p_ixT rfl ?_ | refine p_ixO 0 rfl rfl ?_ | refine p_ixO 1 rfl rfl ?_ | refine p_ixO 2 rfl rfl ?_ | refine ⟨_, .inr ⟨_, rfl, rfl⟩, ?_⟩ | refine p_ixO 3 rfl rfl ?_ | refine p_ixO 4 rfl rfl ?_ | refine p_ixO 5 rfl rfl ?_ | refine ⟨_, _, .inr ⟨0, _, rfl, rfl⟩, rfl, ?_⟩ | refine ⟨⟨_, .inr ⟨0, _, rfl, rfl⟩⟩, ?_⟩ | refine ⟨⟨0, _, _, rfl, rfl⟩, ?_⟩ | refine p_lenO 0 rfl ?_ | refine p_tupO 0 rfl ?_ | refine ⟨_, _, .inr ⟨1, _, rfl, rfl⟩, rfl, ?_⟩ | refine ⟨⟨_, .inr ⟨1, _, rfl, rfl⟩⟩, ?_⟩ | refine ⟨⟨1, _, _, rfl, rfl⟩, ?_⟩ | refine p_lenO 1 rfl ?_ | refine p_tupO 1 rfl ?_ | refine ⟨_, _, .inr ⟨2, _, rfl, rfl⟩, rfl, ?_⟩ | refine ⟨⟨_, .inr ⟨2, _, rfl, rfl⟩⟩, ?_⟩ | refine ⟨⟨2, _, _, rfl, rfl⟩, ?_⟩ | refine p_lenO 2 rfl ?_ | refine p_tupO 2 rfl ?_ | refine ⟨_, _, .inr ⟨3, _, rfl, rfl⟩, rfl, ?_⟩ | refine ⟨⟨_, .inr ⟨3, _, rfl, rfl⟩⟩, ?_⟩ | refine ⟨⟨3, _, _, rfl, rfl⟩, ?_⟩ | refine p_lenO 3 rfl ?_ | refine p_tupO 3 rfl ?_ | refine ⟨_, _, .inr ⟨4, _, rfl, rfl⟩, rfl, ?_⟩ | refine ⟨⟨_, .inr ⟨4, _, rfl, rfl⟩⟩, ?_⟩ | refine ⟨⟨4, _, _, rfl, rfl⟩, ?_⟩ | refine p_lenO 4 rfl ?_ | refine p_tupO 4 rfl ?_ | refine ⟨_, _, .inr ⟨5, _, rfl, rfl⟩, rfl, ?_⟩ | refine ⟨⟨_, .inr ⟨5, _, rfl, rfl⟩⟩, ?_⟩ | refine ⟨⟨5, _, _, rfl, rfl⟩, ?_⟩ | refine p_lenO 5 rfl ?_ | refine p_tupO 5 rfl ?_)
local macro_rules | `(tactic| walk_at "sy") => `(tactic| first | walk_at "sx" | refine p_ixT (at_rowsT (by assumption)) ?_ | refine p_ixT (at_range (by assumption)) ?_ | refine p_ixL (at_rowsL (by assumption)) ?_ | refine p_ixL (at_range (by assumption)) ?_ | refine ⟨_, rfl, rfl, ?_⟩ | refine ⟨rfl, ?_⟩ | refine ⟨0, _, _, _, rfl, rfl, .inl ⟨rfl, rfl⟩, ?_⟩ | refine ⟨0, _, _, _, rfl, rfl, .inr ⟨lt_ok rfl, rfl⟩, ?_⟩ | refine ⟨1, _, _, _, rfl, rfl, .inl ⟨rfl, rfl⟩, ?_⟩ | refine ⟨1, _, _, _, rfl, rfl, .inr ⟨lt_ok rfl, rfl⟩, ?_⟩ | refine ⟨2, _, _, _, rfl, rfl, .inl ⟨rfl, rfl⟩, ?_⟩ | refine ⟨2, _, _, _, rfl, rfl, .inr ⟨lt_ok rfl, rfl⟩, ?_⟩ | refine ⟨3, _, _, _, rfl, rfl, .inl ⟨rfl, rfl⟩, ?_⟩ | refine ⟨3, _, _, _, rfl, rfl, .inr ⟨lt_ok rfl, rfl⟩, ?_⟩)
local macro_rules | `(tactic| walk_at "sw") => `(tactic| first | walk_at "sy" | refine i_forc ?_ | refine i_forn ?_ | refine i_lcc ?_ | refine i_lcn ?_ | refine ⟨0, _, _, _, rfl, rfl, rfl, lt_ok rfl, ?_⟩ | refine ⟨1, _, _, _, rfl, rfl, rfl, lt_ok rfl, ?_⟩ | refine ⟨2, _, _, _, rfl, rfl, rfl, lt_ok rfl, ?_⟩ | refine ⟨3, _, _, _, rfl, rfl, rfl, lt_ok rfl, ?_⟩)

def S_check_order : Spd := Pur fun ds r => ∃ L : Lat, L.Ord ∧ ds = [blT L.n L.le] ∧ r = .non
/-- numbers all below n -/
def Lo (n : Nat) (is : List Nat) : Prop := ∀ i ∈ is, i < n
theorem Lo.hd {n i : Nat} {is : List Nat} (h : Lo n (i :: is)) : i < n := h i List.mem_cons_self
theorem Lo.tl {n i : Nat} {is : List Nat} (h : Lo n (i :: is)) : Lo n is := fun j m => h j (List.mem_cons_of_mem _ m)
theorem Lo.range (n : Nat) : Lo n (List.range n) := fun _ m => List.mem_range.mp m
theorem Lo.drop {n k : Nat} {is : List Nat} (h : Lo n is) : Lo n (is.drop k) := fun i m => h i (List.mem_of_mem_drop m)
theorem cut_from {ds : List D} {k : Nat} : cutD ds (some (k : Int)) none = ds.drop k := by
  unfold cutD
  rw [HT.sIx_none, HT.sIx_nat]
  by_cases h : k ≤ ds.length
  · rw [Nat.min_eq_left h]
    exact List.take_of_length_le (by rw [List.length_drop]; exact Nat.le_refl _)
  · rw [Nat.min_eq_right (by omega), List.drop_of_length_le (Nat.le_refl _), List.drop_of_length_le (by omega)]
    simp
theorem cutN {n i : Nat} : cutD ((List.range n).map nD) (some ((i : Int) + 1)) none = ((List.range n).drop (i + 1)).map nD := by
  have := cut_from (ds := (List.range n).map nD) (k := i + 1)
  rw [List.map_drop]
  exact this
theorem drop_gt {n i : Nat} : ∀ j ∈ (List.range n).drop (i + 1), i < j ∧ j < n := fun j m => by
  obtain ⟨k, hk⟩ := List.mem_iff_getElem?.mp m
  rw [List.getElem?_drop] at hk
  obtain ⟨hl, he⟩ := List.getElem?_eq_some_iff.mp hk
  rw [List.getElem_range] at he
  rw [List.length_range] at hl
  omega
theorem pl_check_order (ds : List D) (st : Sto) (Φ : D → Sto → Prop) (h : S_check_order ds st Φ) : ds.length = 1 ∧ W_check_order (endD Φ) (startD N_check_order ds) st := by
  obtain ⟨rfl, r, ⟨L, o, rfl, rfl⟩, k⟩ := h
  refine ⟨rfl, ?_⟩
  show W_check_order  _ [some _, none, none, none, none] _
  unfold W_check_order
  repeat walk_at "sy"
  rw [len_rowsT]
  refine ⟨by omega, by have := o.few; omega, ?_⟩
  rw [intsD_nat]
  repeat walk_at "sy"
  refine for_ind (fun r e st => ∃ (is : List Nat) (x : Option D), r = is.map nD ∧ Lo L.n is ∧ e = [some (blT L.n L.le), some (.lst ((List.range L.n).map nD)), x, none, none] ∧ st = []) ?_ ?_ _ _ _ ⟨_, _, rfl, Lo.range _, rfl, rfl⟩
  · rintro K d r e st ⟨is, x, hr, hl, rfl, rfl⟩ hK
    cases is with
    | nil => cases hr
    | cons i is =>
      obtain ⟨rfl, rfl⟩ := List.cons.inj hr
      have hi := hl.hd
      repeat walk_at "sy"
      refine if_f (by rw [o.refl i hi]; rfl) ?_
      repeat walk_at "sy"
      exact hK _ _ ⟨is, _, rfl, hl.tl, rfl, rfl⟩
  rintro e st ⟨is, x, hr, hl, rfl, rfl⟩
  repeat walk_at "sy"
  refine for_ind (fun r e st => ∃ (is : List Nat) (x y : Option D), r = is.map nD ∧ Lo L.n is ∧ e = [some (blT L.n L.le), some (.lst ((List.range L.n).map nD)), x, y, none] ∧ st = []) ?_ ?_ _ _ _ ⟨_, _, _, rfl, Lo.range _, rfl, rfl⟩
  · rintro K d r e st ⟨is, x, y, hr, hl, rfl, rfl⟩ hK
    cases is with
    | nil => cases hr
    | cons i is =>
      obtain ⟨rfl, rfl⟩ := List.cons.inj hr
      have hi := hl.hd
      repeat walk_at "sy"
      show _ ∨ _
      refine .inl ⟨_, .inl rfl, ?_⟩
      repeat walk_at "sy"
      rw [cutN]
      refine for_ind (fun r e st => ∃ (js : List Nat) (y : Option D), r = js.map nD ∧ (∀ j ∈ js, i < j ∧ j < L.n) ∧ e = [some (blT L.n L.le), some (.lst ((List.range L.n).map nD)), some (nD i), y, none] ∧ st = []) ?_ ?_ _ _ _ ⟨_, _, rfl, drop_gt, rfl, rfl⟩
      · rintro K' d r e st ⟨js, y, hr, hl', rfl, rfl⟩ hK'
        cases js with
        | nil => cases hr
        | cons j js =>
          obtain ⟨rfl, rfl⟩ := List.cons.inj hr
          obtain ⟨hij, hj⟩ := hl' j List.mem_cons_self
          have fin := hK' _ [] ⟨js, some (nD j), rfl, fun j m => hl' j (List.mem_cons_of_mem _ m), rfl, rfl⟩
          repeat walk_at "sy"
          cases h1 : L.le i j with
          | false => exact fin
          | true =>
            repeat walk_at "sy"
            refine if_f ?_ fin
            cases h2 : L.le j i with
            | false => rfl
            | true =>
              have := o.anti i j hi hj h1 h2
              omega
      · rintro e st ⟨js, y, hr, hl', rfl, rfl⟩
        exact hK _ _ ⟨is, _, _, rfl, hl.tl, rfl, rfl⟩
  rintro e st ⟨is, x, y, hr, hl, rfl, rfl⟩
  repeat walk_at "sy"
  refine for_ind (fun r e st => ∃ (is : List Nat) (x y z : Option D), r = is.map nD ∧ Lo L.n is ∧ e = [some (blT L.n L.le), some (.lst ((List.range L.n).map nD)), x, y, z] ∧ st = []) ?_ ?_ _ _ _ ⟨_, _, _, _, rfl, Lo.range _, rfl, rfl⟩
  · rintro K d r e st ⟨is, x, y, z, hr, hl, rfl, rfl⟩ hK
    cases is with
    | nil => cases hr
    | cons i is =>
      obtain ⟨rfl, rfl⟩ := List.cons.inj hr
      have hi := hl.hd
      repeat walk_at "sy"
      refine for_ind (fun r e st => ∃ (js : List Nat) (y z : Option D), r = js.map nD ∧ Lo L.n js ∧ e = [some (blT L.n L.le), some (.lst ((List.range L.n).map nD)), some (nD i), y, z] ∧ st = []) ?_ ?_ _ _ _ ⟨_, _, _, rfl, Lo.range _, rfl, rfl⟩
      · rintro K' d r e st ⟨js, y, z, hr, hl', rfl, rfl⟩ hK'
        cases js with
        | nil => cases hr
        | cons j js =>
          obtain ⟨rfl, rfl⟩ := List.cons.inj hr
          have hj := hl'.hd
          repeat walk_at "sy"
          cases h1 : L.le i j with
          | false => exact hK' _ [] ⟨js, some (nD j), z, rfl, hl'.tl, rfl, rfl⟩
          | true =>
            repeat walk_at "sy"
            refine for_ind (fun r e st => ∃ (ks : List Nat) (z : Option D), r = ks.map nD ∧ Lo L.n ks ∧ e = [some (blT L.n L.le), some (.lst ((List.range L.n).map nD)), some (nD i), some (nD j), z] ∧ st = []) ?_ ?_ _ _ _ ⟨_, _, rfl, Lo.range _, rfl, rfl⟩
            · rintro K2 d r e st ⟨ks, z, hr, hl2, rfl, rfl⟩ hK2
              cases ks with
              | nil => cases hr
              | cons c ks =>
                obtain ⟨rfl, rfl⟩ := List.cons.inj hr
                have hc := hl2.hd
                have fin := hK2 _ [] ⟨ks, some (nD c), rfl, hl2.tl, rfl, rfl⟩
                repeat walk_at "sy"
                cases h2 : L.le j c with
                | false => exact fin
                | true =>
                  repeat walk_at "sy"
                  exact if_f (by rw [o.trans i j c hi hj hc h1 h2]; rfl) fin
            · rintro e st ⟨ks, z, hr, hl2, rfl, rfl⟩
              exact hK' _ _ ⟨js, _, _, rfl, hl'.tl, rfl, rfl⟩
      · rintro e st ⟨js, y, z, hr, hl', rfl, rfl⟩
        exact hK _ _ ⟨is, _, _, _, rfl, hl.tl, rfl, rfl⟩
  · rintro e st ⟨is, x, y, z, hr, hl, rfl, rfl⟩
    exact e_keep k
def S_turned : Spd := Pur fun ds r => ∃ (n : Nat) (f : Nat → Nat → Bool), n ≤ 16 ∧ ds = [blT n f] ∧ r = blT n fun i j => f j i
theorem filter_true {α : Type} (l : List α) : l.filter (fun _ => true) = l := List.filter_eq_self.mpr fun _ _ => rfl
theorem pl_turned (ds : List D) (st : Sto) (Φ : D → Sto → Prop) (h : S_turned ds st Φ) : ds.length = 1 ∧ W_turned_rows (endD Φ) (startD N_turned_rows ds) st := by
  obtain ⟨rfl, r, ⟨n, f, hn, rfl, rfl⟩, k⟩ := h
  refine ⟨rfl, ?_⟩
  show W_turned_rows  _ [some _, none, none, none] _
  unfold W_turned_rows
  repeat walk_at "sy"
  rw [len_rowsT]
  refine ⟨by omega, by omega, ?_⟩
  rw [intsD_nat]
  repeat walk_at "sy"
  refine ⟨by rw [len_mr]; omega, lc_gen (List.range n) nD (fun _ => true) (fun i => .tup ((List.range n).map fun j => .bl (f j i))) (fun _ _ _ h => h) (fun i hi _ Ψ hΨ => ?_) _ ?_⟩
  · have hi := List.mem_range.mp hi
    repeat walk_at "sy"
    refine ⟨by rw [len_mr]; omega, lc_gen (List.range n) nD (fun _ => true) (fun j => .bl (f j i)) (fun _ _ _ h => h) (fun j hj _ Ψ' hΨ' => ?_) _ ?_⟩
    · have hj := List.mem_range.mp hj
      repeat walk_at "sy"
      exact hΨ'
    · rw [filter_true]
      repeat walk_at "sy"
      exact hΨ
  · rw [filter_true]
    repeat walk_at "sy"
    exact e_keep k
end Cw

set_option Elab.async false
set_option linter.all false
set_option maxRecDepth 100000
set_option maxHeartbeats 0
namespace Cw
open PySem hiding Env
open L2 hiding St
open DL
/-- one step -/
local macro_rules | `(tactic| walk_at "sx") => `(tactic| first | (with_reducible refine i_varH ?_; refine ⟨_, rfl, ?_⟩) | (with_reducible first | refine i_seq ?_ | refine i_asg ?_ | refine i_name ?_ | refine i_bin ?_ | refine i_c ?_ | refine i_fld ?_ | refine i_cons ?_ | refine i_nil ?_ | refine i_if ?_ | refine i_tst ?_ | refine i_ret ?_ | refine i_call ?_ | refine i_meth ?_ | refine i_andT ?_ | refine i_orT ?_ | refine i_notT ?_ | refine i_chain ?_ | refine i_is ?_ | refine i_tup ?_ | refine i_lst ?_ | refine i_cb ?_ | refine i_for ?_ | refine i_next ?_ | refine i_drop ?_ | refine i_andV ?_ | refine i_orV ?_ | refine i_notV ?_ | refine i_ifE ?_ | refine i_lstO ?_ | refine i_setF ?_ | refine i_sub ?_ | refine i_app ?_ | refine i_gtup ?_ | refine i_gcons ?_ | refine i_gnil ?_ | refine i_ilst ?_ | refine i_itup ?_ | refine i_irg ?_ | refine i_irgO ?_ | refine i_irev ?_ | refine i_ienT ?_ | refine i_ienL ?_ | refine i_lRg ?_ | refine i_lc ?_ | refine i_lcO ?_ | refine i_yes ?_ | refine i_retN ?_ | refine i_prop ?_ | refine i_makeO ?_ | refine i_make ?_ | refine i_star ?_) | (with_reducible first | refine q_tst ?_ | refine q_ifT ?_ | refine q_ifF ?_ | refine q_nT ?_ | refine q_nF ?_ | refine q_obj ?_ | refine p_add ?_ | refine p_sub ?_ | refine p_lt ?_ | refine p_le ?_ | refine p_gt ?_ | refine p_leB ?_ | refine p_eqI ?_ | refine p_eqS ?_ | refine p_neI ?_ | refine p_isNy ?_ | refine p_notNy ?_ | refine p_isB ?_ | refine p_notB ?_ | refine p_lenT ?_ | refine p_lenL ?_ | refine p_int ?_ | refine p_tupL ?_ | refine p_lstL ?_ | refine p_lstT ?_) | refine ⟨_, _, .inl rfl, rfl, ?_⟩ | refine p_mul (.inr (by decide)) ?_ | refine p_div ⟨by decide, by decide⟩ ?_ | refine p_mod (by decide) ?_ | (with_reducible refine p_abs ?_) | (with_reducible refine p_max ?_) | (with_reducible refine p_min ?_) | refine q_len rfl ?_ | refine ⟨_, .inl rfl, ?_⟩ | refine ⟨_, rfl, ?_⟩ | refine p_ixL rfl ?_ | refine p_ixT rfl ?_ | refine p_ixO 0 rfl rfl ?_ | refine p_ixO 1 rfl rfl ?_ | refine p_ixO 2 rfl rfl ?_ | refine ⟨_, .inr ⟨_, rfl, rfl⟩, ?_⟩ | refine p_ixO 3 rfl rfl ?_ | refine p_ixO 4 rfl rfl ?_ | refine p_ixO 5 rfl rfl ?_ | refine ⟨_, _, .inr ⟨0, _, rfl, rfl⟩, rfl, ?_⟩ | refine ⟨⟨_, .inr ⟨0, _, rfl, rfl⟩⟩, ?_⟩ | refine ⟨⟨0, _, _, rfl, rfl⟩, ?_⟩ | refine p_lenO 0 rfl ?_ | refine p_tupO 0 rfl ?_ | refine ⟨_, _, .inr ⟨1, _, rfl, rfl⟩, rfl, ?_⟩ | refine ⟨⟨_, .inr ⟨1, _, rfl, rfl⟩⟩, ?_⟩ | refine ⟨⟨1, _, _, rfl, rfl⟩, ?_⟩ | refine p_lenO 1 rfl ?_ | refine p_tupO 1 rfl ?_ | refine ⟨_, _, .inr ⟨2, _, rfl, rfl⟩, rfl, ?_⟩ | refine ⟨⟨_, .inr ⟨2, _, rfl, rfl⟩⟩, ?_⟩ | refine ⟨⟨2, _, _, rfl, rfl⟩, ?_⟩ | refine p_lenO 2 rfl ?_ | refine p_tupO 2 rfl ?_ | refine ⟨_, _, .inr ⟨3, _, rfl, rfl⟩, rfl, ?_⟩ | refine ⟨⟨_, .inr ⟨3, _, rfl, rfl⟩⟩, ?_⟩ | refine ⟨⟨3, _, _, rfl, rfl⟩, ?_⟩ | refine p_lenO 3 rfl ?_ | refine p_tupO 3 rfl ?_ | refine ⟨_, _, .inr ⟨4, _, rfl, rfl⟩, rfl, ?_⟩ | refine ⟨⟨_, .inr ⟨4, _, rfl, rfl⟩⟩, ?_⟩ | refine ⟨⟨4, _, _, rfl, rfl⟩, ?_⟩ | refine p_lenO 4 rfl ?_ | refine p_tupO 4 rfl ?_ | refine ⟨_, _, .inr ⟨5, _, rfl, rfl⟩, rfl, ?_⟩ | refine ⟨⟨_, .inr ⟨5, _, rfl, rfl⟩⟩, ?_⟩ | refine ⟨⟨5, _, _, rfl, rfl⟩, ?_⟩ | refine p_lenO 5 rfl ?_ | refine p_tupO 5 rfl ?_)
local macro_rules | `(tactic| walk_at "sy") => `(tactic| first | walk_at "sx" | refine p_ixT (at_rowsT (by assumption)) ?_ | refine p_ixT (at_range (by assumption)) ?_ | refine p_ixL (at_rowsL (by assumption)) ?_ | refine p_ixL (at_range (by assumption)) ?_ | refine ⟨_, rfl, rfl, ?_⟩ | refine ⟨rfl, ?_⟩ | refine ⟨0, _, _, _, rfl, rfl, .inl ⟨rfl, rfl⟩, ?_⟩ | refine ⟨0, _, _, _, rfl, rfl, .inr ⟨lt_ok rfl, rfl⟩, ?_⟩ | refine ⟨1, _, _, _, rfl, rfl, .inl ⟨rfl, rfl⟩, ?_⟩ | refine ⟨1, _, _, _, rfl, rfl, .inr ⟨lt_ok rfl, rfl⟩, ?_⟩ | refine ⟨2, _, _, _, rfl, rfl, .inl ⟨rfl, rfl⟩, ?_⟩ | refine ⟨2, _, _, _, rfl, rfl, .inr ⟨lt_ok rfl, rfl⟩, ?_⟩ | refine ⟨3, _, _, _, rfl, rfl, .inl ⟨rfl, rfl⟩, ?_⟩ | refine ⟨3, _, _, _, rfl, rfl, .inr ⟨lt_ok rfl, rfl⟩, ?_⟩)
local macro_rules | `(tactic| walk_at "sw") => `(tactic| first | walk_at "sy" | refine i_forc ?_ | refine i_forn ?_ | refine i_lcc ?_ | refine i_lcn ?_ | refine ⟨0, _, _, _, rfl, rfl, rfl, lt_ok rfl, ?_⟩ | refine ⟨1, _, _, _, rfl, rfl, rfl, lt_ok rfl, ?_⟩ | refine ⟨2, _, _, _, rfl, rfl, rfl, lt_ok rfl, ?_⟩ | refine ⟨3, _, _, _, rfl, rfl, rfl, lt_ok rfl, ?_⟩)

theorem p_allM {α : Type} {l : List α} {f : α → Bool} {st : Sto} {Υ : D → Prop} (h : Υ (.bl (l.all f))) : ∃ d, PAll [.lst (l.map fun a => .bl (f a))] st d ∧ Υ d := by
  refine ⟨_, ⟨_, l.map f, rfl, .inl ?_, rfl⟩, ?_⟩
  · rw [List.map_map]; rfl
  · rw [List.all_map]; exact h
theorem p_anyM {α : Type} {l : List α} {f : α → Bool} {st : Sto} {Υ : D → Prop} (h : Υ (.bl (l.any f))) : ∃ d, PAny [.lst (l.map fun a => .bl (f a))] st d ∧ Υ d := by
  refine ⟨_, ⟨_, l.map f, rfl, .inl ?_, rfl⟩, ?_⟩
  · rw [List.map_map]; rfl
  · rw [List.any_map]; exact h
theorem p_allTM {α : Type} {l : List α} {f : α → Bool} {st : Sto} {Υ : D → Prop} (h : Υ (.bl (l.all f))) : ∃ d, PAllT [.tup (l.map fun a => .bl (f a))] st d ∧ Υ d := by
  refine ⟨_, ⟨l.map f, ?_, rfl⟩, ?_⟩
  · rw [List.map_map]; rfl
  · rw [List.all_map]; exact h
/-- g is the least above x and y -/
structure Lub (n : Nat) (f : Nat → Nat → Bool) (x y g : Nat) : Prop where
  lt : g < n
  u1 : f x g = true
  u2 : f y g = true
  l : ∀ z, z < n → f x z = true → f y z = true → f g z = true
def Anti (n : Nat) (f : Nat → Nat → Bool) : Prop := ∀ i j, i < n → j < n → f i j = true → f j i = true → i = j
def S_least_above : Spd := Pur fun ds r => ∃ (n : Nat) (f : Nat → Nat → Bool) (x y g : Nat), n ≤ 16 ∧ Anti n f ∧ x < n ∧ y < n ∧ Lub n f x y g ∧ ds = [blT n f, nD x, nD y] ∧ r = nD g
theorem pl_least_above (ds : List D) (st : Sto) (Φ : D → Sto → Prop) (h : S_least_above ds st Φ) : ds.length = 3 ∧ W_least_above (endD Φ) (startD N_least_above ds) st := by
  obtain ⟨rfl, r, ⟨n, f, x, y, g, hn, an, hx, hy, lub, rfl, rfl⟩, k⟩ := h
  refine ⟨rfl, ?_⟩
  show W_least_above  _ [some _, some _, some _, none, none, none] _
  unfold W_least_above
  repeat walk_at "sy"
  rw [len_rowsT]
  refine ⟨by omega, by omega, ?_⟩
  rw [intsD_nat]
  refine ⟨by rw [len_mr]; omega, lc_gen (List.range n) nD (fun z => f x z && f y z) nD (fun z hz Θ hΘ => ?_) (fun i hi _ Ψ hΨ => ?_) _ ?_⟩
  · have hz := List.mem_range.mp hz
    repeat walk_at "sy"
    cases h1 : f x z with
    | false => rw [h1] at hΘ; exact hΘ
    | true =>
      rw [h1] at hΘ
      repeat walk_at "sy"
      exact hΘ
  · repeat walk_at "sy"
    exact hΨ
  rw [List.nil_append]
  generalize hA : (List.range n).filter (fun z => f x z && f y z) = ab
  have mem : ∀ z, z ∈ ab ↔ z < n ∧ f x z = true ∧ f y z = true := fun z => by
    rw [← hA, List.mem_filter, List.mem_range, Bool.and_eq_true]
  have hal : ab.length ≤ 16 := by
    rw [← hA]
    have := List.length_filter_le (fun z => f x z && f y z) (List.range n)
    rw [List.length_range] at this
    omega
  clear hA
  repeat walk_at "sy"
  refine for_ind (fun r e st => ∃ (is : List Nat) (c : Option D), r = is.map nD ∧ (∀ i ∈ is, i ∈ ab) ∧ g ∈ is ∧ e = [some (blT n f), some (nD x), some (nD y), c, some (.lst (ab.map nD)), none] ∧ st = []) ?_ ?_ _ _ _ ⟨ab, _, rfl, fun _ h => h, (mem g).mpr ⟨lub.lt, lub.u1, lub.u2⟩, rfl, rfl⟩
  · rintro K d r e st ⟨is, c, hr, hl, hg, rfl, rfl⟩ hK
    cases is with
    | nil => cases hr
    | cons i is =>
      obtain ⟨rfl, rfl⟩ := List.cons.inj hr
      obtain ⟨hi, hi1, hi2⟩ := (mem i).mp (hl i List.mem_cons_self)
      repeat walk_at "sy"
      refine ⟨by rw [List.length_map]; omega, lc_gen ab nD (fun _ => true) (fun w => .bl (f i w)) (fun _ _ _ h => h) (fun w hw _ Ψ hΨ => ?_) _ ?_⟩
      · have hw := ((mem w).mp hw).1
        repeat walk_at "sy"
        exact hΨ
      · rw [filter_true, List.nil_append]
        repeat walk_at "sy"
        refine p_allM ?_
        repeat walk_at "sy"
        cases h1 : ab.all (f i) with
        | true =>
          have e : i = g := an i g hi lub.lt (List.all_eq_true.mp h1 g ((mem g).mpr ⟨lub.lt, lub.u1, lub.u2⟩)) (lub.l i hi hi1 hi2)
          subst e
          repeat walk_at "sy"
          exact e_keep k
        | false =>
          refine hK _ [] ⟨is, _, rfl, fun j m => hl j (List.mem_cons_of_mem _ m), ?_, rfl, rfl⟩
          rcases List.mem_cons.mp hg with e | m
          · exfalso
            subst e
            have : ab.all (f g) = true := List.all_eq_true.mpr fun z hz => by
              obtain ⟨a, b, c⟩ := (mem z).mp hz
              exact lub.l z a b c
            rw [this] at h1
            cases h1
          · exact m
  · rintro e st ⟨is, c, hr, hl, hg, rfl, rfl⟩
    cases is with
    | nil => cases hg
    | cons i is => cases hr
/-- .. of any content -/
def S_covers : Spd := fun ds st Φ => ∃ (n : Nat) (f : Nat → Nat → Bool) (w : Nat), n ≤ 16 ∧ w < n ∧ ds = [blT n f, nD w] ∧ st = [] ∧ ∀ l : List D, Φ (.tup l) []
theorem pl_covers (ds : List D) (st : Sto) (Φ : D → Sto → Prop) (h : S_covers ds st Φ) : ds.length = 2 ∧ W_lower_covers (endD Φ) (startD N_lower_covers ds) st := by
  obtain ⟨n, f, w, hn, hw, rfl, rfl, k⟩ := h
  refine ⟨rfl, ?_⟩
  show W_lower_covers  _ [some _, some _, none, none, none] _
  unfold W_lower_covers
  repeat walk_at "sy"
  rw [len_rowsT]
  refine ⟨by omega, by omega, ?_⟩
  rw [intsD_nat]
  refine ⟨by rw [len_mr]; omega, lc_gen (List.range n) nD (fun (z : Nat) => (!decide ((z : Int) = (w : Int))) && f z w) nD (fun z hz Θ hΘ => ?_) (fun i hi _ Ψ hΨ => ?_) _ ?_⟩
  · have hz := List.mem_range.mp hz
    repeat walk_at "sy"
    cases h1 : (!decide ((z : Int) = (w : Int))) with
    | false => rw [h1] at hΘ; exact hΘ
    | true =>
      rw [h1] at hΘ
      repeat walk_at "sy"
      exact hΘ
  · repeat walk_at "sy"
    exact hΨ
  rw [List.nil_append]
  generalize hA : (List.range n).filter (fun (z : Nat) => (!decide ((z : Int) = (w : Int))) && f z w) = ab
  have mem : ∀ z, z ∈ ab → z < n := fun z => by
    rw [← hA, List.mem_filter, List.mem_range]
    exact fun h => h.1
  have hal : ab.length ≤ 16 := by
    rw [← hA]
    have := List.length_filter_le (fun (z : Nat) => (!decide ((z : Int) = (w : Int))) && f z w) (List.range n)
    rw [List.length_range] at this
    omega
  clear hA
  repeat walk_at "sy"
  refine ⟨by rw [List.length_map]; omega, lc_gen ab nD (fun (x : Nat) => !(ab.any fun (z : Nat) => (!decide ((z : Int) = (x : Int))) && f x z)) nD (fun x hx Θ hΘ => ?_) (fun i hi _ Ψ hΨ => ?_) _ ?_⟩
  · have hx := mem x hx
    repeat walk_at "sy"
    refine ⟨by rw [List.length_map]; omega, lc_gen ab nD (fun _ => true) (fun z => .bl ((!decide ((z : Int) = (x : Int))) && f x z)) (fun _ _ _ h => h) (fun z hz _ Ψ hΨ => ?_) _ ?_⟩
    · have hz := mem z hz
      repeat walk_at "sy"
      cases h1 : (!decide ((z : Int) = (x : Int))) with
      | false => rw [h1] at hΨ; exact hΨ
      | true =>
        rw [h1] at hΨ
        repeat walk_at "sy"
        exact hΨ
    · rw [filter_true, List.nil_append]
      repeat walk_at "sy"
      refine p_anyM ?_
      repeat walk_at "sy"
      exact hΘ
  · repeat walk_at "sy"
    exact hΨ
  · repeat walk_at "sy"
    exact e_keep (k _)
end Cw

set_option Elab.async false
set_option linter.all false
set_option maxRecDepth 100000
set_option maxHeartbeats 0
namespace Cw
open PySem hiding Env
open L2 hiding St
open DL
/-- one step -/
local macro_rules | `(tactic| walk_at "sx") => `(tactic| first | (with_reducible refine i_varH ?_; refine ⟨_, rfl, ?_⟩) | (with_reducible first | refine i_seq ?_ | refine i_asg ?_ | refine i_name ?_ | refine i_bin ?_ | refine i_c ?_ | refine i_fld ?_ | refine i_cons ?_ | refine i_nil ?_ | refine i_if ?_ | refine i_tst ?_ | refine i_ret ?_ | refine i_call ?_ | refine i_meth ?_ | refine i_andT ?_ | refine i_orT ?_ | refine i_notT ?_ | refine i_chain ?_ | refine i_is ?_ | refine i_tup ?_ | refine i_lst ?_ | refine i_cb ?_ | refine i_for ?_ | refine i_next ?_ | refine i_drop ?_ | refine i_andV ?_ | refine i_orV ?_ | refine i_notV ?_ | refine i_ifE ?_ | refine i_lstO ?_ | refine i_setF ?_ | refine i_sub ?_ | refine i_app ?_ | refine i_gtup ?_ | refine i_gcons ?_ | refine i_gnil ?_ | refine i_ilst ?_ | refine i_itup ?_ | refine i_irg ?_ | refine i_irgO ?_ | refine i_irev ?_ | refine i_ienT ?_ | refine i_ienL ?_ | refine i_lRg ?_ | refine i_lc ?_ | refine i_lcO ?_ | refine i_yes ?_ | refine i_retN ?_ | refine i_prop ?_ | refine i_makeO ?_ | refine i_make ?_ | refine i_star ?_) | (with_reducible first | refine q_tst ?_ | refine q_ifT ?_ | refine q_ifF ?_ | refine q_nT ?_ | refine q_nF ?_ | refine q_obj ?_ | refine p_add ?_ | refine p_sub ?_ | refine p_lt ?_ | refine p_le ?_ | refine p_gt ?_ | refine p_leB ?_ | refine p_eqI ?_ | refine p_eqS ?_ | refine p_neI ?_ | refine p_isNy ?_ | refine p_notNy ?_ | refine p_isB ?_ | refine p_notB ?_ | refine p_lenT ?_ | refine p_lenL ?_ | refine p_int ?_ | refine p_tupL ?_ | refine p_lstL ?_ | refine p_lstT ?_) | refine ⟨_, _, .inl rfl, rfl, ?_⟩ | refine p_mul (.inr (by decide)) ?_ | refine p_div ⟨by decide, by decide⟩ ?_ | refine p_mod (by decide) ?_ | (with_reducible refine p_abs ?_) | (with_reducible refine p_max ?_) | (with_reducible refine p_min ?_) | refine q_len rfl ?_ | refine ⟨_, .inl rfl, ?_⟩ | refine ⟨_, rfl, ?_⟩ | refine p_ixL rfl ?_ | refine p_ixT rfl ?_ | refine p_ixO 0 rfl rfl ?_ | refine p_ixO 1 rfl rfl ?_ | refine p_ixO 2 rfl rfl ?_ | refine ⟨_, .inr ⟨_, rfl, rfl⟩, ?_⟩ | refine p_ixO 3 rfl rfl ?_ | refine p_ixO 4 rfl rfl ?_ | refine p_ixO 5 rfl rfl ?_ | refine ⟨_, _, .inr ⟨0, _, rfl, rfl⟩, rfl, ?_⟩ | refine ⟨⟨_, .inr ⟨0, _, rfl, rfl⟩⟩, ?_⟩ | refine ⟨⟨0, _, _, rfl, rfl⟩, ?_⟩ | refine p_lenO 0 rfl ?_ | refine p_tupO 0 rfl ?_ | refine ⟨_, _, .inr ⟨1, _, rfl, rfl⟩, rfl, ?_⟩ | refine ⟨⟨_, .inr ⟨1, _, rfl, rfl⟩⟩, ?_⟩ | refine ⟨⟨1, _, _, rfl, rfl⟩, ?_⟩ | refine p_lenO 1 rfl ?_ | refine p_tupO 1 rfl ?_ | refine ⟨_, _, .inr ⟨2, _, rfl, rfl⟩, rfl, ?_⟩ | refine ⟨⟨_, .inr ⟨2, _, rfl, rfl⟩⟩, ?_⟩ | refine ⟨⟨2, _, _, rfl, rfl⟩, ?_⟩ | refine p_lenO 2 rfl ?_ | refine p_tupO 2 rfl ?_ | refine ⟨_, _, .inr ⟨3, _, rfl, rfl⟩, rfl, ?_⟩ | refine ⟨⟨_, .inr ⟨3, _, rfl, rfl⟩⟩, ?_⟩ | refine ⟨⟨3, _, _, rfl, rfl⟩, ?_⟩ | refine p_lenO 3 rfl ?_ | refine p_tupO 3 rfl ?_ | refine ⟨_, _, .inr ⟨4, _, rfl, rfl⟩, rfl, ?_⟩ | refine ⟨⟨_, .inr ⟨4, _, rfl, rfl⟩⟩, ?_⟩ | refine ⟨⟨4, _, _, rfl, rfl⟩, ?_⟩ | refine p_lenO 4 rfl ?_ | refine p_tupO 4 rfl ?_ | refine ⟨_, _, .inr ⟨5, _, rfl, rfl⟩, rfl, ?_⟩ | refine ⟨⟨_, .inr ⟨5, _, rfl, rfl⟩⟩, ?_⟩ | refine ⟨⟨5, _, _, rfl, rfl⟩, ?_⟩ | refine p_lenO 5 rfl ?_ | refine p_tupO 5 rfl ?_)
local macro_rules | `(tactic| walk_at "sy") => `(tactic| first | walk_at "sx" | refine p_ixT (at_rowsT (by assumption)) ?_ | refine p_ixT (at_range (by assumption)) ?_ | refine p_ixL (at_rowsL (by assumption)) ?_ | refine p_ixL (at_range (by assumption)) ?_ | refine ⟨_, rfl, rfl, ?_⟩ | refine ⟨rfl, ?_⟩ | refine ⟨0, _, _, _, rfl, rfl, .inl ⟨rfl, rfl⟩, ?_⟩ | refine ⟨0, _, _, _, rfl, rfl, .inr ⟨lt_ok rfl, rfl⟩, ?_⟩ | refine ⟨1, _, _, _, rfl, rfl, .inl ⟨rfl, rfl⟩, ?_⟩ | refine ⟨1, _, _, _, rfl, rfl, .inr ⟨lt_ok rfl, rfl⟩, ?_⟩ | refine ⟨2, _, _, _, rfl, rfl, .inl ⟨rfl, rfl⟩, ?_⟩ | refine ⟨2, _, _, _, rfl, rfl, .inr ⟨lt_ok rfl, rfl⟩, ?_⟩ | refine ⟨3, _, _, _, rfl, rfl, .inl ⟨rfl, rfl⟩, ?_⟩ | refine ⟨3, _, _, _, rfl, rfl, .inr ⟨lt_ok rfl, rfl⟩, ?_⟩)
local macro_rules | `(tactic| walk_at "sw") => `(tactic| first | walk_at "sy" | refine i_forc ?_ | refine i_forn ?_ | refine i_lcc ?_ | refine i_lcn ?_ | refine ⟨0, _, _, _, rfl, rfl, rfl, lt_ok rfl, ?_⟩ | refine ⟨1, _, _, _, rfl, rfl, rfl, lt_ok rfl, ?_⟩ | refine ⟨2, _, _, _, rfl, rfl, rfl, lt_ok rfl, ?_⟩ | refine ⟨3, _, _, _, rfl, rfl, rfl, lt_ok rfl, ?_⟩)

/-! ### rows that change -/
theorem set_mr {α : Type} {n x : Nat} {f : Nat → α} {v : α} (_ : x < n) : ((List.range n).map f).set x v = (List.range n).map fun i => if i = x then v else f i := by
  apply List.ext_getElem?
  intro i
  by_cases hi : i < n
  · by_cases e : x = i
    · subst e
      rw [List.getElem?_set_self (by rw [len_mr]; exact hi), List.getElem?_map, List.getElem?_range hi]
      simp
    · rw [List.getElem?_set_ne e, List.getElem?_map, List.getElem?_map, List.getElem?_range hi]
      show some (f i) = some (if i = x then v else f i)
      rw [if_neg fun z => e z.symm]
  · rw [List.getElem?_eq_none (by rw [List.length_set, len_mr]; omega), List.getElem?_eq_none (by rw [len_mr]; omega)]
def ent (q : Nat → Addr) (M : Nat → Nat → D) (n w : Nat) : Sto := (List.range n).map fun i => (q i, OB.lst ((List.range w).map (M i)))
def upd2 (M : Nat → Nat → D) (x y : Nat) (d : D) : Nat → Nat → D := fun i j => if i = x then (if j = y then d else M i j) else M i j
section
variable {q : Nat → Addr} {M : Nat → Nat → D} {n w x y : Nat} {d : D} {t : Sto} {p : Addr} {b : OB}
theorem ent_len : (ent q M n w).length = n := by unfold ent; rw [len_mr]
theorem ent_at (h : x < n) : (ent q M n w ++ t)[x]? = some (q x, .lst ((List.range w).map (M x))) := by
  rw [List.getElem?_append_left (by rw [ent_len]; exact h)]
  unfold ent
  rw [List.getElem?_map, List.getElem?_range h]; rfl
theorem ent_at0 (h : x < n) : (ent q M n w)[x]? = some (q x, .lst ((List.range w).map (M x))) := by
  unfold ent
  rw [List.getElem?_map, List.getElem?_range h]; rfl
theorem ent_last : (ent q M n w ++ [(p, b)])[n]? = some (p, b) := by
  rw [List.getElem?_append_right (by rw [ent_len]; exact Nat.le_refl _), ent_len, Nat.sub_self]; rfl
theorem ent_set (h : x < n) (hy : y < w) : (ent q M n w ++ t).set x (q x, .lst (((List.range w).map (M x)).set y d)) = ent q (upd2 M x y d) n w ++ t := by
  rw [List.set_append_left _ _ (by rw [ent_len]; exact h)]
  congr 1
  unfold ent
  rw [set_mr h]
  refine List.map_congr_left fun i _ => ?_
  by_cases e : i = x
  · subst e
    rw [if_pos rfl, set_mr hy]
    refine congrArg (fun l => (q i, OB.lst l)) (List.map_congr_left fun j _ => ?_)
    show _ = upd2 M i y d i j
    unfold upd2
    rw [if_pos rfl]
  · rw [if_neg e]
    refine congrArg (fun l => (q i, OB.lst l)) (List.map_congr_left fun j _ => ?_)
    show _ = upd2 M x y d i j
    unfold upd2
    rw [if_neg e]
theorem ent_erase : (ent q M n w ++ [(p, b)]).eraseIdx n = ent q M n w := by
  rw [List.eraseIdx_append_of_length_le (by rw [ent_len]; exact Nat.le_refl _), ent_len, Nat.sub_self]
  show ent q M n w ++ [] = _
  rw [List.append_nil]
end
theorem range_drop {n k : Nat} (h : k < n) : (List.range n).drop k = k :: (List.range n).drop (k + 1) := by
  rw [List.drop_eq_getElem_cons (by rw [List.length_range]; exact h), List.getElem_range]
theorem range_drop_nil {n k : Nat} (h : n ≤ k) : (List.range n).drop k = [] := List.drop_eq_nil_of_le (by rw [List.length_range]; exact h)
def S_bound_rows : Spd := Pur fun ds r => ∃ (n : Nat) (f : Nat → Nat → Bool) (g : Nat → Nat → Nat) (s : Str), n ≤ 16 ∧ Anti n f ∧ (∀ i, i < n → f i i = true) ∧ (∀ x y, x < n → y < n → Lub n f x y (g x y)) ∧ ds = [blT n f, .str s] ∧ r = .tup (rowsT n fun i j => nD (g i j))
theorem lub_idem {n : Nat} {f : Nat → Nat → Bool} {g : Nat → Nat → Nat} (an : Anti n f) (re : ∀ i, i < n → f i i = true) (lu : ∀ x y, x < n → y < n → Lub n f x y (g x y)) {i : Nat} (h : i < n) : g i i = i :=
  (an i (g i i) h (lu i i h h).lt (lu i i h h).u1 ((lu i i h h).l i h (re i h) (re i h))).symm
theorem lub_comm {n : Nat} {f : Nat → Nat → Bool} {g : Nat → Nat → Nat} (an : Anti n f) (lu : ∀ x y, x < n → y < n → Lub n f x y (g x y)) {i j : Nat} (hi : i < n) (hj : j < n) : g i j = g j i :=
  an _ _ (lu i j hi hj).lt (lu j i hj hi).lt ((lu i j hi hj).l _ (lu j i hj hi).lt (lu j i hj hi).u2 (lu j i hj hi).u1) ((lu j i hj hi).l _ (lu i j hi hj).lt (lu i j hi hj).u2 (lu i j hi hj).u1)
theorem pl_bound_rows (ds : List D) (st : Sto) (Φ : D → Sto → Prop) (h : S_bound_rows ds st Φ) : ds.length = 2 ∧ W_bound_rows S_least_above (endD Φ) (startD N_bound_rows ds) st := by
  obtain ⟨rfl, r, ⟨n, f, g, s, hn, an, re, lu, rfl, rfl⟩, k⟩ := h
  refine ⟨rfl, ?_⟩
  show W_bound_rows _ _ [some _, some _, none, none, none, none, none, none] _
  unfold W_bound_rows
  repeat walk_at "sy"
  rw [len_rowsT]
  refine ⟨by omega, by omega, ?_⟩
  rw [intsD_nat]
  repeat walk_at "sy"
  refine ⟨by rw [len_mr]; omega, lc_ind (fun r acc st => ∃ (q : Nat → Addr) (k : Nat), r = ((List.range n).drop k).map nD ∧ k ≤ n ∧ acc = (List.range k).map (fun i => D.own (q i)) ∧ st = ent q (fun i _ => nD i) k n) ?_ ?_ _ _ _ ⟨fun _ => 0, 0, rfl, Nat.zero_le _, rfl, rfl⟩⟩
  · rintro K d r acc st ⟨q, k, hr, hk, rfl, rfl⟩ hK
    by_cases hlt : k < n
    · rw [range_drop hlt] at hr
      obtain ⟨rfl, rfl⟩ := List.cons.inj hr
      repeat walk_at "sy"
      refine ⟨by rw [len_mr]; omega, lc_gen (List.range n) nD (fun _ => true) (fun _ => nD k) (fun _ _ _ h => h) (fun j hj _ Ψ hΨ => ?_) _ ?_⟩
      · repeat walk_at "sy"
        exact hΨ
      · intro p
        rw [filter_true, List.nil_append]
        refine hK _ _ ⟨fun i => if i = k then p else q i, k + 1, rfl, hlt, ?_, ?_⟩
        · rw [List.range_succ, List.map_append]
          congr 1
          · refine List.map_congr_left fun i hi => ?_
            have := List.mem_range.mp hi
            show D.own (q i) = D.own (if i = k then p else q i)
            rw [if_neg (by omega)]
          · simp
        · unfold ent
          rw [List.range_succ, List.map_append]
          congr 1
          · refine List.map_congr_left fun i hi => ?_
            have := List.mem_range.mp hi
            show (q i, _) = ((if i = k then p else q i), _)
            rw [if_neg (by omega)]
          · simp
    · rw [range_drop_nil (by omega)] at hr
      cases hr
  rintro acc st ⟨q, k0, hr, hk, rfl, rfl⟩
  have hk0 : k0 = n := by
    by_cases hlt : k0 < n
    · rw [range_drop hlt] at hr; cases hr
    · omega
  subst hk0
  intro p
  repeat walk_at "sy"
  refine for_ind (fun r e st => ∃ (k : Nat) (M : Nat → Nat → D) (x y z : Option D), r = ((List.range k0).drop k).map nD ∧ k ≤ k0 ∧ (∀ i j, i < k0 → j < k0 → (i = j ∨ i < k ∨ j < k) → M i j = nD (g i j)) ∧
    e = [some (blT k0 f), some (.str s), some (.lst ((List.range k0).map nD)), x, y, some (.own p), z, none] ∧ st = ent q M k0 k0 ++ [(p, .lst ((List.range k0).map fun i => .own (q i)))]) ?_ ?_ _ _ _ ⟨0, fun i _ => nD i, _, _, _, rfl, Nat.zero_le _, ?_, rfl, rfl⟩
  · rintro K d r e st ⟨c, M, x, y, z, hr, hc, hM, rfl, rfl⟩ hK
    by_cases hlt : c < k0
    · rw [range_drop hlt] at hr
      obtain ⟨rfl, rfl⟩ := List.cons.inj hr
      repeat walk_at "sy"
      show _ ∨ _
      refine .inl ⟨_, .inl rfl, ?_⟩
      repeat walk_at "sy"
      rw [cutN]
      refine for_ind (fun r e st => ∃ (m : Nat) (M : Nat → Nat → D) (y z : Option D), r = ((List.range k0).drop m).map nD ∧ c < m ∧ m ≤ k0 ∧ (∀ i j, i < k0 → j < k0 → (i = j ∨ i < c ∨ j < c ∨ (i = c ∧ j < m) ∨ (j = c ∧ i < m)) → M i j = nD (g i j)) ∧
        e = [some (blT k0 f), some (.str s), some (.lst ((List.range k0).map nD)), some (nD c), y, some (.own p), z, none] ∧ st = ent q M k0 k0 ++ [(p, .lst ((List.range k0).map fun i => .own (q i)))]) ?_ ?_ _ _ _ ⟨c + 1, M, _, _, rfl, by omega, by omega, ?_, rfl, rfl⟩
      · rintro K' d r e st ⟨m, M, y, z, hr, hcm, hm, hM, rfl, rfl⟩ hK'
        by_cases hlt2 : m < k0
        · rw [range_drop hlt2] at hr
          obtain ⟨rfl, rfl⟩ := List.cons.inj hr
          repeat walk_at "sy"
          refine c_pur ⟨k0, f, c, m, g c m, hn, an, hlt, hlt2, lu c m hlt hlt2, rfl, rfl⟩ ?_
          repeat walk_at "sy"
          refine p_isNn (by intro h; cases h) ?_
          repeat walk_at "sy"
          refine p_ixO k0 ent_last (at_range hlt) ?_
          repeat walk_at "sy"
          refine ⟨c, q c, _, m, rfl, rfl, ent_at hlt, by rw [len_mr]; exact hlt2, ?_⟩
          rw [ent_set hlt hlt2]
          repeat walk_at "sy"
          refine p_ixO k0 ent_last (at_range hlt2) ?_
          repeat walk_at "sy"
          refine ⟨m, q m, _, c, rfl, rfl, ent_at hlt2, by rw [len_mr]; exact hlt, ?_⟩
          rw [ent_set hlt2 hlt]
          refine hK' _ _ ⟨m + 1, _, _, _, rfl, by omega, by omega, ?_, rfl, rfl⟩
          intro i j hi hj hij
          unfold upd2
          by_cases e1 : i = m
          · subst e1
            rw [if_pos rfl]
            by_cases e2 : j = c
            · subst e2
              rw [if_pos rfl, lub_comm an lu hlt hlt2]
            · rw [if_neg e2, if_neg (by omega)]
              exact hM i j hi hj (by omega)
          · rw [if_neg e1]
            by_cases e3 : i = c
            · subst e3
              rw [if_pos rfl]
              by_cases e4 : j = m
              · subst e4
                rw [if_pos rfl]
              · rw [if_neg e4]
                exact hM i j hi hj (by omega)
            · rw [if_neg e3]
              exact hM i j hi hj (by omega)
        · rw [range_drop_nil (by omega)] at hr
          cases hr
      · rintro e st ⟨m, M, y, z, hr, hcm, hm, hM, rfl, rfl⟩
        have hmk : m = k0 := by
          by_cases hlt2 : m < k0
          · rw [range_drop hlt2] at hr; cases hr
          · omega
        subst hmk
        exact hK _ _ ⟨c + 1, M, _, _, _, rfl, by omega, fun i j hi hj hij => hM i j hi hj (by omega), rfl, rfl⟩
      · intro i j hi hj hij
        exact hM i j hi hj (by omega)
    · rw [range_drop_nil (by omega)] at hr
      cases hr
  · rintro e st ⟨c, M, x, y, z, hr, hc, hM, rfl, rfl⟩
    have hck : c = k0 := by
      by_cases hlt : c < k0
      · rw [range_drop hlt] at hr; cases hr
      · omega
    subst hck
    refine ⟨c, p, _, rfl, ent_last, ?_⟩
    rw [ent_erase]
    repeat walk_at "sy"
    refine ⟨by rw [len_mr]; omega, lc_gen (List.range c) (fun i => D.own (q i)) (fun _ => true) (fun i => .tup ((List.range c).map (M i))) (fun _ _ _ h => h) (fun i hi _ Ψ hΨ => ?_) _ ?_⟩
    · have hi := List.mem_range.mp hi
      repeat walk_at "sy"
      refine p_tupO i (ent_at0 hi) ?_
      exact hΨ
    · rw [filter_true, List.nil_append]
      repeat walk_at "sy"
      have e : (List.range c).map (fun i => D.tup ((List.range c).map (M i))) = rowsT c fun i j => nD (g i j) := by
        unfold rowsT
        refine List.map_congr_left fun i hi => ?_
        refine congrArg D.tup (List.map_congr_left fun j hj => ?_)
        exact hM i j (List.mem_range.mp hi) (List.mem_range.mp hj) (.inr (.inl (List.mem_range.mp hi)))
      rw [e]
      exact e_keep k
  · intro i j hi hj hij
    rcases hij with rfl | h | h
    · rw [lub_idem an re lu hi]
    · omega
    · omega
end Cw

set_option Elab.async false
set_option linter.all false
set_option maxRecDepth 100000
set_option maxHeartbeats 0
namespace Cw
open PySem hiding Env
open L2 hiding St
open DL
/-- one step -/
local macro_rules | `(tactic| walk_at "sx") => `(tactic| first | (with_reducible refine i_varH ?_; refine ⟨_, rfl, ?_⟩) | (with_reducible first | refine i_seq ?_ | refine i_asg ?_ | refine i_name ?_ | refine i_bin ?_ | refine i_c ?_ | refine i_fld ?_ | refine i_cons ?_ | refine i_nil ?_ | refine i_if ?_ | refine i_tst ?_ | refine i_ret ?_ | refine i_call ?_ | refine i_meth ?_ | refine i_andT ?_ | refine i_orT ?_ | refine i_notT ?_ | refine i_chain ?_ | refine i_is ?_ | refine i_tup ?_ | refine i_lst ?_ | refine i_cb ?_ | refine i_for ?_ | refine i_next ?_ | refine i_drop ?_ | refine i_andV ?_ | refine i_orV ?_ | refine i_notV ?_ | refine i_ifE ?_ | refine i_lstO ?_ | refine i_setF ?_ | refine i_sub ?_ | refine i_app ?_ | refine i_gtup ?_ | refine i_gcons ?_ | refine i_gnil ?_ | refine i_ilst ?_ | refine i_itup ?_ | refine i_irg ?_ | refine i_irgO ?_ | refine i_irev ?_ | refine i_ienT ?_ | refine i_ienL ?_ | refine i_lRg ?_ | refine i_lc ?_ | refine i_lcO ?_ | refine i_yes ?_ | refine i_retN ?_ | refine i_prop ?_ | refine i_makeO ?_ | refine i_make ?_ | refine i_star ?_) | (with_reducible first | refine q_tst ?_ | refine q_ifT ?_ | refine q_ifF ?_ | refine q_nT ?_ | refine q_nF ?_ | refine q_obj ?_ | refine p_add ?_ | refine p_sub ?_ | refine p_lt ?_ | refine p_le ?_ | refine p_gt ?_ | refine p_leB ?_ | refine p_eqI ?_ | refine p_eqS ?_ | refine p_neI ?_ | refine p_isNy ?_ | refine p_notNy ?_ | refine p_isB ?_ | refine p_notB ?_ | refine p_lenT ?_ | refine p_lenL ?_ | refine p_int ?_ | refine p_tupL ?_ | refine p_lstL ?_ | refine p_lstT ?_) | refine ⟨_, _, .inl rfl, rfl, ?_⟩ | refine p_mul (.inr (by decide)) ?_ | refine p_div ⟨by decide, by decide⟩ ?_ | refine p_mod (by decide) ?_ | (with_reducible refine p_abs ?_) | (with_reducible refine p_max ?_) | (with_reducible refine p_min ?_) | refine q_len rfl ?_ | refine ⟨_, .inl rfl, ?_⟩ | refine ⟨_, rfl, ?_⟩ | refine p_ixL rfl ?_ | refine p_ixT rfl ?_ | refine p_ixO 0 rfl rfl ?_ | refine p_ixO 1 rfl rfl ?_ | refine p_ixO 2 rfl rfl ?_ | refine ⟨_, .inr ⟨_, rfl, rfl⟩, ?_⟩ | refine p_ixO 3 rfl rfl ?_ | refine p_ixO 4 rfl rfl ?_ | refine p_ixO 5 rfl rfl ?_ | refine ⟨_, _, .inr ⟨0, _, rfl, rfl⟩, rfl, ?_⟩ | refine ⟨⟨_, .inr ⟨0, _, rfl, rfl⟩⟩, ?_⟩ | refine ⟨⟨0, _, _, rfl, rfl⟩, ?_⟩ | refine p_lenO 0 rfl ?_ | refine p_tupO 0 rfl ?_ | refine ⟨_, _, .inr ⟨1, _, rfl, rfl⟩, rfl, ?_⟩ | refine ⟨⟨_, .inr ⟨1, _, rfl, rfl⟩⟩, ?_⟩ | refine ⟨⟨1, _, _, rfl, rfl⟩, ?_⟩ | refine p_lenO 1 rfl ?_ | refine p_tupO 1 rfl ?_ | refine ⟨_, _, .inr ⟨2, _, rfl, rfl⟩, rfl, ?_⟩ | refine ⟨⟨_, .inr ⟨2, _, rfl, rfl⟩⟩, ?_⟩ | refine ⟨⟨2, _, _, rfl, rfl⟩, ?_⟩ | refine p_lenO 2 rfl ?_ | refine p_tupO 2 rfl ?_ | refine ⟨_, _, .inr ⟨3, _, rfl, rfl⟩, rfl, ?_⟩ | refine ⟨⟨_, .inr ⟨3, _, rfl, rfl⟩⟩, ?_⟩ | refine ⟨⟨3, _, _, rfl, rfl⟩, ?_⟩ | refine p_lenO 3 rfl ?_ | refine p_tupO 3 rfl ?_ | refine ⟨_, _, .inr ⟨4, _, rfl, rfl⟩, rfl, ?_⟩ | refine ⟨⟨_, .inr ⟨4, _, rfl, rfl⟩⟩, ?_⟩ | refine ⟨⟨4, _, _, rfl, rfl⟩, ?_⟩ | refine p_lenO 4 rfl ?_ | refine p_tupO 4 rfl ?_ | refine ⟨_, _, .inr ⟨5, _, rfl, rfl⟩, rfl, ?_⟩ | refine ⟨⟨_, .inr ⟨5, _, rfl, rfl⟩⟩, ?_⟩ | refine ⟨⟨5, _, _, rfl, rfl⟩, ?_⟩ | refine p_lenO 5 rfl ?_ | refine p_tupO 5 rfl ?_)
local macro_rules | `(tactic| walk_at "sy") => `(tactic| first | walk_at "sx" | refine p_ixT (at_rowsT (by assumption)) ?_ | refine p_ixT (at_range (by assumption)) ?_ | refine p_ixL (at_rowsL (by assumption)) ?_ | refine p_ixL (at_range (by assumption)) ?_ | refine ⟨_, rfl, rfl, ?_⟩ | refine ⟨rfl, ?_⟩ | refine ⟨0, _, _, _, rfl, rfl, .inl ⟨rfl, rfl⟩, ?_⟩ | refine ⟨0, _, _, _, rfl, rfl, .inr ⟨lt_ok rfl, rfl⟩, ?_⟩ | refine ⟨1, _, _, _, rfl, rfl, .inl ⟨rfl, rfl⟩, ?_⟩ | refine ⟨1, _, _, _, rfl, rfl, .inr ⟨lt_ok rfl, rfl⟩, ?_⟩ | refine ⟨2, _, _, _, rfl, rfl, .inl ⟨rfl, rfl⟩, ?_⟩ | refine ⟨2, _, _, _, rfl, rfl, .inr ⟨lt_ok rfl, rfl⟩, ?_⟩ | refine ⟨3, _, _, _, rfl, rfl, .inl ⟨rfl, rfl⟩, ?_⟩ | refine ⟨3, _, _, _, rfl, rfl, .inr ⟨lt_ok rfl, rfl⟩, ?_⟩)
local macro_rules | `(tactic| walk_at "sw") => `(tactic| first | walk_at "sy" | refine i_forc ?_ | refine i_forn ?_ | refine i_lcc ?_ | refine i_lcn ?_ | refine ⟨0, _, _, _, rfl, rfl, rfl, lt_ok rfl, ?_⟩ | refine ⟨1, _, _, _, rfl, rfl, rfl, lt_ok rfl, ?_⟩ | refine ⟨2, _, _, _, rfl, rfl, rfl, lt_ok rfl, ?_⟩ | refine ⟨3, _, _, _, rfl, rfl, rfl, lt_ok rfl, ?_⟩)

abbrev laF (L : Lat) (pr : List D) : List D := [.tup (rowsT L.n fun i j => .bl (L.le i j)), nD L.n, .tup (rowsT L.n fun i j => nD (L.jn i j)), .tup (rowsT L.n fun i j => nD (L.mt i j)), nD L.bt, nD L.tp, .tup pr]
def S_lat_init : Spd := fun ds st Φ => ∃ (L : Lat) (p : Addr), L.Ord ∧ ds = [.own p, blL L.n L.le] ∧ st = [(p, .ins .lat [])] ∧ ∀ pr, Φ .non [(p, .ins .lat (laF L pr))]
theorem head_filter {l : List Nat} {g : Nat → Bool} {b : Nat} (hb : b ∈ l) (gb : g b = true) (un : ∀ x ∈ l, g x = true → x = b) : (l.filter g)[0]? = some b := by
  cases h : l.filter g with
  | nil =>
    have : b ∈ l.filter g := List.mem_filter.mpr ⟨hb, gb⟩
    rw [h] at this
    cases this
  | cons x xs =>
    have : x ∈ l.filter g := by rw [h]; exact List.mem_cons_self
    obtain ⟨h1, h2⟩ := List.mem_filter.mp this
    rw [un x h1 h2]; rfl
theorem at0 {l : List Nat} {b : Nat} (h : l[0]? = some b) : atI (l.map nD) (0 : Int) = some (nD b) := atI_nat (i := 0) (by rw [List.getElem?_map, h]; rfl)
theorem c_covers {st : Sto} {Φ : D → Sto → Prop} {n w : Nat} {f : Nat → Nat → Bool} (hn : n ≤ 16) (hw : w < n) (k : ∀ l, Φ (.tup l) st) : callD S_covers [blT n f, nD w] st Φ := by
  refine ⟨[], [], rfl, List.nodup_nil, n, f, w, hn, hw, rfl, rfl, fun l => ⟨rfl, ?_⟩⟩
  show Φ (.tup l) (st ++ [])
  rw [List.append_nil]; exact k l
theorem Lat.Ord.lubJ {L : Lat} (o : L.Ord) (x y : Nat) (hx : x < L.n) (hy : y < L.n) : Lub L.n L.le x y (L.jn x y) := ⟨o.jlt x y hx hy, o.ju1 x y hx hy, o.ju2 x y hx hy, fun z hz h1 h2 => o.jl x y z hx hy hz h1 h2⟩
theorem Lat.Ord.lubM {L : Lat} (o : L.Ord) (x y : Nat) (hx : x < L.n) (hy : y < L.n) : Lub L.n (fun i j => L.le j i) x y (L.mt x y) := ⟨o.mlt x y hx hy, o.ml1 x y hx hy, o.ml2 x y hx hy, fun z hz h1 h2 => o.mg x y z hx hy hz h1 h2⟩
theorem pl_lat_init (ds : List D) (st : Sto) (Φ : D → Sto → Prop) (h : S_lat_init ds st Φ) : ds.length = 2 ∧ W_Lattice_init S_checked_rows S_check_order S_bound_rows S_turned S_covers (endD Φ) (startD N_Lattice_init ds) st := by
  obtain ⟨L, p, o, rfl, rfl, k⟩ := h
  have hn := o.few
  refine ⟨rfl, ?_⟩
  show W_Lattice_init _ _ _ _ _ _ [some _, some _, none, none, none] _
  unfold W_Lattice_init
  repeat walk_at "sy"
  refine c_pur ⟨L.n, L.le, o.pos, o.few, rfl, rfl⟩ ?_
  repeat walk_at "sy"
  refine c_pur ⟨L, o, rfl, rfl⟩ ?_
  repeat walk_at "sy"
  rw [len_rowsT]
  repeat walk_at "sy"
  refine c_pur ⟨L.n, L.le, L.jn, _, o.few, o.anti, o.refl, o.lubJ, rfl, rfl⟩ ?_
  repeat walk_at "sy"
  refine c_pur ⟨L.n, L.le, o.few, rfl, rfl⟩ ?_
  repeat walk_at "sy"
  refine c_pur ⟨L.n, fun i j => L.le j i, L.mt, _, o.few, fun i j hi hj h1 h2 => o.anti i j hi hj h2 h1, o.refl, o.lubM, rfl, rfl⟩ ?_
  repeat walk_at "sy"
  refine ⟨by omega, by omega, ?_⟩
  rw [intsD_nat]
  repeat walk_at "sy"
  refine ⟨by rw [len_mr]; omega, lc_gen (List.range L.n) nD (fun x => (List.range L.n).all (L.le x)) nD (fun x hx Θ hΘ => ?_) (fun x hx _ Ψ hΨ => ?_) _ ?_⟩
  · have hx := List.mem_range.mp hx
    repeat walk_at "sy"
    refine p_allTM ?_
    repeat walk_at "sy"
    exact hΘ
  · repeat walk_at "sy"
    exact hΨ
  rw [List.nil_append]
  repeat walk_at "sy"
  refine p_ixL (at0 (head_filter (b := L.bt) (List.mem_range.mpr o.btl) (List.all_eq_true.mpr fun z hz => o.bm z (List.mem_range.mp hz)) fun x hx hx2 => ?_)) ?_
  · have hx := List.mem_range.mp hx
    exact o.anti _ _ hx o.btl (List.all_eq_true.mp hx2 _ (List.mem_range.mpr o.btl)) (o.bm x hx)
  repeat walk_at "sy"
  refine ⟨by rw [len_mr]; omega, lc_gen (List.range L.n) nD (fun x => (List.range L.n).all fun i => L.le i x) nD (fun x hx Θ hΘ => ?_) (fun x hx _ Ψ hΨ => ?_) _ ?_⟩
  · have hx := List.mem_range.mp hx
    repeat walk_at "sy"
    refine ⟨by rw [len_rowsT]; omega, lc_gen (List.range L.n) (fun i => D.tup ((List.range L.n).map fun j => .bl (L.le i j))) (fun _ => true) (fun i => .bl (L.le i x)) (fun _ _ _ h => h) (fun i hi _ Ψ hΨ => ?_) _ ?_⟩
    · repeat walk_at "sy"
      exact hΨ
    · rw [filter_true, List.nil_append]
      repeat walk_at "sy"
      refine p_allM ?_
      repeat walk_at "sy"
      exact hΘ
  · repeat walk_at "sy"
    exact hΨ
  rw [List.nil_append]
  repeat walk_at "sy"
  refine p_ixL (at0 (head_filter (b := L.tp) (List.mem_range.mpr o.tpl) (List.all_eq_true.mpr fun z hz => o.tm z (List.mem_range.mp hz)) fun x hx hx2 => ?_)) ?_
  · have hx := List.mem_range.mp hx
    exact o.anti _ _ hx o.tpl (o.tm x hx) (List.all_eq_true.mp hx2 _ (List.mem_range.mpr o.tpl))
  repeat walk_at "sy"
  refine ⟨by rw [len_mr]; omega, lc_ind (fun r acc st => ∃ k, r = ((List.range L.n).drop k).map nD ∧ st = [(p, .ins .lat [blT L.n L.le, nD L.n, .tup (rowsT L.n fun i j => nD (L.jn i j)), .tup (rowsT L.n fun i j => nD (L.mt i j)), nD L.bt, nD L.tp])]) ?_ ?_ _ _ _ ⟨0, rfl, rfl⟩⟩
  · rintro K d r acc st ⟨c, hr, rfl⟩ hK
    by_cases hlt : c < L.n
    · rw [range_drop hlt] at hr
      obtain ⟨rfl, rfl⟩ := List.cons.inj hr
      repeat walk_at "sy"
      refine c_covers o.few hlt fun l => ?_
      repeat walk_at "sy"
      refine if_any (fun _ => ?_) (fun _ => ?_)
      · repeat walk_at "sy"
        exact hK _ _ ⟨c + 1, rfl, rfl⟩
      · exact hK _ _ ⟨c + 1, rfl, rfl⟩
    · rw [range_drop_nil (by omega)] at hr
      cases hr
  · rintro acc st ⟨c, hr, rfl⟩
    repeat walk_at "sy"
    exact .keep [0] _ (by simp) rfl (k acc)
/-- the program's lattice of the law's -/
def S_made : Spd := fun ds st Φ => ∃ L : Lat, L.Ord ∧ ds = [plD L] ∧ st = [] ∧ ∀ pr, Φ (laD L pr) []
theorem pl_made (ds : List D) (st : Sto) (Φ : D → Sto → Prop) (h : S_made ds st Φ) : ds.length = 1 ∧ W_L_made_lattice S_lat_init (endD Φ) (startD N_L_made_lattice ds) st := by
  obtain ⟨L, o, rfl, rfl, k⟩ := h
  have hn := o.few
  refine ⟨rfl, ?_⟩
  show W_L_made_lattice _ _ [some _, none] _
  unfold W_L_made_lattice
  repeat walk_at "sy"
  refine ⟨by rw [len_rowsL]; omega, lc_gen (List.range L.n) (fun i => D.lst ((List.range L.n).map fun j => .bl (L.le i j))) (fun _ => true) (fun i => .lst ((List.range L.n).map fun j => .bl (L.le i j))) (fun _ _ _ h => h) (fun i hi _ Ψ hΨ => ?_) _ ?_⟩
  · repeat walk_at "sy"
    exact hΨ
  rw [filter_true, List.nil_append]
  repeat walk_at "sy"
  intro p
  refine ⟨[0], _, rfl, by simp, L, p, o, rfl, rfl, fun pr => ⟨rfl, rfl, 0, laF L pr, rfl, ?_⟩⟩
  exact e_keep (k pr)
end Cw

set_option Elab.async false
set_option linter.all false
set_option maxRecDepth 100000
set_option maxHeartbeats 0
namespace Cw
open PySem hiding Env
open L2 hiding St
open DL
/-- one step -/
local macro_rules | `(tactic| walk_at "sx") => `(tactic| first | (with_reducible refine i_varH ?_; refine ⟨_, rfl, ?_⟩) | (with_reducible first | refine i_seq ?_ | refine i_asg ?_ | refine i_name ?_ | refine i_bin ?_ | refine i_c ?_ | refine i_fld ?_ | refine i_cons ?_ | refine i_nil ?_ | refine i_if ?_ | refine i_tst ?_ | refine i_ret ?_ | refine i_call ?_ | refine i_meth ?_ | refine i_andT ?_ | refine i_orT ?_ | refine i_notT ?_ | refine i_chain ?_ | refine i_is ?_ | refine i_tup ?_ | refine i_lst ?_ | refine i_cb ?_ | refine i_for ?_ | refine i_next ?_ | refine i_drop ?_ | refine i_andV ?_ | refine i_orV ?_ | refine i_notV ?_ | refine i_ifE ?_ | refine i_lstO ?_ | refine i_setF ?_ | refine i_sub ?_ | refine i_app ?_ | refine i_gtup ?_ | refine i_gcons ?_ | refine i_gnil ?_ | refine i_ilst ?_ | refine i_itup ?_ | refine i_irg ?_ | refine i_irgO ?_ | refine i_irev ?_ | refine i_ienT ?_ | refine i_ienL ?_ | refine i_lRg ?_ | refine i_lc ?_ | refine i_lcO ?_ | refine i_yes ?_ | refine i_retN ?_ | refine i_prop ?_ | refine i_makeO ?_ | refine i_make ?_ | refine i_star ?_) | (with_reducible first | refine q_tst ?_ | refine q_ifT ?_ | refine q_ifF ?_ | refine q_nT ?_ | refine q_nF ?_ | refine q_obj ?_ | refine p_add ?_ | refine p_sub ?_ | refine p_lt ?_ | refine p_le ?_ | refine p_gt ?_ | refine p_leB ?_ | refine p_eqI ?_ | refine p_eqS ?_ | refine p_neI ?_ | refine p_isNy ?_ | refine p_notNy ?_ | refine p_isB ?_ | refine p_notB ?_ | refine p_lenT ?_ | refine p_lenL ?_ | refine p_int ?_ | refine p_tupL ?_ | refine p_lstL ?_ | refine p_lstT ?_) | refine ⟨_, _, .inl rfl, rfl, ?_⟩ | refine p_mul (.inr (by decide)) ?_ | refine p_div ⟨by decide, by decide⟩ ?_ | refine p_mod (by decide) ?_ | (with_reducible refine p_abs ?_) | (with_reducible refine p_max ?_) | (with_reducible refine p_min ?_) | refine q_len rfl ?_ | refine ⟨_, .inl rfl, ?_⟩ | refine ⟨_, rfl, ?_⟩ | refine p_ixL rfl ?_ | refine p_ixT rfl ?_ | refine p_ixO 0 rfl rfl ?_ | refine p_ixO 1 rfl rfl ?_ | refine p_ixO 2 rfl rfl ?_ | refine ⟨_, .inr ⟨_, rfl, rfl⟩, ?_⟩ | refine p_ixO 3 rfl rfl ?_ | refine p_ixO 4 rfl rfl ?_ | refine p_ixO 5 rfl rfl ?_ | refine ⟨_, _, .inr ⟨0, _, rfl, rfl⟩, rfl, ?_⟩ | refine ⟨⟨_, .inr ⟨0, _, rfl, rfl⟩⟩, ?_⟩ | refine ⟨⟨0, _, _, rfl, rfl⟩, ?_⟩ | refine p_lenO 0 rfl ?_ | refine p_tupO 0 rfl ?_ | refine ⟨_, _, .inr ⟨1, _, rfl, rfl⟩, rfl, ?_⟩ | refine ⟨⟨_, .inr ⟨1, _, rfl, rfl⟩⟩, ?_⟩ | refine ⟨⟨1, _, _, rfl, rfl⟩, ?_⟩ | refine p_lenO 1 rfl ?_ | refine p_tupO 1 rfl ?_ | refine ⟨_, _, .inr ⟨2, _, rfl, rfl⟩, rfl, ?_⟩ | refine ⟨⟨_, .inr ⟨2, _, rfl, rfl⟩⟩, ?_⟩ | refine ⟨⟨2, _, _, rfl, rfl⟩, ?_⟩ | refine p_lenO 2 rfl ?_ | refine p_tupO 2 rfl ?_ | refine ⟨_, _, .inr ⟨3, _, rfl, rfl⟩, rfl, ?_⟩ | refine ⟨⟨_, .inr ⟨3, _, rfl, rfl⟩⟩, ?_⟩ | refine ⟨⟨3, _, _, rfl, rfl⟩, ?_⟩ | refine p_lenO 3 rfl ?_ | refine p_tupO 3 rfl ?_ | refine ⟨_, _, .inr ⟨4, _, rfl, rfl⟩, rfl, ?_⟩ | refine ⟨⟨_, .inr ⟨4, _, rfl, rfl⟩⟩, ?_⟩ | refine ⟨⟨4, _, _, rfl, rfl⟩, ?_⟩ | refine p_lenO 4 rfl ?_ | refine p_tupO 4 rfl ?_ | refine ⟨_, _, .inr ⟨5, _, rfl, rfl⟩, rfl, ?_⟩ | refine ⟨⟨_, .inr ⟨5, _, rfl, rfl⟩⟩, ?_⟩ | refine ⟨⟨5, _, _, rfl, rfl⟩, ?_⟩ | refine p_lenO 5 rfl ?_ | refine p_tupO 5 rfl ?_)
local macro_rules | `(tactic| walk_at "sy") => `(tactic| first | walk_at "sx" | refine p_ixT (at_rowsT (by assumption)) ?_ | refine p_ixT (at_range (by assumption)) ?_ | refine p_ixL (at_rowsL (by assumption)) ?_ | refine p_ixL (at_range (by assumption)) ?_ | refine ⟨_, rfl, rfl, ?_⟩ | refine ⟨rfl, ?_⟩ | refine ⟨0, _, _, _, rfl, rfl, .inl ⟨rfl, rfl⟩, ?_⟩ | refine ⟨0, _, _, _, rfl, rfl, .inr ⟨lt_ok rfl, rfl⟩, ?_⟩ | refine ⟨1, _, _, _, rfl, rfl, .inl ⟨rfl, rfl⟩, ?_⟩ | refine ⟨1, _, _, _, rfl, rfl, .inr ⟨lt_ok rfl, rfl⟩, ?_⟩ | refine ⟨2, _, _, _, rfl, rfl, .inl ⟨rfl, rfl⟩, ?_⟩ | refine ⟨2, _, _, _, rfl, rfl, .inr ⟨lt_ok rfl, rfl⟩, ?_⟩ | refine ⟨3, _, _, _, rfl, rfl, .inl ⟨rfl, rfl⟩, ?_⟩ | refine ⟨3, _, _, _, rfl, rfl, .inr ⟨lt_ok rfl, rfl⟩, ?_⟩)
local macro_rules | `(tactic| walk_at "sw") => `(tactic| first | walk_at "sy" | refine i_forc ?_ | refine i_forn ?_ | refine i_lcc ?_ | refine i_lcn ?_ | refine ⟨0, _, _, _, rfl, rfl, rfl, lt_ok rfl, ?_⟩ | refine ⟨1, _, _, _, rfl, rfl, rfl, lt_ok rfl, ?_⟩ | refine ⟨2, _, _, _, rfl, rfl, rfl, lt_ok rfl, ?_⟩ | refine ⟨3, _, _, _, rfl, rfl, rfl, lt_ok rfl, ?_⟩)

/-! ### trees -/
inductive Tr where
  | lf (w : Nat)
  | nd (b : Bool) (cs : List Tr)
mutual
def trD : Tr → D
  | .lf w => nD w
  | .nd b cs => .tup [sgD b, .tup (trsD cs)]
def trsD : List Tr → List D
  | [] => []
  | c :: cs => trD c :: trsD cs
end
theorem trsD_map : ∀ cs : List Tr, trsD cs = cs.map trD
  | [] => rfl
  | c :: cs => by rw [trsD, trsD_map cs]; rfl
theorem trD_lf (w : Nat) : trD (.lf w) = nD w := by rw [trD]
theorem trD_nd (b : Bool) (cs : List Tr) : trD (.nd b cs) = .tup [sgD b, .tup (cs.map trD)] := by rw [trD, trsD_map]
/-- worths below n, at most d signs deep, one to three children -/
def TrOk (n : Nat) : Nat → Tr → Prop
  | _, .lf w => w < n
  | 0, .nd _ _ => False
  | d + 1, .nd _ cs => 1 ≤ cs.length ∧ cs.length ≤ 3 ∧ ∀ c ∈ cs, TrOk n d c
theorem TrOk.lt {n d w : Nat} (h : TrOk n d (.lf w)) : w < n := by cases d <;> exact h
def cntI : Nat → Tr → Int
  | _, .lf _ => 1
  | 0, .nd _ _ => 0
  | d + 1, .nd _ cs => (cs.map (cntI d)).sum
def val (L : Lat) : Nat → Tr → Nat
  | _, .lf w => w
  | 0, .nd _ _ => 0
  | d + 1, .nd b cs => fold L b (cs.map (val L d))
theorem val_lt {L : Lat} (o : L.Ok) : ∀ (d : Nat) (t : Tr), TrOk L.n d t → val L d t < L.n
  | d, .lf w, h => by cases d <;> exact h
  | 0, .nd _ _, h => h.elim
  | d + 1, .nd b cs, h => fold_lt o fun w hw => by
    obtain ⟨c, hc, rfl⟩ := List.mem_map.mp hw
    exact val_lt o d c (h.2.2 c hc)
theorem p_sumM {α : Type} {l : List α} {f : α → Int} {st : Sto} {Υ : D → Prop} (h : Υ (.int (l.map f).sum)) : ∃ d, PSum [.lst (l.map fun a => .int (f a))] st d ∧ Υ d := by
  refine ⟨_, ⟨_, l.map f, rfl, .inl ?_, rfl⟩, h⟩
  rw [List.map_map]; rfl
def S_leaves (d : Nat) : Spd := Pur fun ds r => ∃ (n : Nat) (t : Tr), TrOk n d t ∧ ds = [trD t] ∧ r = .int (cntI d t)
theorem pl_leaves (d : Nat) (S2 : Spd) (hS : ∀ e, d = e + 1 → S2 = S_leaves e) (ds : List D) (st : Sto) (Φ : D → Sto → Prop) (h : S_leaves d ds st Φ) : ds.length = 1 ∧ W_L_leaves S_whole S2 (endD Φ) (startD N_L_leaves ds) st := by
  obtain ⟨rfl, r, ⟨n, t, ok, rfl, rfl⟩, k⟩ := h
  refine ⟨rfl, ?_⟩
  show W_L_leaves _ _ _ [some _, none] _
  unfold W_L_leaves
  cases t with
  | lf w =>
    rw [trD_lf]
    repeat walk_at "sy"
    refine c_pur ⟨_, rfl, .inl ⟨_, rfl, rfl⟩⟩ ?_
    repeat walk_at "sy"
    have e : cntI d (.lf w) = 1 := by cases d <;> rfl
    rw [e] at k
    exact e_keep k
  | nd b cs =>
    cases d with
    | zero => exact ok.elim
    | succ d =>
      rw [trD_nd, hS d rfl]
      obtain ⟨h1, h2, h3⟩ := ok
      repeat walk_at "sy"
      refine c_pur ⟨_, rfl, .inr ⟨_, rfl, rfl⟩⟩ ?_
      repeat walk_at "sy"
      refine ⟨by rw [List.length_map]; omega, lc_gen cs trD (fun _ => true) (fun c => .int (cntI d c)) (fun _ _ _ h => h) (fun c hc _ Ψ hΨ => ?_) _ ?_⟩
      · repeat walk_at "sy"
        exact c_pur ⟨n, c, h3 c hc, rfl, rfl⟩ hΨ
      · rw [filter_true, List.nil_append]
        repeat walk_at "sy"
        refine p_sumM ?_
        exact e_keep k
def S_plain (d : Nat) : Spd := Pur fun ds r => ∃ (L : Lat) (t : Tr), L.Ok ∧ TrOk L.n d t ∧ ds = [plD L, trD t] ∧ r = nD (val L d t)
theorem pl_plain (d : Nat) (S2 : Spd) (hS : ∀ e, d = e + 1 → S2 = S_plain e) (ds : List D) (st : Sto) (Φ : D → Sto → Prop) (h : S_plain d ds st Φ) : ds.length = 2 ∧ W_L_plain S_whole S2 S_ljoin S_lmeet (endD Φ) (startD N_L_plain ds) st := by
  obtain ⟨rfl, r, ⟨L, t, o, ok, rfl, rfl⟩, k⟩ := h
  refine ⟨rfl, ?_⟩
  show W_L_plain _ _ _ _ _ [some _, some _, none, none] _
  unfold W_L_plain
  cases t with
  | lf w =>
    rw [trD_lf]
    repeat walk_at "sy"
    refine c_pur ⟨_, rfl, .inl ⟨_, rfl, rfl⟩⟩ ?_
    repeat walk_at "sy"
    have e : val L d (.lf w) = w := by cases d <;> rfl
    rw [e] at k
    exact e_keep k
  | nd b cs =>
    cases d with
    | zero => exact ok.elim
    | succ d =>
      rw [trD_nd, hS d rfl]
      obtain ⟨h1, h2, h3⟩ := ok
      have lt : ∀ w ∈ cs.map (val L d), w < L.n := fun w hw => by
        obtain ⟨c, hc, rfl⟩ := List.mem_map.mp hw
        exact val_lt o d c (h3 c hc)
      repeat walk_at "sy"
      refine c_pur ⟨_, rfl, .inr ⟨_, rfl, rfl⟩⟩ ?_
      repeat walk_at "sy"
      refine ⟨by rw [List.length_map]; omega, lc_gen cs trD (fun _ => true) (fun c => nD (val L d c)) (fun _ _ _ h => h) (fun c hc _ Ψ hΨ => ?_) _ ?_⟩
      · repeat walk_at "sy"
        exact c_pur ⟨L, c, o, h3 c hc, rfl, rfl⟩ hΨ
      · rw [filter_true, List.nil_append]
        have e : (cs.map fun c => nD (val L d c)) = (cs.map (val L d)).map nD := by rw [List.map_map]; rfl
        rw [e]
        repeat walk_at "sy"
        rw [sg_eq]
        cases b
        · repeat walk_at "sy"
          exact c_pur ⟨L, _, o, lt, rfl, rfl⟩ (e_keep k)
        · repeat walk_at "sy"
          exact c_pur ⟨L, _, o, lt, rfl, rfl⟩ (e_keep k)
/-- the upper tree: leaves below one sign -/
abbrev upT (b : Bool) (m : Nat) : Tr := .nd b (List.replicate m (.lf 0))
def S_upper0 : Spd := Pur fun ds r => ∃ d : D, ds = [d, .int 0] ∧ r = nD 0
theorem pl_upper0 (S2 : Spd) (ds : List D) (st : Sto) (Φ : D → Sto → Prop) (h : S_upper0 ds st Φ) : ds.length = 2 ∧ W_L_upper S_whole S2 (endD Φ) (startD N_L_upper ds) st := by
  obtain ⟨rfl, r, ⟨d, rfl, rfl⟩, k⟩ := h
  refine ⟨rfl, ?_⟩
  show W_L_upper _ _ _ [some _, some _, none] _
  unfold W_L_upper
  repeat walk_at "sy"
  exact e_keep k
def S_upper1 : Spd := Pur fun ds r => ∃ (b : Bool) (cs : List Tr), cs.length ≤ 3 ∧ ds = [trD (.nd b cs), .int 1] ∧ r = trD (upT b cs.length)
theorem pl_upper1 (ds : List D) (st : Sto) (Φ : D → Sto → Prop) (h : S_upper1 ds st Φ) : ds.length = 2 ∧ W_L_upper S_whole S_upper0 (endD Φ) (startD N_L_upper ds) st := by
  obtain ⟨rfl, r, ⟨b, cs, hl, rfl, rfl⟩, k⟩ := h
  refine ⟨rfl, ?_⟩
  show W_L_upper _ _ _ [some _, some _, none] _
  unfold W_L_upper
  rw [trD_nd]
  rw [trD_nd] at k
  repeat walk_at "sy"
  refine c_pur ⟨_, rfl, .inr ⟨_, rfl, rfl⟩⟩ ?_
  repeat walk_at "sy"
  refine ⟨by rw [List.length_map]; omega, lc_gen cs trD (fun _ => true) (fun c => nD 0) (fun _ _ _ h => h) (fun c hc _ Ψ hΨ => ?_) _ ?_⟩
  · repeat walk_at "sy"
    exact c_pur ⟨_, rfl, rfl⟩ hΨ
  · rw [filter_true, List.nil_append]
    have e : (cs.map fun _ => nD 0) = (List.replicate cs.length (Tr.lf 0)).map trD := by
      rw [List.map_replicate, trD_lf]
      exact List.map_const' ..
    rw [e]
    repeat walk_at "sy"
    exact e_keep k
abbrev rdD (i : Nat) : D := .tup [nD i]
def S_ends0 : Spd := Pur fun ds r => ∃ (i : Int) (l : List D), ds = [.int i, .tup l] ∧ r = .lst [.tup l]
theorem pl_ends0 (S2 : Spd) (ds : List D) (st : Sto) (Φ : D → Sto → Prop) (h : S_ends0 ds st Φ) : ds.length = 2 ∧ W_L_ends S_whole S2 (endD Φ) (startD N_L_ends ds) st := by
  obtain ⟨rfl, r, ⟨i, l, rfl, rfl⟩, k⟩ := h
  refine ⟨rfl, ?_⟩
  show W_L_ends _ _ _ [some _, some _, none, none] _
  unfold W_L_ends
  repeat walk_at "sy"
  refine c_pur ⟨_, rfl, .inl ⟨_, rfl, rfl⟩⟩ ?_
  repeat walk_at "sy"
  exact e_keep k
def S_ends1 : Spd := Pur fun ds r => ∃ (b : Bool) (m : Nat), m ≤ 3 ∧ ds = [trD (upT b m), .tup []] ∧ r = .lst ((List.range m).map rdD)
theorem pl_ends1 (ds : List D) (st : Sto) (Φ : D → Sto → Prop) (h : S_ends1 ds st Φ) : ds.length = 2 ∧ W_L_ends S_whole S_ends0 (endD Φ) (startD N_L_ends ds) st := by
  obtain ⟨rfl, r, ⟨b, m, hm, rfl, rfl⟩, k⟩ := h
  refine ⟨rfl, ?_⟩
  show W_L_ends _ _ _ [some _, some _, none, none] _
  unfold W_L_ends
  have e : trD (upT b m) = .tup [sgD b, .tup ((List.range m).map fun _ => nD 0)] := by
    rw [trD_nd, List.map_replicate, trD_lf]
    congr 4
    rw [List.map_const', List.length_range]
  rw [e]
  repeat walk_at "sy"
  refine c_pur ⟨_, rfl, .inr ⟨_, rfl, rfl⟩⟩ ?_
  repeat walk_at "sy"
  rw [len_mr]
  refine ⟨by omega, by omega, ?_⟩
  rw [intsD_nat]
  refine for_ind (fun r e st => ∃ (c : Nat) (x : Option D), r = ((List.range m).drop c).map nD ∧ c ≤ m ∧ e = [some (.tup [sgD b, .tup ((List.range m).map fun _ => nD 0)]), some (.tup []), some (.lst ((List.range c).map rdD)), x] ∧ st = []) ?_ ?_ _ _ _ ⟨0, _, rfl, Nat.zero_le _, rfl, rfl⟩
  · rintro K d r e st ⟨c, x, hr, hc, rfl, rfl⟩ hK
    by_cases hlt : c < m
    · rw [range_drop hlt] at hr
      obtain ⟨rfl, rfl⟩ := List.cons.inj hr
      repeat walk_at "sy"
      refine p_catT (by show 0 + 1 ≤ 100000; decide) ?_
      repeat walk_at "sy"
      refine c_pur ⟨_, _, rfl, rfl⟩ ?_
      refine p_catL (by rw [len_mr]; show c + 1 ≤ _; omega) ?_
      repeat walk_at "sy"
      refine hK _ _ ⟨c + 1, some (nD c), rfl, hlt, ?_, rfl⟩
      rw [List.range_succ, List.map_append]
      rfl
    · rw [range_drop_nil (by omega)] at hr
      cases hr
  · rintro e st ⟨c, x, hr, hc, rfl, rfl⟩
    have hcm : c = m := by
      by_cases hlt : c < m
      · rw [range_drop hlt] at hr; cases hr
      · omega
    subst hcm
    repeat walk_at "sy"
    exact e_keep k
def S_agreeing : Spd := Pur fun ds r => ∃ (L : Lat) (lo hi w : Nat), L.Ok ∧ lo < L.n ∧ hi < L.n ∧ w < L.n ∧ ds = [plD L, cxD lo hi, nD w] ∧ r = .lst (((List.range L.n).filter fun v => decide (valC L lo hi v = valC L lo hi w)).map nD)
theorem pl_agreeing (ds : List D) (st : Sto) (Φ : D → Sto → Prop) (h : S_agreeing ds st Φ) : ds.length = 3 ∧ W_L_agreeing S_lvalue (endD Φ) (startD N_L_agreeing ds) st := by
  obtain ⟨rfl, r, ⟨L, lo, hi, w, o, hl, hh, hw, rfl, rfl⟩, k⟩ := h
  have hn := o.few
  refine ⟨rfl, ?_⟩
  show W_L_agreeing _ _ [some _, some _, some _, none, none] _
  unfold W_L_agreeing
  repeat walk_at "sy"
  refine c_pur ⟨L, lo, hi, w, o, hl, hh, hw, rfl, rfl⟩ ?_
  repeat walk_at "sy"
  refine ⟨by omega, by omega, ?_⟩
  rw [intsD_nat]
  refine ⟨by rw [len_mr]; omega, lc_gen (List.range L.n) nD (fun v => decide (valC L lo hi v = valC L lo hi w)) nD (fun v hv Θ hΘ => ?_) (fun v hv _ Ψ hΨ => ?_) _ ?_⟩
  · have hv := List.mem_range.mp hv
    repeat walk_at "sy"
    refine c_pur ⟨L, lo, hi, v, o, hl, hh, hv, rfl, rfl⟩ ?_
    repeat walk_at "sy"
    have e : decide (((valC L lo hi v : Nat) : Int) = ((valC L lo hi w : Nat) : Int)) = decide (valC L lo hi v = valC L lo hi w) := by simp only [Int.ofNat_inj]
    rw [e]
    exact hΘ
  · repeat walk_at "sy"
    exact hΨ
  · exact e_keep k
end Cw

set_option Elab.async false
set_option linter.all false
set_option maxRecDepth 100000
set_option maxHeartbeats 0
namespace Cw
open PySem hiding Env
open L2 hiding St
open DL
/-- one step -/
local macro_rules | `(tactic| walk_at "sx") => `(tactic| first | (with_reducible refine i_varH ?_; refine ⟨_, rfl, ?_⟩) | (with_reducible first | refine i_seq ?_ | refine i_asg ?_ | refine i_name ?_ | refine i_bin ?_ | refine i_c ?_ | refine i_fld ?_ | refine i_cons ?_ | refine i_nil ?_ | refine i_if ?_ | refine i_tst ?_ | refine i_ret ?_ | refine i_call ?_ | refine i_meth ?_ | refine i_andT ?_ | refine i_orT ?_ | refine i_notT ?_ | refine i_chain ?_ | refine i_is ?_ | refine i_tup ?_ | refine i_lst ?_ | refine i_cb ?_ | refine i_for ?_ | refine i_next ?_ | refine i_drop ?_ | refine i_andV ?_ | refine i_orV ?_ | refine i_notV ?_ | refine i_ifE ?_ | refine i_lstO ?_ | refine i_setF ?_ | refine i_sub ?_ | refine i_app ?_ | refine i_gtup ?_ | refine i_gcons ?_ | refine i_gnil ?_ | refine i_ilst ?_ | refine i_itup ?_ | refine i_irg ?_ | refine i_irgO ?_ | refine i_irev ?_ | refine i_ienT ?_ | refine i_ienL ?_ | refine i_lRg ?_ | refine i_lc ?_ | refine i_lcO ?_ | refine i_yes ?_ | refine i_retN ?_ | refine i_prop ?_ | refine i_makeO ?_ | refine i_make ?_ | refine i_star ?_) | (with_reducible first | refine q_tst ?_ | refine q_ifT ?_ | refine q_ifF ?_ | refine q_nT ?_ | refine q_nF ?_ | refine q_obj ?_ | refine p_add ?_ | refine p_sub ?_ | refine p_lt ?_ | refine p_le ?_ | refine p_gt ?_ | refine p_leB ?_ | refine p_eqI ?_ | refine p_eqS ?_ | refine p_neI ?_ | refine p_isNy ?_ | refine p_notNy ?_ | refine p_isB ?_ | refine p_notB ?_ | refine p_lenT ?_ | refine p_lenL ?_ | refine p_int ?_ | refine p_tupL ?_ | refine p_lstL ?_ | refine p_lstT ?_) | refine ⟨_, _, .inl rfl, rfl, ?_⟩ | refine p_mul (.inr (by decide)) ?_ | refine p_div ⟨by decide, by decide⟩ ?_ | refine p_mod (by decide) ?_ | (with_reducible refine p_abs ?_) | (with_reducible refine p_max ?_) | (with_reducible refine p_min ?_) | refine q_len rfl ?_ | refine ⟨_, .inl rfl, ?_⟩ | refine ⟨_, rfl, ?_⟩ | refine p_ixL rfl ?_ | refine p_ixT rfl ?_ | refine p_ixO 0 rfl rfl ?_ | refine p_ixO 1 rfl rfl ?_ | refine p_ixO 2 rfl rfl ?_ | refine ⟨_, .inr ⟨_, rfl, rfl⟩, ?_⟩ | refine p_ixO 3 rfl rfl ?_ | refine p_ixO 4 rfl rfl ?_ | refine p_ixO 5 rfl rfl ?_ | refine ⟨_, _, .inr ⟨0, _, rfl, rfl⟩, rfl, ?_⟩ | refine ⟨⟨_, .inr ⟨0, _, rfl, rfl⟩⟩, ?_⟩ | refine ⟨⟨0, _, _, rfl, rfl⟩, ?_⟩ | refine p_lenO 0 rfl ?_ | refine p_tupO 0 rfl ?_ | refine ⟨_, _, .inr ⟨1, _, rfl, rfl⟩, rfl, ?_⟩ | refine ⟨⟨_, .inr ⟨1, _, rfl, rfl⟩⟩, ?_⟩ | refine ⟨⟨1, _, _, rfl, rfl⟩, ?_⟩ | refine p_lenO 1 rfl ?_ | refine p_tupO 1 rfl ?_ | refine ⟨_, _, .inr ⟨2, _, rfl, rfl⟩, rfl, ?_⟩ | refine ⟨⟨_, .inr ⟨2, _, rfl, rfl⟩⟩, ?_⟩ | refine ⟨⟨2, _, _, rfl, rfl⟩, ?_⟩ | refine p_lenO 2 rfl ?_ | refine p_tupO 2 rfl ?_ | refine ⟨_, _, .inr ⟨3, _, rfl, rfl⟩, rfl, ?_⟩ | refine ⟨⟨_, .inr ⟨3, _, rfl, rfl⟩⟩, ?_⟩ | refine ⟨⟨3, _, _, rfl, rfl⟩, ?_⟩ | refine p_lenO 3 rfl ?_ | refine p_tupO 3 rfl ?_ | refine ⟨_, _, .inr ⟨4, _, rfl, rfl⟩, rfl, ?_⟩ | refine ⟨⟨_, .inr ⟨4, _, rfl, rfl⟩⟩, ?_⟩ | refine ⟨⟨4, _, _, rfl, rfl⟩, ?_⟩ | refine p_lenO 4 rfl ?_ | refine p_tupO 4 rfl ?_ | refine ⟨_, _, .inr ⟨5, _, rfl, rfl⟩, rfl, ?_⟩ | refine ⟨⟨_, .inr ⟨5, _, rfl, rfl⟩⟩, ?_⟩ | refine ⟨⟨5, _, _, rfl, rfl⟩, ?_⟩ | refine p_lenO 5 rfl ?_ | refine p_tupO 5 rfl ?_)
local macro_rules | `(tactic| walk_at "sy") => `(tactic| first | walk_at "sx" | refine p_ixT (at_rowsT (by assumption)) ?_ | refine p_ixT (at_range (by assumption)) ?_ | refine p_ixL (at_rowsL (by assumption)) ?_ | refine p_ixL (at_range (by assumption)) ?_ | refine ⟨_, rfl, rfl, ?_⟩ | refine ⟨rfl, ?_⟩ | refine ⟨0, _, _, _, rfl, rfl, .inl ⟨rfl, rfl⟩, ?_⟩ | refine ⟨0, _, _, _, rfl, rfl, .inr ⟨lt_ok rfl, rfl⟩, ?_⟩ | refine ⟨1, _, _, _, rfl, rfl, .inl ⟨rfl, rfl⟩, ?_⟩ | refine ⟨1, _, _, _, rfl, rfl, .inr ⟨lt_ok rfl, rfl⟩, ?_⟩ | refine ⟨2, _, _, _, rfl, rfl, .inl ⟨rfl, rfl⟩, ?_⟩ | refine ⟨2, _, _, _, rfl, rfl, .inr ⟨lt_ok rfl, rfl⟩, ?_⟩ | refine ⟨3, _, _, _, rfl, rfl, .inl ⟨rfl, rfl⟩, ?_⟩ | refine ⟨3, _, _, _, rfl, rfl, .inr ⟨lt_ok rfl, rfl⟩, ?_⟩)
local macro_rules | `(tactic| walk_at "sw") => `(tactic| first | walk_at "sy" | refine i_forc ?_ | refine i_forn ?_ | refine i_lcc ?_ | refine i_lcn ?_ | refine ⟨0, _, _, _, rfl, rfl, rfl, lt_ok rfl, ?_⟩ | refine ⟨1, _, _, _, rfl, rfl, rfl, lt_ok rfl, ?_⟩ | refine ⟨2, _, _, _, rfl, rfl, rfl, lt_ok rfl, ?_⟩ | refine ⟨3, _, _, _, rfl, rfl, rfl, lt_ok rfl, ?_⟩)

theorem i_notIn2 {a b : Str} {wa : WE} {e : Env} {st : Sto} {Φ : D → Sto → Prop} (h : wa e st fun x st1 => ∃ s, x = .str s ∧ Φ (.bl (!(decide (s = a) || decide (s = b)))) st1) : wNotIn2 a b wa e st Φ := h
theorem sg_in (b : Bool) : (!(decide (sgS b = "joins") || decide (sgS b = "meets"))) = false := by cases b <;> decide +kernel
def S_check_node : Spd := Pur fun ds r => ∃ (d : Nat) (t : Tr) (road : List D) (many : Int), TrOk 16 d t ∧ road.length ≤ 40 ∧ many ≠ 4000 ∧ ds = [trD t, .tup road, .int many] ∧ r = .non
theorem pl_check_node (ds : List D) (st : Sto) (Φ : D → Sto → Prop) (h : S_check_node ds st Φ) : ds.length = 3 ∧ W_check_node (endD Φ) (startD N_check_node ds) st := by
  obtain ⟨rfl, r, ⟨d, t, road, many, ok, hr, hm, rfl, rfl⟩, k⟩ := h
  refine ⟨rfl, ?_⟩
  show W_check_node  _ [some _, some _, some _] _
  unfold W_check_node
  repeat walk_at "sy"
  refine if_f (decide_eq_false (by omega)) ?_
  cases t with
  | lf w =>
    have hw := ok.lt
    rw [trD_lf]
    repeat walk_at "sy"
    refine if_t (decide_eq_true (by omega)) ?_
    repeat walk_at "sy"
    refine if_f (by rw [decide_eq_true (by omega)]; rfl) ?_
    repeat walk_at "sy"
    refine if_f (decide_eq_false hm) ?_
    repeat walk_at "sy"
    exact e_keep k
  | nd b cs =>
    cases d with
    | zero => exact ok.elim
    | succ d =>
      obtain ⟨h1, h2, h3⟩ := ok
      rw [trD_nd]
      repeat walk_at "sy"
      refine if_f (sg_in b) ?_
      repeat walk_at "sy"
      refine if_f (decide_eq_false (by rw [List.length_map]; omega)) ?_
      exact e_keep k
/-! ### a tree laid out -/
mutual
def nodesF (k : Nat) : Tr → List D
  | .lf w => [nD w]
  | .nd b cs => .tup [sgD b, .tup (numsF (k + 1) cs)] :: nodesFs (k + 1) cs
def nodesFs (k : Nat) : List Tr → List D
  | [] => []
  | c :: cs => nodesF k c ++ nodesFs (k + (nodesF k c).length) cs
def numsF (k : Nat) : List Tr → List D
  | [] => []
  | c :: cs => nD k :: numsF (k + (nodesF k c).length) cs
end
mutual
def parsF (k : Nat) : Tr → List D
  | .lf _ => []
  | .nd _ cs => parsFs k (k + 1) cs
def parsFs (u k : Nat) : List Tr → List D
  | [] => []
  | c :: cs => nD u :: (parsF k c ++ parsFs u (k + (nodesF k c).length) cs)
end
mutual
def leavF (k : Nat) : Tr → List D
  | .lf _ => [nD k]
  | .nd _ cs => leavFs (k + 1) cs
def leavFs (k : Nat) : List Tr → List D
  | [] => []
  | c :: cs => leavF k c ++ leavFs (k + (nodesF k c).length) cs
end
theorem nodesF_lf (k w : Nat) : nodesF k (.lf w) = [nD w] := by rw [nodesF]
theorem nodesF_nd (k : Nat) (b : Bool) (cs : List Tr) : nodesF k (.nd b cs) = .tup [sgD b, .tup (numsF (k + 1) cs)] :: nodesFs (k + 1) cs := by rw [nodesF]
theorem parsF_lf (k w : Nat) : parsF k (.lf w) = [] := by rw [parsF]
theorem parsF_nd (k : Nat) (b : Bool) (cs : List Tr) : parsF k (.nd b cs) = parsFs k (k + 1) cs := by rw [parsF]
theorem leavF_lf (k w : Nat) : leavF k (.lf w) = [nD k] := by rw [leavF]
theorem leavF_nd (k : Nat) (b : Bool) (cs : List Tr) : leavF k (.nd b cs) = leavFs (k + 1) cs := by rw [leavF]
theorem nodesFs_cons (k : Nat) (c : Tr) (cs : List Tr) : nodesFs k (c :: cs) = nodesF k c ++ nodesFs (k + (nodesF k c).length) cs := by rw [nodesFs]
theorem nodesFs_nil (k : Nat) : nodesFs k [] = [] := by rw [nodesFs]
theorem numsF_cons (k : Nat) (c : Tr) (cs : List Tr) : numsF k (c :: cs) = nD k :: numsF (k + (nodesF k c).length) cs := by rw [numsF]
theorem numsF_nil (k : Nat) : numsF k [] = [] := by rw [numsF]
theorem parsFs_cons (u k : Nat) (c : Tr) (cs : List Tr) : parsFs u k (c :: cs) = nD u :: (parsF k c ++ parsFs u (k + (nodesF k c).length) cs) := by rw [parsFs]
theorem parsFs_nil (u k : Nat) : parsFs u k [] = [] := by rw [parsFs]
theorem leavFs_cons (k : Nat) (c : Tr) (cs : List Tr) : leavFs k (c :: cs) = leavF k c ++ leavFs (k + (nodesF k c).length) cs := by rw [leavFs]
theorem leavFs_nil (k : Nat) : leavFs k [] = [] := by rw [leavFs]
def S_lay (d : Nat) : Spd := fun ds st Φ => ∃ (t : Tr) (road N P Lv : List D) (pn pp pl : Addr), TrOk 16 d t ∧ road.length + d ≤ 40 ∧ N.length + (nodesF N.length t).length ≤ 1000 ∧ P.length + (parsF N.length t).length ≤ 1000 ∧ Lv.length + (leavF N.length t).length ≤ 1000 ∧
  ds = [trD t, .tup road, .own pn, .own pp, .own pl] ∧ st = [(pn, .lst N), (pp, .lst P), (pl, .lst Lv)] ∧
  Φ (trD t) [(pn, .lst (N ++ nodesF N.length t)), (pp, .lst (P ++ parsF N.length t)), (pl, .lst (Lv ++ leavF N.length t))]
theorem c_lay {d : Nat} {t : Tr} {road N P Lv : List D} {pn pp pl : Addr} {rest : Sto} {Φ : D → Sto → Prop} (ok : TrOk 16 d t) (hr : road.length + d ≤ 40) (hN : N.length + (nodesF N.length t).length ≤ 1000) (hP : P.length + (parsF N.length t).length ≤ 1000) (hL : Lv.length + (leavF N.length t).length ≤ 1000)
    (k : Φ (trD t) ((pn, .lst (N ++ nodesF N.length t)) :: (pp, .lst (P ++ parsF N.length t)) :: (pl, .lst (Lv ++ leavF N.length t)) :: rest)) : callD (S_lay d) [trD t, .tup road, .own pn, .own pp, .own pl] ((pn, .lst N) :: (pp, .lst P) :: (pl, .lst Lv) :: rest) Φ := by
  refine ⟨[0, 1, 2], [(pn, .lst N), (pp, .lst P), (pl, .lst Lv)], rfl, by decide, t, road, N, P, Lv, pn, pp, pl, ok, hr, hN, hP, hL, rfl, rfl, rfl, ?_⟩
  show Φ (trD t) (((pn, _) :: (pp, _) :: (pl, _) :: rest) ++ [])
  rw [List.append_nil]
  exact k
theorem pl_lay (d : Nat) (S2 : Spd) (hS : ∀ e, d = e + 1 → S2 = S_lay e) (ds : List D) (st : Sto) (Φ : D → Sto → Prop) (h : S_lay d ds st Φ) : ds.length = 5 ∧ W_lay_out S_check_node S2 (endD Φ) (startD N_lay_out ds) st := by
  obtain ⟨t, road, N, P, Lv, pn, pp, pl, ok, hr, hN, hP, hL, rfl, rfl, k⟩ := h
  refine ⟨rfl, ?_⟩
  show W_lay_out _ _ _ [some _, some _, some _, some _, some _, none, none, none, none, none] _
  unfold W_lay_out
  repeat walk_at "sy"
  refine c_pur ⟨d, t, road, _, ok, by omega, by omega, rfl, rfl⟩ ?_
  repeat walk_at "sy"
  refine ⟨0, _, _, _, rfl, rfl, rfl, by omega, ?_⟩
  cases t with
  | lf w =>
    rw [nodesF_lf, parsF_lf, leavF_lf, trD_lf, List.append_nil] at k
    rw [trD_lf]
    repeat walk_at "sy"
    refine ⟨2, _, _, _, rfl, rfl, rfl, by omega, ?_⟩
    repeat walk_at "sy"
    exact .keep [0, 1, 2] _ (by decide) rfl k
  | nd b cs =>
    cases d with
    | zero => exact ok.elim
    | succ d =>
      obtain ⟨h1, h2, h3⟩ := ok
      rw [nodesF_nd, parsF_nd, leavF_nd, trD_nd] at k
      rw [nodesF_nd] at hN
      rw [parsF_nd] at hP
      rw [leavF_nd] at hL
      rw [trD_nd, hS d rfl]
      generalize hT : D.tup [sgD b, .tup (cs.map trD)] = T at k ⊢
      have hTi : isInt T = some false := by rw [← hT]; rfl
      repeat walk_at "sy"
      refine ⟨_, hTi, ?_⟩
      repeat walk_at "sy"
      intro ps
      repeat walk_at "sy"
      intro pu
      repeat walk_at "sy"
      subst hT
      repeat walk_at "sy"
      refine for_ind (fun r e st => ∃ (rest : List Tr) (kk : Nat) (aN aP aL sh nu : List D) (x8 x9 : Option D), r = enumD kk (rest.map trD) ∧ (∀ c ∈ rest, TrOk 16 d c) ∧
        aN ++ nodesFs (N.length + 1 + aN.length) rest = nodesFs (N.length + 1) cs ∧ nu ++ numsF (N.length + 1 + aN.length) rest = numsF (N.length + 1) cs ∧ aP ++ parsFs N.length (N.length + 1 + aN.length) rest = parsFs N.length (N.length + 1) cs ∧
        aL ++ leavFs (N.length + 1 + aN.length) rest = leavFs (N.length + 1) cs ∧ sh ++ rest.map trD = cs.map trD ∧ nu.length + rest.length ≤ 3 ∧ sh.length + rest.length ≤ 3 ∧
        e = [some (D.tup [sgD b, .tup (cs.map trD)]), some (.tup road), some (.own pn), some (.own pp), some (.own pl), some (nD N.length), some (.own ps), some (.own pu), x8, x9] ∧
        st = [(pn, .lst (N ++ D.tup [sgD b, .tup (cs.map trD)] :: aN)), (pp, .lst (P ++ aP)), (pl, .lst (Lv ++ aL)), (ps, .lst sh), (pu, .lst nu)]) ?_ ?_ _ _ _
        ⟨cs, 0, [], [], [], [], [], none, none, rfl, h3, rfl, rfl, rfl, rfl, rfl, by simpa using h2, by simpa using h2, rfl, by simp⟩
      · rintro K x r e st ⟨rest, kk, aN, aP, aL, sh, nu, x8, x9, hr', hok, e1, e2, e3, e4, e5, l1, l2, rfl, rfl⟩ hK
        cases rest with
        | nil => cases hr'
        | cons c rest =>
          obtain ⟨rfl, rfl⟩ := List.cons.inj hr'
          have hlen : (N ++ D.tup [sgD b, .tup (cs.map trD)] :: aN).length = N.length + 1 + aN.length := by simp; omega
          rw [nodesFs_cons] at e1
          rw [numsF_cons] at e2
          rw [parsFs_cons] at e3
          rw [leavFs_cons] at e4
          rw [← e1] at hN
          rw [← e3] at hP
          rw [← e4] at hL
          simp only [List.length_append, List.length_cons] at hN hP hL l1 l2
          repeat walk_at "sy"
          rw [hlen]
          refine ⟨4, _, _, _, rfl, rfl, rfl, by omega, ?_⟩
          repeat walk_at "sy"
          refine ⟨1, _, _, _, rfl, rfl, rfl, by rw [List.length_append]; omega, ?_⟩
          repeat walk_at "sy"
          refine p_catT (by show road.length + 1 ≤ _; omega) ?_
          repeat walk_at "sy"
          refine c_lay (hok c List.mem_cons_self) (by rw [List.length_append]; show road.length + 1 + d ≤ 40; omega) (by rw [hlen]; omega) (by rw [hlen]; simp only [List.length_append, List.length_cons, List.length_nil]; omega) (by rw [hlen, List.length_append]; omega) ?_
          rw [hlen]
          repeat walk_at "sy"
          refine ⟨3, _, _, _, rfl, rfl, rfl, by omega, hK _ _ ⟨rest, kk + 1, aN ++ nodesF (N.length + 1 + aN.length) c, aP ++ nD N.length :: parsF (N.length + 1 + aN.length) c, aL ++ leavF (N.length + 1 + aN.length) c, sh ++ [trD c], nu ++ [nD (N.length + 1 + aN.length)], some (.int (kk : Nat)), some (trD c), rfl, fun y m => hok y (List.mem_cons_of_mem _ m), ?_, ?_, ?_, ?_, ?_, ?_, ?_, rfl, ?_⟩⟩
          · rw [List.length_append, List.append_assoc, ← Nat.add_assoc]; exact e1
          · rw [List.length_append, List.append_assoc, ← Nat.add_assoc]; exact e2
          · rw [List.length_append, List.append_assoc, ← Nat.add_assoc]; exact e3
          · rw [List.length_append, List.append_assoc, ← Nat.add_assoc]; exact e4
          · rw [List.append_assoc]; exact e5
          · simp only [List.length_append, List.length_cons, List.length_nil]; omega
          · simp only [List.length_append, List.length_cons, List.length_nil]; omega
          · simp
      · rintro e st ⟨rest, kk, aN, aP, aL, sh, nu, x8, x9, hr', hok, e1, e2, e3, e4, e5, l1, l2, rfl, rfl⟩
        cases rest with
        | cons c rest => cases hr'
        | nil =>
          rw [nodesFs_nil, List.append_nil] at e1
          rw [numsF_nil, List.append_nil] at e2
          rw [parsFs_nil, List.append_nil] at e3
          rw [leavFs_nil, List.append_nil] at e4
          rw [List.map_nil, List.append_nil] at e5
          subst e1 e2 e3 e4 e5
          repeat walk_at "sy"
          refine ⟨0, _, _, N.length, rfl, rfl, rfl, by simp, ?_⟩
          repeat walk_at "sy"
          refine .keep [0, 1, 2] _ (by decide) rfl ?_
          have es : ∀ (X Y : D) (l : List D), (N ++ X :: l).set N.length Y = N ++ Y :: l := fun X Y l => by
            rw [List.set_append_right _ _ (Nat.le_refl _), Nat.sub_self]; rfl
          rw [es]
          exact k
end Cw

set_option Elab.async false
set_option linter.all false
set_option maxRecDepth 100000
set_option maxHeartbeats 0
namespace Cw
open PySem hiding Env
open L2 hiding St
open DL
/-- one step -/
local macro_rules | `(tactic| walk_at "sx") => `(tactic| first | (with_reducible refine i_varH ?_; refine ⟨_, rfl, ?_⟩) | (with_reducible first | refine i_seq ?_ | refine i_asg ?_ | refine i_name ?_ | refine i_bin ?_ | refine i_c ?_ | refine i_fld ?_ | refine i_cons ?_ | refine i_nil ?_ | refine i_if ?_ | refine i_tst ?_ | refine i_ret ?_ | refine i_call ?_ | refine i_meth ?_ | refine i_andT ?_ | refine i_orT ?_ | refine i_notT ?_ | refine i_chain ?_ | refine i_is ?_ | refine i_tup ?_ | refine i_lst ?_ | refine i_cb ?_ | refine i_for ?_ | refine i_next ?_ | refine i_drop ?_ | refine i_andV ?_ | refine i_orV ?_ | refine i_notV ?_ | refine i_ifE ?_ | refine i_lstO ?_ | refine i_setF ?_ | refine i_sub ?_ | refine i_app ?_ | refine i_gtup ?_ | refine i_gcons ?_ | refine i_gnil ?_ | refine i_ilst ?_ | refine i_itup ?_ | refine i_irg ?_ | refine i_irgO ?_ | refine i_irev ?_ | refine i_ienT ?_ | refine i_ienL ?_ | refine i_lRg ?_ | refine i_lc ?_ | refine i_lcO ?_ | refine i_yes ?_ | refine i_retN ?_ | refine i_prop ?_ | refine i_makeO ?_ | refine i_make ?_ | refine i_star ?_) | (with_reducible first | refine q_tst ?_ | refine q_ifT ?_ | refine q_ifF ?_ | refine q_nT ?_ | refine q_nF ?_ | refine q_obj ?_ | refine p_add ?_ | refine p_sub ?_ | refine p_lt ?_ | refine p_le ?_ | refine p_gt ?_ | refine p_leB ?_ | refine p_eqI ?_ | refine p_eqS ?_ | refine p_neI ?_ | refine p_isNy ?_ | refine p_notNy ?_ | refine p_isB ?_ | refine p_notB ?_ | refine p_lenT ?_ | refine p_lenL ?_ | refine p_int ?_ | refine p_tupL ?_ | refine p_lstL ?_ | refine p_lstT ?_) | refine ⟨_, _, .inl rfl, rfl, ?_⟩ | refine p_mul (.inr (by decide)) ?_ | refine p_div ⟨by decide, by decide⟩ ?_ | refine p_mod (by decide) ?_ | (with_reducible refine p_abs ?_) | (with_reducible refine p_max ?_) | (with_reducible refine p_min ?_) | refine q_len rfl ?_ | refine ⟨_, .inl rfl, ?_⟩ | refine ⟨_, rfl, ?_⟩ | refine p_ixL rfl ?_ | refine p_ixT rfl ?_ | refine p_ixO 0 rfl rfl ?_ | refine p_ixO 1 rfl rfl ?_ | refine p_ixO 2 rfl rfl ?_ | refine ⟨_, .inr ⟨_, rfl, rfl⟩, ?_⟩ | refine p_ixO 3 rfl rfl ?_ | refine p_ixO 4 rfl rfl ?_ | refine p_ixO 5 rfl rfl ?_ | refine ⟨_, _, .inr ⟨0, _, rfl, rfl⟩, rfl, ?_⟩ | refine ⟨⟨_, .inr ⟨0, _, rfl, rfl⟩⟩, ?_⟩ | refine ⟨⟨0, _, _, rfl, rfl⟩, ?_⟩ | refine p_lenO 0 rfl ?_ | refine p_tupO 0 rfl ?_ | refine ⟨_, _, .inr ⟨1, _, rfl, rfl⟩, rfl, ?_⟩ | refine ⟨⟨_, .inr ⟨1, _, rfl, rfl⟩⟩, ?_⟩ | refine ⟨⟨1, _, _, rfl, rfl⟩, ?_⟩ | refine p_lenO 1 rfl ?_ | refine p_tupO 1 rfl ?_ | refine ⟨_, _, .inr ⟨2, _, rfl, rfl⟩, rfl, ?_⟩ | refine ⟨⟨_, .inr ⟨2, _, rfl, rfl⟩⟩, ?_⟩ | refine ⟨⟨2, _, _, rfl, rfl⟩, ?_⟩ | refine p_lenO 2 rfl ?_ | refine p_tupO 2 rfl ?_ | refine ⟨_, _, .inr ⟨3, _, rfl, rfl⟩, rfl, ?_⟩ | refine ⟨⟨_, .inr ⟨3, _, rfl, rfl⟩⟩, ?_⟩ | refine ⟨⟨3, _, _, rfl, rfl⟩, ?_⟩ | refine p_lenO 3 rfl ?_ | refine p_tupO 3 rfl ?_ | refine ⟨_, _, .inr ⟨4, _, rfl, rfl⟩, rfl, ?_⟩ | refine ⟨⟨_, .inr ⟨4, _, rfl, rfl⟩⟩, ?_⟩ | refine ⟨⟨4, _, _, rfl, rfl⟩, ?_⟩ | refine p_lenO 4 rfl ?_ | refine p_tupO 4 rfl ?_ | refine ⟨_, _, .inr ⟨5, _, rfl, rfl⟩, rfl, ?_⟩ | refine ⟨⟨_, .inr ⟨5, _, rfl, rfl⟩⟩, ?_⟩ | refine ⟨⟨5, _, _, rfl, rfl⟩, ?_⟩ | refine p_lenO 5 rfl ?_ | refine p_tupO 5 rfl ?_)
local macro_rules | `(tactic| walk_at "sy") => `(tactic| first | walk_at "sx" | refine p_ixT (at_rowsT (by assumption)) ?_ | refine p_ixT (at_range (by assumption)) ?_ | refine p_ixL (at_rowsL (by assumption)) ?_ | refine p_ixL (at_range (by assumption)) ?_ | refine ⟨_, rfl, rfl, ?_⟩ | refine ⟨rfl, ?_⟩ | refine ⟨0, _, _, _, rfl, rfl, .inl ⟨rfl, rfl⟩, ?_⟩ | refine ⟨0, _, _, _, rfl, rfl, .inr ⟨lt_ok rfl, rfl⟩, ?_⟩ | refine ⟨1, _, _, _, rfl, rfl, .inl ⟨rfl, rfl⟩, ?_⟩ | refine ⟨1, _, _, _, rfl, rfl, .inr ⟨lt_ok rfl, rfl⟩, ?_⟩ | refine ⟨2, _, _, _, rfl, rfl, .inl ⟨rfl, rfl⟩, ?_⟩ | refine ⟨2, _, _, _, rfl, rfl, .inr ⟨lt_ok rfl, rfl⟩, ?_⟩ | refine ⟨3, _, _, _, rfl, rfl, .inl ⟨rfl, rfl⟩, ?_⟩ | refine ⟨3, _, _, _, rfl, rfl, .inr ⟨lt_ok rfl, rfl⟩, ?_⟩)
local macro_rules | `(tactic| walk_at "sw") => `(tactic| first | walk_at "sy" | refine i_forc ?_ | refine i_forn ?_ | refine i_lcc ?_ | refine i_lcn ?_ | refine ⟨0, _, _, _, rfl, rfl, rfl, lt_ok rfl, ?_⟩ | refine ⟨1, _, _, _, rfl, rfl, rfl, lt_ok rfl, ?_⟩ | refine ⟨2, _, _, _, rfl, rfl, rfl, lt_ok rfl, ?_⟩ | refine ⟨3, _, _, _, rfl, rfl, rfl, lt_ok rfl, ?_⟩)

/-! ### sizes of a tree laid out -/
theorem lay_size : ∀ (d n : Nat) (t : Tr) (k : Nat), TrOk n d t → (nodesF k t).length ≤ 4 ^ (d + 1) ∧ (parsF k t).length ≤ 4 ^ (d + 1) ∧ (leavF k t).length ≤ 4 ^ (d + 1)
  | d, n, .lf w, k, _ => by
    rw [nodesF_lf, parsF_lf, leavF_lf]
    have : 1 ≤ 4 ^ (d + 1) := Nat.one_le_pow _ _ (by decide)
    simp; omega
  | 0, n, .nd b cs, k, h => h.elim
  | d + 1, n, .nd b cs, k, h => by
    obtain ⟨h1, h2, h3⟩ := h
    have gen : ∀ (cs : List Tr) (u k : Nat), (∀ c ∈ cs, TrOk n d c) → (nodesFs k cs).length ≤ cs.length * 4 ^ (d + 1) ∧ (parsFs u k cs).length ≤ cs.length * (4 ^ (d + 1) + 1) ∧ (leavFs k cs).length ≤ cs.length * 4 ^ (d + 1) := by
      intro cs
      induction cs with
      | nil => intro u k _; rw [nodesFs_nil, parsFs_nil, leavFs_nil]; simp
      | cons c cs ih =>
        intro u k hc
        obtain ⟨a1, a2, a3⟩ := lay_size d n c k (hc c List.mem_cons_self)
        obtain ⟨b1, b2, b3⟩ := ih u (k + (nodesF k c).length) fun y m => hc y (List.mem_cons_of_mem _ m)
        rw [nodesFs_cons, parsFs_cons, leavFs_cons]
        simp only [List.length_append, List.length_cons, Nat.add_mul, Nat.one_mul]
        omega
    obtain ⟨a1, a2, a3⟩ := gen cs k (k + 1) h3
    rw [nodesF_nd, parsF_nd, leavF_nd]
    have p4 : 4 ≤ 4 ^ (d + 1) := by rw [Nat.pow_succ]; have : 1 ≤ 4 ^ d := Nat.one_le_pow _ _ (by decide); omega
    have e : 4 ^ (d + 1 + 1) = 4 * 4 ^ (d + 1) := by rw [Nat.pow_succ, Nat.mul_comm]
    rw [e, List.length_cons]
    have m1 : cs.length * 4 ^ (d + 1) ≤ 3 * 4 ^ (d + 1) := Nat.mul_le_mul_right _ h2
    have m2 : cs.length * (4 ^ (d + 1) + 1) ≤ 3 * (4 ^ (d + 1) + 1) := Nat.mul_le_mul_right _ h2
    omega
theorem leav_in : ∀ (d n : Nat) (t : Tr) (k : Nat), TrOk n d t → ∀ x ∈ leavF k t, ∃ i, x = nD i ∧ k ≤ i ∧ i < k + (nodesF k t).length
  | d, n, .lf w, k, _, x, hx => by
    rw [leavF_lf] at hx
    rw [nodesF_lf]
    exact ⟨k, by simpa using hx, Nat.le_refl _, by simp⟩
  | 0, n, .nd b cs, k, h, _, _ => h.elim
  | d + 1, n, .nd b cs, k, h, x, hx => by
    obtain ⟨h1, h2, h3⟩ := h
    have gen : ∀ (cs : List Tr) (k : Nat), (∀ c ∈ cs, TrOk n d c) → ∀ x ∈ leavFs k cs, ∃ i, x = nD i ∧ k ≤ i ∧ i < k + (nodesFs k cs).length := by
      intro cs
      induction cs with
      | nil => intro k _ x hx; rw [leavFs_nil] at hx; cases hx
      | cons c cs ih =>
        intro k hc x hx
        rw [leavFs_cons] at hx
        rw [nodesFs_cons, List.length_append]
        rcases List.mem_append.mp hx with hx | hx
        · obtain ⟨i, e, i1, i2⟩ := leav_in d n c k (hc c List.mem_cons_self) x hx
          exact ⟨i, e, i1, by omega⟩
        · obtain ⟨i, e, i1, i2⟩ := ih _ (fun y m => hc y (List.mem_cons_of_mem _ m)) x hx
          exact ⟨i, e, by omega, by omega⟩
    rw [leavF_nd] at hx
    obtain ⟨i, e, i1, i2⟩ := gen cs (k + 1) h3 x hx
    rw [nodesF_nd, List.length_cons]
    exact ⟨i, e, by omega, by omega⟩
/-! ### Tree(shape) -/
abbrev treF (t : Tr) (wl : List D) : List D := [trD t, .tup (nodesF 0 t), .tup (.non :: parsF 0 t), .tup (leavF 0 t), .tup wl]
def S_tree_init (d : Nat) : Spd := fun ds st Φ => ∃ (t : Tr) (p : Addr), TrOk 16 d t ∧ d ≤ 3 ∧ ds = [.own p, trD t] ∧ st = [(p, .ins .tre [])] ∧ ∀ wl, Φ .non [(p, .ins .tre (treF t wl))]
theorem i_lcS {wa we : WE} {j : Nat} {wt : WT} {e : Env} {st : Sto} {Φ : D → Sto → Prop} (h : wa e st fun x st1 => ∃ (k : Nat) (a : Addr) (ds : List D), x = .own a ∧ st1[k]? = some (a, .lst ds) ∧ ds.length ≤ 100000 ∧ lcgoC (fun st2 => st2 = st1) j wt we e (fun acc st2 => Φ (.lst acc) st2) ds [] st1) : wLcS wa j wt we e st Φ := h
theorem lcC_ind {C : Sto → Prop} {j : Nat} {wt : WT} {we : WE} {e : Env} {Ψ : List D → Sto → Prop} (I : List D → List D → Sto → Prop) (step : ∀ (K : List D → Sto → Prop) (d : D) (r acc : List D) (st : Sto), I (d :: r) acc st → (∀ acc' st', I r acc' st' → K acc' st') →
      wt (e.set j (some d)) st fun b st1 => if b = true then we (e.set j (some d)) st1 fun y st2 => C st2 ∧ K (acc ++ [y]) st2 else C st1 ∧ K acc st1)
    (done : ∀ acc st, I [] acc st → Ψ acc st) : ∀ (ds acc : List D) (st : Sto), I ds acc st → lcgoC C j wt we e Ψ ds acc st
  | [], acc, st, h => done acc st h
  | d :: r, acc, st, h => step (lcgoC C j wt we e Ψ r) d r acc st h (lcC_ind I step done r)
theorem c_lay1 {d : Nat} {t : Tr} {road N P Lv : List D} {pn pp pl : Addr} {q : Addr × OB} {rest : Sto} {Φ : D → Sto → Prop} (ok : TrOk 16 d t) (hr : road.length + d ≤ 40) (hN : N.length + (nodesF N.length t).length ≤ 1000) (hP : P.length + (parsF N.length t).length ≤ 1000) (hL : Lv.length + (leavF N.length t).length ≤ 1000)
    (k : Φ (trD t) (q :: (pn, .lst (N ++ nodesF N.length t)) :: (pp, .lst (P ++ parsF N.length t)) :: (pl, .lst (Lv ++ leavF N.length t)) :: rest)) : callD (S_lay d) [trD t, .tup road, .own pn, .own pp, .own pl] (q :: (pn, .lst N) :: (pp, .lst P) :: (pl, .lst Lv) :: rest) Φ := by
  refine ⟨[1, 2, 3], [(pn, .lst N), (pp, .lst P), (pl, .lst Lv)], rfl, by decide, t, road, N, P, Lv, pn, pp, pl, ok, hr, hN, hP, hL, rfl, rfl, rfl, ?_⟩
  show Φ (trD t) ((q :: (pn, _) :: (pp, _) :: (pl, _) :: rest) ++ [])
  rw [List.append_nil]
  exact k
theorem pl_tree_init (d : Nat) (ds : List D) (st : Sto) (Φ : D → Sto → Prop) (h : S_tree_init d ds st Φ) : ds.length = 2 ∧ W_Tree_init (S_lay d) (endD Φ) (startD N_Tree_init ds) st := by
  obtain ⟨t, p, ok, hd, rfl, rfl, k⟩ := h
  obtain ⟨z1, z2, z3⟩ := lay_size d 16 t 0 ok
  have z4 : 4 ^ (d + 1) ≤ 4 ^ 4 := Nat.pow_le_pow_right (by decide) (by omega)
  have z5 : 4 ^ 4 = 256 := by decide
  have lin := leav_in d 16 t 0 ok
  refine ⟨rfl, ?_⟩
  show W_Tree_init _ _ [some _, some _, none, none, none, none] _
  unfold W_Tree_init
  repeat walk_at "sy"
  intro pn
  repeat walk_at "sy"
  intro pp
  repeat walk_at "sy"
  intro pl
  repeat walk_at "sy"
  refine c_lay1 (N := []) (P := [.non]) (Lv := []) ok (by show 0 + d ≤ 40; omega) (by show 0 + (nodesF 0 t).length ≤ 1000; omega) (by show 1 + (parsF 0 t).length ≤ 1000; omega) (by show 0 + (leavF 0 t).length ≤ 1000; omega) ?_
  repeat walk_at "sy"
  refine ⟨3, pl, leavF 0 t, rfl, rfl, by omega, lcC_ind (fun r acc st => (∀ x ∈ r, x ∈ leavF 0 t) ∧ st = [(p, .ins .tre [trD t, .tup (nodesF 0 t), .tup (.non :: parsF 0 t), .tup (leavF 0 t)]), (pn, .lst (nodesF 0 t)), (pp, .lst (.non :: parsF 0 t)), (pl, .lst (leavF 0 t))]) ?_ ?_ _ _ _ ⟨fun _ h => h, rfl⟩⟩
  · rintro K x r acc st ⟨hr, rfl⟩ hK
    obtain ⟨i, rfl, i1, i2⟩ := lin x (hr x List.mem_cons_self)
    have hi : i < (nodesF 0 t).length := by omega
    repeat walk_at "sy"
    refine p_ixO 1 rfl (atI_nat (List.getElem?_eq_getElem hi)) ?_
    exact ⟨rfl, hK _ _ ⟨fun y m => hr y (List.mem_cons_of_mem _ m), rfl⟩⟩
  · rintro acc st ⟨hr, rfl⟩
    repeat walk_at "sy"
    exact .keep [0] _ (by decide) rfl (k acc)
/-! ### the ground -/
abbrev grD (tF : List D) : D := .obj .gro [.obj .tre tF, .int 0]
def S_gro_init : Spd := fun ds st Φ => ∃ (p : Addr) (x : D), ds = [.own p, x, .int 0] ∧ st = [(p, .ins .gro [])] ∧ Φ .non [(p, .ins .gro [x, .int 0])]
theorem pl_gro_init (ds : List D) (st : Sto) (Φ : D → Sto → Prop) (h : S_gro_init ds st Φ) : ds.length = 3 ∧ W_TreeGround_init (endD Φ) (startD N_TreeGround_init ds) st := by
  obtain ⟨p, x, rfl, rfl, k⟩ := h
  refine ⟨rfl, ?_⟩
  show W_TreeGround_init  _ [some _, some _, some _] _
  unfold W_TreeGround_init
  repeat walk_at "sy"
  exact .keep [0] _ (by decide) rfl k
def S_gro_root : Spd := Pur fun ds r => ∃ tF, ds = [grD tF] ∧ r = .int 0
theorem pl_gro_root (ds : List D) (st : Sto) (Φ : D → Sto → Prop) (h : S_gro_root ds st Φ) : ds.length = 1 ∧ W_TreeGround_root_node (endD Φ) (startD N_TreeGround_root_node ds) st := by
  obtain ⟨rfl, r, ⟨tF, rfl, rfl⟩, k⟩ := h
  refine ⟨rfl, ?_⟩
  show W_TreeGround_root_node  _ [some _] _
  unfold W_TreeGround_root_node
  repeat walk_at "sy"
  exact e_keep k
/-- the fields of a tree whose root has a sign and children of these numbers -/
abbrev rootF (s : D) (nums : List D) (sh pa le wl : D) (rest : List D) : List D := [sh, .tup (.tup [s, .tup nums] :: rest), pa, le, wl]
def S_gro_end : Spd := Pur fun ds r => ∃ s nums sh pa le wl rest, ds = [grD (rootF s nums sh pa le wl rest), .int 0] ∧ r = .bl false
def S_gro_sign : Spd := Pur fun ds r => ∃ s nums sh pa le wl rest, ds = [grD (rootF s nums sh pa le wl rest), .int 0] ∧ r = s
def S_gro_kids : Spd := Pur fun ds r => ∃ s nums sh pa le wl rest, ds = [grD (rootF s nums sh pa le wl rest), .int 0] ∧ r = .tup nums
theorem at_root {x : D} {l : List D} : atI (x :: l) (0 : Int) = some x := atI_nat (i := 0) rfl
theorem pl_gro_end (ds : List D) (st : Sto) (Φ : D → Sto → Prop) (h : S_gro_end ds st Φ) : ds.length = 2 ∧ W_TreeGround_is_end (endD Φ) (startD N_TreeGround_is_end ds) st := by
  obtain ⟨rfl, r, ⟨s, nums, sh, pa, le, wl, rest, rfl, rfl⟩, k⟩ := h
  refine ⟨rfl, ?_⟩
  show W_TreeGround_is_end  _ [some _, some _] _
  unfold W_TreeGround_is_end
  repeat walk_at "sy"
  refine p_ixT at_root ?_
  repeat walk_at "sy"
  exact e_keep k
theorem pl_gro_sign (ds : List D) (st : Sto) (Φ : D → Sto → Prop) (h : S_gro_sign ds st Φ) : ds.length = 2 ∧ W_TreeGround_sign_of (endD Φ) (startD N_TreeGround_sign_of ds) st := by
  obtain ⟨rfl, r, ⟨s, nums, sh, pa, le, wl, rest, rfl, rfl⟩, k⟩ := h
  refine ⟨rfl, ?_⟩
  show W_TreeGround_sign_of  _ [some _, some _] _
  unfold W_TreeGround_sign_of
  repeat walk_at "sy"
  refine p_ixT at_root ?_
  repeat walk_at "sy"
  exact e_keep k
theorem pl_gro_kids (ds : List D) (st : Sto) (Φ : D → Sto → Prop) (h : S_gro_kids ds st Φ) : ds.length = 2 ∧ W_TreeGround_children_of (endD Φ) (startD N_TreeGround_children_of ds) st := by
  obtain ⟨rfl, r, ⟨s, nums, sh, pa, le, wl, rest, rfl, rfl⟩, k⟩ := h
  refine ⟨rfl, ?_⟩
  show W_TreeGround_children_of  _ [some _, some _] _
  unfold W_TreeGround_children_of
  repeat walk_at "sy"
  refine p_ixT at_root ?_
  repeat walk_at "sy"
  exact e_keep k
/-! ### the upper shape -/
def S_ups0 : Spd := fun ds st Φ => ∃ (g x : D) (road R : List D) (pr : Addr), ds = [g, x, .int 0, .tup road, .own pr] ∧ R.length < 400 ∧ st = [(pr, .lst R)] ∧ Φ (nD 0) [(pr, .lst (R ++ [.tup road]))]
theorem pl_ups0 (S1 S2 S3 S4 : Spd) (ds : List D) (st : Sto) (Φ : D → Sto → Prop) (h : S_ups0 ds st Φ) : ds.length = 5 ∧ W_upper_shape S1 S2 S3 S4 (endD Φ) (startD N_upper_shape ds) st := by
  obtain ⟨g, x, road, R, pr, rfl, hR, rfl, k⟩ := h
  refine ⟨rfl, ?_⟩
  show W_upper_shape _ _ _ _ _ [some _, some _, some _, some _, some _, none, none, none] _
  unfold W_upper_shape
  repeat walk_at "sy"
  refine if_f (decide_eq_false (by omega)) ?_
  repeat walk_at "sy"
  refine ⟨0, _, _, _, rfl, rfl, rfl, by omega, ?_⟩
  repeat walk_at "sy"
  exact .keep [0] _ (by decide) rfl k
theorem c_ups0 {g x : D} {road R : List D} {pr : Addr} {rest : Sto} {Φ : D → Sto → Prop} (hR : R.length < 400) (k : Φ (nD 0) ((pr, .lst (R ++ [.tup road])) :: rest)) : callD S_ups0 [g, x, .int 0, .tup road, .own pr] ((pr, .lst R) :: rest) Φ := by
  refine ⟨[0], [(pr, .lst R)], rfl, by decide, g, x, road, R, pr, rfl, hR, rfl, rfl, ?_⟩
  show Φ (nD 0) (((pr, _) :: rest) ++ [])
  rw [List.append_nil]
  exact k
def S_ups1 : Spd := fun ds st Φ => ∃ (b : Bool) (nums : List D) (sh pa le wl : D) (rest : List D) (pr : Addr), nums.length ≤ 3 ∧ ds = [grD (rootF (sgD b) nums sh pa le wl rest), .int 0, .int 1, .tup [], .own pr] ∧ st = [(pr, .lst [])] ∧ Φ (trD (upT b nums.length)) [(pr, .lst ((List.range nums.length).map rdD))]
theorem pl_ups1 (ds : List D) (st : Sto) (Φ : D → Sto → Prop) (h : S_ups1 ds st Φ) : ds.length = 5 ∧ W_upper_shape S_gro_end S_gro_kids S_ups0 S_gro_sign (endD Φ) (startD N_upper_shape ds) st := by
  obtain ⟨b, nums, sh, pa, le, wl, rest, pr, hl, rfl, rfl, k⟩ := h
  refine ⟨rfl, ?_⟩
  show W_upper_shape _ _ _ _ _ [some _, some _, some _, some _, some _, none, none, none] _
  unfold W_upper_shape
  repeat walk_at "sy"
  refine c_pur ⟨sgD b, nums, sh, pa, le, wl, rest, rfl, rfl⟩ ?_
  repeat walk_at "sy"
  intro ps
  repeat walk_at "sy"
  refine c_pur ⟨sgD b, nums, sh, pa, le, wl, rest, rfl, rfl⟩ ?_
  repeat walk_at "sy"
  refine for_ind (fun r e st => ∃ (c : Nat) (x6 x7 : Option D), r = enumD c (nums.drop c) ∧ c ≤ nums.length ∧ e = [some (grD (rootF (sgD b) nums sh pa le wl rest)), some (.int 0), some (.int 1), some (.tup []), some (.own pr), some (.own ps), x6, x7] ∧
    st = [(pr, .lst ((List.range c).map rdD)), (ps, .lst (List.replicate c (nD 0)))]) ?_ ?_ _ _ _ ⟨0, none, none, rfl, Nat.zero_le _, rfl, rfl⟩
  · rintro K x r e st ⟨c, x6, x7, hr, hc, rfl, rfl⟩ hK
    by_cases hlt : c < nums.length
    · rw [List.drop_eq_getElem_cons hlt] at hr
      obtain ⟨rfl, rfl⟩ := List.cons.inj hr
      repeat walk_at "sy"
      refine p_catT (by show 0 + 1 ≤ 100000; decide) ?_
      repeat walk_at "sy"
      refine c_ups0 (by rw [len_mr]; omega) ?_
      repeat walk_at "sy"
      refine ⟨1, _, _, _, rfl, rfl, rfl, by rw [List.length_replicate]; omega, hK _ _ ⟨c + 1, some (.int (c : Nat)), some nums[c], rfl, hlt, rfl, ?_⟩⟩
      rw [List.range_succ, List.map_append, List.replicate_succ']
      rfl
    · rw [List.drop_eq_nil_of_le (by omega)] at hr
      cases hr
  · rintro e st ⟨c, x6, x7, hr, hc, rfl, rfl⟩
    have hcm : c = nums.length := by
      by_cases hlt : c < nums.length
      · rw [List.drop_eq_getElem_cons hlt] at hr; cases hr
      · omega
    subst hcm
    repeat walk_at "sy"
    refine c_pur ⟨sgD b, nums, sh, pa, le, wl, rest, rfl, rfl⟩ ?_
    repeat walk_at "sy"
    rw [trD_nd, List.map_replicate, trD_lf] at k
    exact .keep [0] _ (by decide) rfl k
end Cw

set_option Elab.async false
set_option linter.all false
set_option maxRecDepth 100000
set_option maxHeartbeats 0
namespace Cw
open PySem hiding Env
open L2 hiding St
open DL
/-- one step -/
local macro_rules | `(tactic| walk_at "sx") => `(tactic| first | (with_reducible refine i_varH ?_; refine ⟨_, rfl, ?_⟩) | (with_reducible first | refine i_seq ?_ | refine i_asg ?_ | refine i_name ?_ | refine i_bin ?_ | refine i_c ?_ | refine i_fld ?_ | refine i_cons ?_ | refine i_nil ?_ | refine i_if ?_ | refine i_tst ?_ | refine i_ret ?_ | refine i_call ?_ | refine i_meth ?_ | refine i_andT ?_ | refine i_orT ?_ | refine i_notT ?_ | refine i_chain ?_ | refine i_is ?_ | refine i_tup ?_ | refine i_lst ?_ | refine i_cb ?_ | refine i_for ?_ | refine i_next ?_ | refine i_drop ?_ | refine i_andV ?_ | refine i_orV ?_ | refine i_notV ?_ | refine i_ifE ?_ | refine i_lstO ?_ | refine i_setF ?_ | refine i_sub ?_ | refine i_app ?_ | refine i_gtup ?_ | refine i_gcons ?_ | refine i_gnil ?_ | refine i_ilst ?_ | refine i_itup ?_ | refine i_irg ?_ | refine i_irgO ?_ | refine i_irev ?_ | refine i_ienT ?_ | refine i_ienL ?_ | refine i_lRg ?_ | refine i_lc ?_ | refine i_lcO ?_ | refine i_yes ?_ | refine i_retN ?_ | refine i_prop ?_ | refine i_makeO ?_ | refine i_make ?_ | refine i_star ?_) | (with_reducible first | refine q_tst ?_ | refine q_ifT ?_ | refine q_ifF ?_ | refine q_nT ?_ | refine q_nF ?_ | refine q_obj ?_ | refine p_add ?_ | refine p_sub ?_ | refine p_lt ?_ | refine p_le ?_ | refine p_gt ?_ | refine p_leB ?_ | refine p_eqI ?_ | refine p_eqS ?_ | refine p_neI ?_ | refine p_isNy ?_ | refine p_notNy ?_ | refine p_isB ?_ | refine p_notB ?_ | refine p_lenT ?_ | refine p_lenL ?_ | refine p_int ?_ | refine p_tupL ?_ | refine p_lstL ?_ | refine p_lstT ?_) | refine ⟨_, _, .inl rfl, rfl, ?_⟩ | refine p_mul (.inr (by decide)) ?_ | refine p_div ⟨by decide, by decide⟩ ?_ | refine p_mod (by decide) ?_ | (with_reducible refine p_abs ?_) | (with_reducible refine p_max ?_) | (with_reducible refine p_min ?_) | refine q_len rfl ?_ | refine ⟨_, .inl rfl, ?_⟩ | refine ⟨_, rfl, ?_⟩ | refine p_ixL rfl ?_ | refine p_ixT rfl ?_ | refine p_ixO 0 rfl rfl ?_ | refine p_ixO 1 rfl rfl ?_ | refine p_ixO 2 rfl rfl ?_ | refine ⟨_, .inr ⟨_, rfl, rfl⟩, ?_⟩ | refine p_ixO 3 rfl rfl ?_ | refine p_ixO 4 rfl rfl ?_ | refine p_ixO 5 rfl rfl ?_ | refine ⟨_, _, .inr ⟨0, _, rfl, rfl⟩, rfl, ?_⟩ | refine ⟨⟨_, .inr ⟨0, _, rfl, rfl⟩⟩, ?_⟩ | refine ⟨⟨0, _, _, rfl, rfl⟩, ?_⟩ | refine p_lenO 0 rfl ?_ | refine p_tupO 0 rfl ?_ | refine ⟨_, _, .inr ⟨1, _, rfl, rfl⟩, rfl, ?_⟩ | refine ⟨⟨_, .inr ⟨1, _, rfl, rfl⟩⟩, ?_⟩ | refine ⟨⟨1, _, _, rfl, rfl⟩, ?_⟩ | refine p_lenO 1 rfl ?_ | refine p_tupO 1 rfl ?_ | refine ⟨_, _, .inr ⟨2, _, rfl, rfl⟩, rfl, ?_⟩ | refine ⟨⟨_, .inr ⟨2, _, rfl, rfl⟩⟩, ?_⟩ | refine ⟨⟨2, _, _, rfl, rfl⟩, ?_⟩ | refine p_lenO 2 rfl ?_ | refine p_tupO 2 rfl ?_ | refine ⟨_, _, .inr ⟨3, _, rfl, rfl⟩, rfl, ?_⟩ | refine ⟨⟨_, .inr ⟨3, _, rfl, rfl⟩⟩, ?_⟩ | refine ⟨⟨3, _, _, rfl, rfl⟩, ?_⟩ | refine p_lenO 3 rfl ?_ | refine p_tupO 3 rfl ?_ | refine ⟨_, _, .inr ⟨4, _, rfl, rfl⟩, rfl, ?_⟩ | refine ⟨⟨_, .inr ⟨4, _, rfl, rfl⟩⟩, ?_⟩ | refine ⟨⟨4, _, _, rfl, rfl⟩, ?_⟩ | refine p_lenO 4 rfl ?_ | refine p_tupO 4 rfl ?_ | refine ⟨_, _, .inr ⟨5, _, rfl, rfl⟩, rfl, ?_⟩ | refine ⟨⟨_, .inr ⟨5, _, rfl, rfl⟩⟩, ?_⟩ | refine ⟨⟨5, _, _, rfl, rfl⟩, ?_⟩ | refine p_lenO 5 rfl ?_ | refine p_tupO 5 rfl ?_)
local macro_rules | `(tactic| walk_at "sy") => `(tactic| first | walk_at "sx" | refine p_ixT (at_rowsT (by assumption)) ?_ | refine p_ixT (at_range (by assumption)) ?_ | refine p_ixL (at_rowsL (by assumption)) ?_ | refine p_ixL (at_range (by assumption)) ?_ | refine ⟨_, rfl, rfl, ?_⟩ | refine ⟨rfl, ?_⟩ | refine ⟨0, _, _, _, rfl, rfl, .inl ⟨rfl, rfl⟩, ?_⟩ | refine ⟨0, _, _, _, rfl, rfl, .inr ⟨lt_ok rfl, rfl⟩, ?_⟩ | refine ⟨1, _, _, _, rfl, rfl, .inl ⟨rfl, rfl⟩, ?_⟩ | refine ⟨1, _, _, _, rfl, rfl, .inr ⟨lt_ok rfl, rfl⟩, ?_⟩ | refine ⟨2, _, _, _, rfl, rfl, .inl ⟨rfl, rfl⟩, ?_⟩ | refine ⟨2, _, _, _, rfl, rfl, .inr ⟨lt_ok rfl, rfl⟩, ?_⟩ | refine ⟨3, _, _, _, rfl, rfl, .inl ⟨rfl, rfl⟩, ?_⟩ | refine ⟨3, _, _, _, rfl, rfl, .inr ⟨lt_ok rfl, rfl⟩, ?_⟩)
local macro_rules | `(tactic| walk_at "sw") => `(tactic| first | walk_at "sy" | refine i_forc ?_ | refine i_forn ?_ | refine i_lcc ?_ | refine i_lcn ?_ | refine ⟨0, _, _, _, rfl, rfl, rfl, lt_ok rfl, ?_⟩ | refine ⟨1, _, _, _, rfl, rfl, rfl, lt_ok rfl, ?_⟩ | refine ⟨2, _, _, _, rfl, rfl, rfl, lt_ok rfl, ?_⟩ | refine ⟨3, _, _, _, rfl, rfl, rfl, lt_ok rfl, ?_⟩)

section
variable {wg : WG} {wb : WS} {F : DEnds} {d : D} {r acc : List D} {e : Env} {st : Sto} {j : Nat} {wt : WT} {we : WE} {Ψ : List D → Sto → Prop}
theorem i_forc (h : wg d e st fun e1 st1 => wb { F with nx := forgo wg wb F r, ct := forgo wg wb F r, bk := F.nx } e1 st1) : forgo wg wb F (d :: r) e st := h
theorem i_forn (h : F.nx e st) : forgo wg wb F [] e st := h
theorem i_lcc (h : wt (e.set j (some d)) st fun b st1 => if b = true then we (e.set j (some d)) st1 fun y st2 => lcgo j wt we e Ψ r (acc ++ [y]) st2 else lcgo j wt we e Ψ r acc st1) : lcgo j wt we e Ψ (d :: r) acc st := h
theorem i_lcn (h : Ψ acc st) : lcgo j wt we e Ψ [] acc st := h
end
/-! ### two at a time -/
def opL (L : Lat) (b : Bool) (x y : Nat) : Nat := if b = true then L.jn x y else L.mt x y
def idL (L : Lat) (b : Bool) : Nat := if b = true then L.bt else L.tp
section
variable {L : Lat} {b : Bool} {x y z : Nat} {pr : List D} {st : Sto} {Φ : D → Sto → Prop}
theorem idL_lt (o : L.Ok) : idL L b < L.n := by cases b; exact o.tpl; exact o.btl
theorem opL_lt (o : L.Ok) (hx : x < L.n) (hy : y < L.n) : opL L b x y < L.n := by cases b; exact o.mlt x y hx hy; exact o.jlt x y hx hy
theorem jn_bt (o : L.Ord) (hx : x < L.n) : L.jn L.bt x = x := o.anti _ _ (o.jlt _ _ o.btl hx) hx (o.jl _ _ _ o.btl hx hx (o.bm x hx) (o.refl x hx)) (o.ju2 _ _ o.btl hx)
theorem jn_bt' (o : L.Ord) (hx : x < L.n) : L.jn x L.bt = x := o.anti _ _ (o.jlt _ _ hx o.btl) hx (o.jl _ _ _ hx o.btl hx (o.refl x hx) (o.bm x hx)) (o.ju1 _ _ hx o.btl)
theorem mt_tp (o : L.Ord) (hx : x < L.n) : L.mt L.tp x = x := o.anti _ _ (o.mlt _ _ o.tpl hx) hx (o.ml2 _ _ o.tpl hx) (o.mg _ _ _ o.tpl hx hx (o.tm x hx) (o.refl x hx))
theorem mt_tp' (o : L.Ord) (hx : x < L.n) : L.mt x L.tp = x := o.anti _ _ (o.mlt _ _ hx o.tpl) hx (o.ml1 _ _ hx o.tpl) (o.mg _ _ _ hx o.tpl hx (o.refl x hx) (o.tm x hx))
theorem op_id1 (o : L.Ord) (hx : x < L.n) : opL L b (idL L b) x = x := by cases b; exact mt_tp o hx; exact jn_bt o hx
theorem op_id2 (o : L.Ord) (hx : x < L.n) : opL L b x (idL L b) = x := by cases b; exact mt_tp' o hx; exact jn_bt' o hx
theorem fold_nil : fold L b [] = idL L b := by cases b <;> rfl
theorem fold_cons1 (o : L.Ord) (hx : x < L.n) : fold L b [x] = x := by
  cases b
  · exact mt_tp o hx
  · exact jn_bt o hx
theorem fold_two (o : L.Ord) (hx : x < L.n) : fold L b [x, y] = opL L b x y := by
  cases b
  · show L.mt (L.mt L.tp x) y = L.mt x y
    rw [mt_tp o hx]
  · show L.jn (L.jn L.bt x) y = L.jn x y
    rw [jn_bt o hx]
theorem c_f0 (o : L.Ord) (k : Φ (nD (idL L b)) st) : callD S_folded [laD L pr, sgD b, .lst []] st Φ :=
  c_pur (r := nD (idL L b)) ⟨L, pr, b, [], o.toOk, by simp, rfl, by rw [fold_nil]⟩ k
theorem c_f2 (o : L.Ord) (hx : x < L.n) (hy : y < L.n) (e : opL L b x y = z) (k : Φ (nD z) st) : callD S_folded [laD L pr, sgD b, .lst [nD x, nD y]] st Φ :=
  c_pur (r := nD z) ⟨L, pr, b, [x, y], o.toOk, by simp [hx, hy], rfl, by rw [fold_two o hx, e]⟩ k
end
/-- what the others fold to -/
def oth (L : Lat) (b : Bool) : List Nat → List Nat
  | [a, c] => [c, a]
  | [a, c, d] => [opL L b d c, opL L b a d, opL L b a c]
  | _ => []
def S_folds : Spd := Pur fun ds r => ∃ (L : Lat) (pr : List D) (b : Bool) (ws : List Nat), L.Ord ∧ (∀ w ∈ ws, w < L.n) ∧ (ws.length = 2 ∨ ws.length = 3) ∧ ds = [laD L pr, sgD b, .lst (ws.map nD)] ∧ r = .lst ((oth L b ws).map nD)
theorem pl_folds (ds : List D) (st : Sto) (Φ : D → Sto → Prop) (h : S_folds ds st Φ) : ds.length = 3 ∧ W_folds_of_others S_folded (endD Φ) (startD N_folds_of_others ds) st := by
  obtain ⟨rfl, r, ⟨L, pr, b, ws, o, hw, hm, rfl, rfl⟩, k⟩ := h
  have hi := idL_lt (b := b) o.toOk
  refine ⟨rfl, ?_⟩
  show W_folds_of_others _ _ [some _, some _, some _, none, none, none, none, none, none] _
  unfold W_folds_of_others
  rcases hm with hm | hm
  · obtain ⟨a, c, rfl⟩ : ∃ a c, ws = [a, c] := by
      match ws, hm with
      | [a, c], _ => exact ⟨a, c, rfl⟩
    have ha : a < L.n := hw a (by simp)
    have hc : c < L.n := hw c (by simp)
    repeat walk_at "sw"
    refine c_f0 o ?_
    repeat walk_at "sw"
    intro pb
    repeat walk_at "sw"
    refine c_f2 o hi ha (op_id1 o ha) ?_
    repeat walk_at "sw"
    refine c_f2 o ha hc rfl ?_
    repeat walk_at "sw"
    intro pt
    repeat walk_at "sw"
    refine c_f0 o ?_
    repeat walk_at "sw"
    refine ⟨by simp, by simp, ?_⟩
    repeat walk_at "sw"
    refine c_f2 o ha hi (op_id2 o ha) ?_
    repeat walk_at "sw"
    refine c_f2 o hi hc (op_id1 o hc) ?_
    repeat walk_at "sw"
    refine c_f2 o hi hc (op_id1 o hc) ?_
    repeat walk_at "sw"
    refine c_f2 o hc ha rfl ?_
    repeat walk_at "sw"
    refine ⟨_, .inr ⟨1, pt, rfl, rfl⟩, ?_⟩
    exact e_keep k
  · obtain ⟨a, c, d, rfl⟩ : ∃ a c d, ws = [a, c, d] := by
      match ws, hm with
      | [a, c, d], _ => exact ⟨a, c, d, rfl⟩
    have ha : a < L.n := hw a (by simp)
    have hc : c < L.n := hw c (by simp)
    have hd : d < L.n := hw d (by simp)
    repeat walk_at "sw"
    refine c_f0 o ?_
    repeat walk_at "sw"
    intro pb
    repeat walk_at "sw"
    refine c_f2 o hi ha (op_id1 o ha) ?_
    repeat walk_at "sw"
    refine c_f2 o ha hc rfl ?_
    repeat walk_at "sw"
    refine c_f2 o (opL_lt o.toOk ha hc) hd rfl ?_
    repeat walk_at "sw"
    intro pt
    repeat walk_at "sw"
    refine c_f0 o ?_
    repeat walk_at "sw"
    refine ⟨by simp, by simp, ?_⟩
    repeat walk_at "sw"
    refine c_f2 o (opL_lt o.toOk ha hc) hi (op_id2 o (opL_lt o.toOk ha hc)) ?_
    repeat walk_at "sw"
    refine c_f2 o hi hd (op_id1 o hd) ?_
    repeat walk_at "sw"
    refine c_f2 o ha hd rfl ?_
    repeat walk_at "sw"
    refine c_f2 o hd hc rfl ?_
    repeat walk_at "sw"
    refine c_f2 o hi (opL_lt o.toOk hd hc) (op_id1 o (opL_lt o.toOk hd hc)) ?_
    repeat walk_at "sw"
    refine c_f2 o (opL_lt o.toOk hd hc) ha rfl ?_
    repeat walk_at "sw"
    refine ⟨_, .inr ⟨1, pt, rfl, rfl⟩, ?_⟩
    exact e_keep k
end Cw

set_option Elab.async false
set_option linter.all false
set_option maxRecDepth 100000
set_option maxHeartbeats 0
namespace Cw
open PySem hiding Env
open L2 hiding St
open DL
/-- one step -/
local macro_rules | `(tactic| walk_at "sx") => `(tactic| first | (with_reducible refine i_varH ?_; refine ⟨_, rfl, ?_⟩) | (with_reducible first | refine i_seq ?_ | refine i_asg ?_ | refine i_name ?_ | refine i_bin ?_ | refine i_c ?_ | refine i_fld ?_ | refine i_cons ?_ | refine i_nil ?_ | refine i_if ?_ | refine i_tst ?_ | refine i_ret ?_ | refine i_call ?_ | refine i_meth ?_ | refine i_andT ?_ | refine i_orT ?_ | refine i_notT ?_ | refine i_chain ?_ | refine i_is ?_ | refine i_tup ?_ | refine i_lst ?_ | refine i_cb ?_ | refine i_for ?_ | refine i_next ?_ | refine i_drop ?_ | refine i_andV ?_ | refine i_orV ?_ | refine i_notV ?_ | refine i_ifE ?_ | refine i_lstO ?_ | refine i_setF ?_ | refine i_sub ?_ | refine i_app ?_ | refine i_gtup ?_ | refine i_gcons ?_ | refine i_gnil ?_ | refine i_ilst ?_ | refine i_itup ?_ | refine i_irg ?_ | refine i_irgO ?_ | refine i_irev ?_ | refine i_ienT ?_ | refine i_ienL ?_ | refine i_lRg ?_ | refine i_lc ?_ | refine i_lcO ?_ | refine i_yes ?_ | refine i_retN ?_ | refine i_prop ?_ | refine i_makeO ?_ | refine i_make ?_ | refine i_star ?_) | (with_reducible first | refine q_tst ?_ | refine q_ifT ?_ | refine q_ifF ?_ | refine q_nT ?_ | refine q_nF ?_ | refine q_obj ?_ | refine p_add ?_ | refine p_sub ?_ | refine p_lt ?_ | refine p_le ?_ | refine p_gt ?_ | refine p_leB ?_ | refine p_eqI ?_ | refine p_eqS ?_ | refine p_neI ?_ | refine p_isNy ?_ | refine p_notNy ?_ | refine p_isB ?_ | refine p_notB ?_ | refine p_lenT ?_ | refine p_lenL ?_ | refine p_int ?_ | refine p_tupL ?_ | refine p_lstL ?_ | refine p_lstT ?_) | refine ⟨_, _, .inl rfl, rfl, ?_⟩ | refine p_mul (.inr (by decide)) ?_ | refine p_div ⟨by decide, by decide⟩ ?_ | refine p_mod (by decide) ?_ | (with_reducible refine p_abs ?_) | (with_reducible refine p_max ?_) | (with_reducible refine p_min ?_) | refine q_len rfl ?_ | refine ⟨_, .inl rfl, ?_⟩ | refine ⟨_, rfl, ?_⟩ | refine p_ixL rfl ?_ | refine p_ixT rfl ?_ | refine p_ixO 0 rfl rfl ?_ | refine p_ixO 1 rfl rfl ?_ | refine p_ixO 2 rfl rfl ?_ | refine ⟨_, .inr ⟨_, rfl, rfl⟩, ?_⟩ | refine p_ixO 3 rfl rfl ?_ | refine p_ixO 4 rfl rfl ?_ | refine p_ixO 5 rfl rfl ?_ | refine ⟨_, _, .inr ⟨0, _, rfl, rfl⟩, rfl, ?_⟩ | refine ⟨⟨_, .inr ⟨0, _, rfl, rfl⟩⟩, ?_⟩ | refine ⟨⟨0, _, _, rfl, rfl⟩, ?_⟩ | refine p_lenO 0 rfl ?_ | refine p_tupO 0 rfl ?_ | refine ⟨_, _, .inr ⟨1, _, rfl, rfl⟩, rfl, ?_⟩ | refine ⟨⟨_, .inr ⟨1, _, rfl, rfl⟩⟩, ?_⟩ | refine ⟨⟨1, _, _, rfl, rfl⟩, ?_⟩ | refine p_lenO 1 rfl ?_ | refine p_tupO 1 rfl ?_ | refine ⟨_, _, .inr ⟨2, _, rfl, rfl⟩, rfl, ?_⟩ | refine ⟨⟨_, .inr ⟨2, _, rfl, rfl⟩⟩, ?_⟩ | refine ⟨⟨2, _, _, rfl, rfl⟩, ?_⟩ | refine p_lenO 2 rfl ?_ | refine p_tupO 2 rfl ?_ | refine ⟨_, _, .inr ⟨3, _, rfl, rfl⟩, rfl, ?_⟩ | refine ⟨⟨_, .inr ⟨3, _, rfl, rfl⟩⟩, ?_⟩ | refine ⟨⟨3, _, _, rfl, rfl⟩, ?_⟩ | refine p_lenO 3 rfl ?_ | refine p_tupO 3 rfl ?_ | refine ⟨_, _, .inr ⟨4, _, rfl, rfl⟩, rfl, ?_⟩ | refine ⟨⟨_, .inr ⟨4, _, rfl, rfl⟩⟩, ?_⟩ | refine ⟨⟨4, _, _, rfl, rfl⟩, ?_⟩ | refine p_lenO 4 rfl ?_ | refine p_tupO 4 rfl ?_ | refine ⟨_, _, .inr ⟨5, _, rfl, rfl⟩, rfl, ?_⟩ | refine ⟨⟨_, .inr ⟨5, _, rfl, rfl⟩⟩, ?_⟩ | refine ⟨⟨5, _, _, rfl, rfl⟩, ?_⟩ | refine p_lenO 5 rfl ?_ | refine p_tupO 5 rfl ?_)
local macro_rules | `(tactic| walk_at "sy") => `(tactic| first | walk_at "sx" | refine p_ixT (at_rowsT (by assumption)) ?_ | refine p_ixT (at_range (by assumption)) ?_ | refine p_ixL (at_rowsL (by assumption)) ?_ | refine p_ixL (at_range (by assumption)) ?_ | refine ⟨_, rfl, rfl, ?_⟩ | refine ⟨rfl, ?_⟩ | refine ⟨0, _, _, _, rfl, rfl, .inl ⟨rfl, rfl⟩, ?_⟩ | refine ⟨0, _, _, _, rfl, rfl, .inr ⟨lt_ok rfl, rfl⟩, ?_⟩ | refine ⟨1, _, _, _, rfl, rfl, .inl ⟨rfl, rfl⟩, ?_⟩ | refine ⟨1, _, _, _, rfl, rfl, .inr ⟨lt_ok rfl, rfl⟩, ?_⟩ | refine ⟨2, _, _, _, rfl, rfl, .inl ⟨rfl, rfl⟩, ?_⟩ | refine ⟨2, _, _, _, rfl, rfl, .inr ⟨lt_ok rfl, rfl⟩, ?_⟩ | refine ⟨3, _, _, _, rfl, rfl, .inl ⟨rfl, rfl⟩, ?_⟩ | refine ⟨3, _, _, _, rfl, rfl, .inr ⟨lt_ok rfl, rfl⟩, ?_⟩)
local macro_rules | `(tactic| walk_at "sw") => `(tactic| first | walk_at "sy" | refine i_forc ?_ | refine i_forn ?_ | refine i_lcc ?_ | refine i_lcn ?_ | refine ⟨0, _, _, _, rfl, rfl, rfl, lt_ok rfl, ?_⟩ | refine ⟨1, _, _, _, rfl, rfl, rfl, lt_ok rfl, ?_⟩ | refine ⟨2, _, _, _, rfl, rfl, rfl, lt_ok rfl, ?_⟩ | refine ⟨3, _, _, _, rfl, rfl, rfl, lt_ok rfl, ?_⟩)

/-! ### the upper tree's object -/
abbrev up2 (b : Bool) (wl : List D) : D := .obj .tre [.tup [sgD b, .tup [nD 0, nD 0]], .tup [.tup [sgD b, .tup [nD 1, nD 2]], nD 0, nD 0], .tup [.non, nD 0, nD 0], .tup [nD 1, nD 2], .tup wl]
abbrev up3 (b : Bool) (wl : List D) : D := .obj .tre [.tup [sgD b, .tup [nD 0, nD 0, nD 0]], .tup [.tup [sgD b, .tup [nD 1, nD 2, nD 3]], nD 0, nD 0, nD 0], .tup [.non, nD 0, nD 0, nD 0], .tup [nD 1, nD 2, nD 3], .tup wl]
def upX (b : Bool) : Nat → List D → D
  | 2, wl => up2 b wl
  | 3, wl => up3 b wl
  | _, _ => .non
theorem upX_tre (b : Bool) (m : Nat) (hm : m = 2 ∨ m = 3) (wl : List D) : D.obj .tre (treF (upT b m) wl) = upX b m wl := by
  rcases hm with rfl | rfl
  · rfl
  · rfl
def S_wb : Spd := Pur fun ds r => ∃ (L : Lat) (pr : List D) (b : Bool) (wl : List D) (ws : List Nat), L.Ok ∧ (∀ w ∈ ws, w < L.n) ∧ (ws.length = 2 ∨ ws.length = 3) ∧ ds = [laD L pr, upX b ws.length wl, .lst (ws.map nD)] ∧ r = .lst (nD (fold L b ws) :: ws.map nD)
theorem pl_wb (ds : List D) (st : Sto) (Φ : D → Sto → Prop) (h : S_wb ds st Φ) : ds.length = 3 ∧ W_worths_beneath S_folded (endD Φ) (startD N_worths_beneath ds) st := by
  obtain ⟨rfl, r, ⟨L, pr, b, wl, ws, o, hw, hm, rfl, rfl⟩, k⟩ := h
  refine ⟨rfl, ?_⟩
  show W_worths_beneath _ _ [some _, some _, some _, none, none, none, none, none, none, none] _
  unfold W_worths_beneath
  rcases hm with hm | hm
  · obtain ⟨a, c, rfl⟩ : ∃ a c, ws = [a, c] := by
      match ws, hm with
      | [a, c], _ => exact ⟨a, c, rfl⟩
    repeat walk_at "sw"
    intro pt
    repeat walk_at "sw"
    refine ⟨by simp, by simp, ?_⟩
    repeat walk_at "sw"
    refine c_pur (r := nD (fold L b [a, c])) ⟨L, pr, b, [a, c], o, hw, rfl, rfl⟩ ?_
    repeat walk_at "sw"
    exact e_frz 0 rfl k
  · obtain ⟨a, c, d, rfl⟩ : ∃ a c d, ws = [a, c, d] := by
      match ws, hm with
      | [a, c, d], _ => exact ⟨a, c, d, rfl⟩
    repeat walk_at "sw"
    intro pt
    repeat walk_at "sw"
    refine ⟨by simp, by simp, ?_⟩
    repeat walk_at "sw"
    refine c_pur (r := nD (fold L b [a, c, d])) ⟨L, pr, b, [a, c, d], o, hw, rfl, rfl⟩ ?_
    repeat walk_at "sw"
    exact e_frz 0 rfl k
/-- a leaf's context by what the others fold to -/
def ctxD (L : Lat) (b : Bool) (s : Nat) : D := if b = true then cxD s L.tp else cxD L.bt s
def S_cb : Spd := Pur fun ds r => ∃ (L : Lat) (pr : List D) (b : Bool) (wl : List D) (lo hi : List Nat) (l0 h0 : Nat), L.Ord ∧ (∀ w ∈ lo, w < L.n) ∧ (∀ w ∈ hi, w < L.n) ∧ (lo.length = 2 ∨ lo.length = 3) ∧ hi.length = lo.length ∧
  ds = [laD L pr, upX b lo.length wl, .lst (nD l0 :: lo.map nD), .lst (nD h0 :: hi.map nD)] ∧ r = .lst (cxD L.bt L.tp :: (oth L b (if b = true then lo else hi)).map (ctxD L b))
theorem oth_lt {L : Lat} (o : L.Ok) {b : Bool} {ws : List Nat} (hw : ∀ w ∈ ws, w < L.n) : ∀ w ∈ oth L b ws, w < L.n := by
  unfold oth
  split
  · rename_i a c
    intro w h
    have ha : a < L.n := hw a (by simp)
    have hc : c < L.n := hw c (by simp)
    simp at h
    rcases h with rfl | rfl <;> assumption
  · rename_i a c d
    intro w h
    have ha : a < L.n := hw a (by simp)
    have hc : c < L.n := hw c (by simp)
    have hd : d < L.n := hw d (by simp)
    simp at h
    rcases h with rfl | rfl | rfl
    · exact opL_lt o hd hc
    · exact opL_lt o ha hd
    · exact opL_lt o ha hc
  · intro w h; cases h
theorem c_mt {L : Lat} {pr : List D} {s : Nat} {st : Sto} {Φ : D → Sto → Prop} (o : L.Ord) (hs : s < L.n) (k : Φ (nD s) st) : callD S_meet_of [laD L pr, nD L.tp, nD s] st Φ :=
  c_pur (r := nD s) ⟨L, pr, L.tp, s, rfl, o.tpl, hs, by rw [mt_tp o hs]⟩ k
theorem c_jn {L : Lat} {pr : List D} {s : Nat} {st : Sto} {Φ : D → Sto → Prop} (o : L.Ord) (hs : s < L.n) (k : Φ (nD s) st) : callD S_join_of [laD L pr, nD L.bt, nD s] st Φ :=
  c_pur (r := nD s) ⟨L, pr, L.bt, s, rfl, o.btl, hs, by rw [jn_bt o hs]⟩ k
theorem upX_gen (b : Bool) {m : Nat} (hm : m = 2 ∨ m = 3) (wl : List D) : ∃ sh pa, upX b m wl = .obj .tre [sh, .tup (.tup [sgD b, .tup ((List.range m).map fun i => nD (i + 1))] :: (List.range m).map fun _ => nD 0), pa, .tup ((List.range m).map fun i => nD (i + 1)), .tup wl] := by
  rcases hm with rfl | rfl
  · exact ⟨_, _, rfl⟩
  · exact ⟨_, _, rfl⟩
theorem map_getD (l : List Nat) {m : Nat} (h : l.length = m) : ((List.range m).map fun i => nD (l.getD i 0)) = l.map nD := by
  subst h
  apply List.ext_getElem?
  intro i
  by_cases hi : i < l.length
  · rw [List.getElem?_map, List.getElem?_range hi, List.getElem?_map, List.getElem?_eq_getElem hi]
    simp [List.getD, hi]
  · rw [List.getElem?_eq_none (by rw [len_mr]; omega), List.getElem?_eq_none (by rw [List.length_map]; omega)]
theorem oth_len {L : Lat} {b : Bool} {ws : List Nat} (h : ws.length = 2 ∨ ws.length = 3) : (oth L b ws).length = ws.length := by
  rcases h with h | h
  · match ws, h with
    | [a, c], _ => rfl
  · match ws, h with
    | [a, c, d], _ => rfl
theorem at_succ {x d : D} {l : List D} {i : Nat} (h : l[i]? = some d) : atI (x :: l) ((i + 1 : Nat) : Int) = some d := atI_nat (by simpa using h)
theorem get_mapN {l : List Nat} {i : Nat} (h : i < l.length) : (l.map nD)[i]? = some (nD (l.getD i 0)) := by
  rw [List.getElem?_map, List.getElem?_eq_getElem h]; simp [List.getD, h]
end Cw

set_option Elab.async false
set_option linter.all false
set_option maxRecDepth 100000
set_option maxHeartbeats 0
namespace Cw
open PySem hiding Env
open L2 hiding St
open DL
/-- one step -/
local macro_rules | `(tactic| walk_at "sx") => `(tactic| first | (with_reducible refine i_varH ?_; refine ⟨_, rfl, ?_⟩) | (with_reducible first | refine i_seq ?_ | refine i_asg ?_ | refine i_name ?_ | refine i_bin ?_ | refine i_c ?_ | refine i_fld ?_ | refine i_cons ?_ | refine i_nil ?_ | refine i_if ?_ | refine i_tst ?_ | refine i_ret ?_ | refine i_call ?_ | refine i_meth ?_ | refine i_andT ?_ | refine i_orT ?_ | refine i_notT ?_ | refine i_chain ?_ | refine i_is ?_ | refine i_tup ?_ | refine i_lst ?_ | refine i_cb ?_ | refine i_for ?_ | refine i_next ?_ | refine i_drop ?_ | refine i_andV ?_ | refine i_orV ?_ | refine i_notV ?_ | refine i_ifE ?_ | refine i_lstO ?_ | refine i_setF ?_ | refine i_sub ?_ | refine i_app ?_ | refine i_gtup ?_ | refine i_gcons ?_ | refine i_gnil ?_ | refine i_ilst ?_ | refine i_itup ?_ | refine i_irg ?_ | refine i_irgO ?_ | refine i_irev ?_ | refine i_ienT ?_ | refine i_ienL ?_ | refine i_lRg ?_ | refine i_lc ?_ | refine i_lcO ?_ | refine i_yes ?_ | refine i_retN ?_ | refine i_prop ?_ | refine i_makeO ?_ | refine i_make ?_ | refine i_star ?_) | (with_reducible first | refine q_tst ?_ | refine q_ifT ?_ | refine q_ifF ?_ | refine q_nT ?_ | refine q_nF ?_ | refine q_obj ?_ | refine p_add ?_ | refine p_sub ?_ | refine p_lt ?_ | refine p_le ?_ | refine p_gt ?_ | refine p_leB ?_ | refine p_eqI ?_ | refine p_eqS ?_ | refine p_neI ?_ | refine p_isNy ?_ | refine p_notNy ?_ | refine p_isB ?_ | refine p_notB ?_ | refine p_lenT ?_ | refine p_lenL ?_ | refine p_int ?_ | refine p_tupL ?_ | refine p_lstL ?_ | refine p_lstT ?_) | refine ⟨_, _, .inl rfl, rfl, ?_⟩ | refine p_mul (.inr (by decide)) ?_ | refine p_div ⟨by decide, by decide⟩ ?_ | refine p_mod (by decide) ?_ | (with_reducible refine p_abs ?_) | (with_reducible refine p_max ?_) | (with_reducible refine p_min ?_) | refine q_len rfl ?_ | refine ⟨_, .inl rfl, ?_⟩ | refine ⟨_, rfl, ?_⟩ | refine p_ixL rfl ?_ | refine p_ixT rfl ?_ | refine p_ixO 0 rfl rfl ?_ | refine p_ixO 1 rfl rfl ?_ | refine p_ixO 2 rfl rfl ?_ | refine ⟨_, .inr ⟨_, rfl, rfl⟩, ?_⟩ | refine p_ixO 3 rfl rfl ?_ | refine p_ixO 4 rfl rfl ?_ | refine p_ixO 5 rfl rfl ?_ | refine ⟨_, _, .inr ⟨0, _, rfl, rfl⟩, rfl, ?_⟩ | refine ⟨⟨_, .inr ⟨0, _, rfl, rfl⟩⟩, ?_⟩ | refine ⟨⟨0, _, _, rfl, rfl⟩, ?_⟩ | refine p_lenO 0 rfl ?_ | refine p_tupO 0 rfl ?_ | refine ⟨_, _, .inr ⟨1, _, rfl, rfl⟩, rfl, ?_⟩ | refine ⟨⟨_, .inr ⟨1, _, rfl, rfl⟩⟩, ?_⟩ | refine ⟨⟨1, _, _, rfl, rfl⟩, ?_⟩ | refine p_lenO 1 rfl ?_ | refine p_tupO 1 rfl ?_ | refine ⟨_, _, .inr ⟨2, _, rfl, rfl⟩, rfl, ?_⟩ | refine ⟨⟨_, .inr ⟨2, _, rfl, rfl⟩⟩, ?_⟩ | refine ⟨⟨2, _, _, rfl, rfl⟩, ?_⟩ | refine p_lenO 2 rfl ?_ | refine p_tupO 2 rfl ?_ | refine ⟨_, _, .inr ⟨3, _, rfl, rfl⟩, rfl, ?_⟩ | refine ⟨⟨_, .inr ⟨3, _, rfl, rfl⟩⟩, ?_⟩ | refine ⟨⟨3, _, _, rfl, rfl⟩, ?_⟩ | refine p_lenO 3 rfl ?_ | refine p_tupO 3 rfl ?_ | refine ⟨_, _, .inr ⟨4, _, rfl, rfl⟩, rfl, ?_⟩ | refine ⟨⟨_, .inr ⟨4, _, rfl, rfl⟩⟩, ?_⟩ | refine ⟨⟨4, _, _, rfl, rfl⟩, ?_⟩ | refine p_lenO 4 rfl ?_ | refine p_tupO 4 rfl ?_ | refine ⟨_, _, .inr ⟨5, _, rfl, rfl⟩, rfl, ?_⟩ | refine ⟨⟨_, .inr ⟨5, _, rfl, rfl⟩⟩, ?_⟩ | refine ⟨⟨5, _, _, rfl, rfl⟩, ?_⟩ | refine p_lenO 5 rfl ?_ | refine p_tupO 5 rfl ?_)
local macro_rules | `(tactic| walk_at "sy") => `(tactic| first | walk_at "sx" | refine p_ixT (at_rowsT (by assumption)) ?_ | refine p_ixT (at_range (by assumption)) ?_ | refine p_ixL (at_rowsL (by assumption)) ?_ | refine p_ixL (at_range (by assumption)) ?_ | refine ⟨_, rfl, rfl, ?_⟩ | refine ⟨rfl, ?_⟩ | refine ⟨0, _, _, _, rfl, rfl, .inl ⟨rfl, rfl⟩, ?_⟩ | refine ⟨0, _, _, _, rfl, rfl, .inr ⟨lt_ok rfl, rfl⟩, ?_⟩ | refine ⟨1, _, _, _, rfl, rfl, .inl ⟨rfl, rfl⟩, ?_⟩ | refine ⟨1, _, _, _, rfl, rfl, .inr ⟨lt_ok rfl, rfl⟩, ?_⟩ | refine ⟨2, _, _, _, rfl, rfl, .inl ⟨rfl, rfl⟩, ?_⟩ | refine ⟨2, _, _, _, rfl, rfl, .inr ⟨lt_ok rfl, rfl⟩, ?_⟩ | refine ⟨3, _, _, _, rfl, rfl, .inl ⟨rfl, rfl⟩, ?_⟩ | refine ⟨3, _, _, _, rfl, rfl, .inr ⟨lt_ok rfl, rfl⟩, ?_⟩)
local macro_rules | `(tactic| walk_at "sw") => `(tactic| first | walk_at "sy" | refine i_forc ?_ | refine i_forn ?_ | refine i_lcc ?_ | refine i_lcn ?_ | refine ⟨0, _, _, _, rfl, rfl, rfl, lt_ok rfl, ?_⟩ | refine ⟨1, _, _, _, rfl, rfl, rfl, lt_ok rfl, ?_⟩ | refine ⟨2, _, _, _, rfl, rfl, rfl, lt_ok rfl, ?_⟩ | refine ⟨3, _, _, _, rfl, rfl, rfl, lt_ok rfl, ?_⟩)

theorem sel23 {b : Bool} {e : Env} {st : Sto} {Φ : D → Sto → Prop} {x y z : D} (h1 : e[2]? = some (some x)) (h2 : e[3]? = some (some y)) (h : (if b = true then x else y) = z) (k : Φ z st) : if b = true then wVar 2 e st Φ else wVar 3 e st Φ := by
  subst h
  cases b
  · exact ⟨y, h2, k⟩
  · exact ⟨x, h1, k⟩
theorem map_getC {α : Type} (l : List Nat) {m : Nat} (h : l.length = m) (f : Nat → α) : ((List.range m).map fun i => f (l.getD i 0)) = l.map f := by
  subst h
  apply List.ext_getElem?
  intro i
  by_cases hi : i < l.length
  · rw [List.getElem?_map, List.getElem?_range hi, List.getElem?_map, List.getElem?_eq_getElem hi]
    simp [List.getD, hi]
  · rw [List.getElem?_eq_none (by rw [len_mr]; omega), List.getElem?_eq_none (by rw [List.length_map]; omega)]
theorem ctx_step {m c : Nat} {f : Nat → D} {v x : D} (hc : c < m) (hv : f c = v) : ((x :: (List.range m).map fun i => if i < c then f i else x).set (c + 1) v) = x :: (List.range m).map fun i => if i < c + 1 then f i else x := by
  show x :: ((List.range m).map fun i => if i < c then f i else x).set c v = _
  rw [set_mr hc]
  refine congrArg (x :: ·) (List.map_congr_left fun i _ => ?_)
  by_cases e : i = c
  · subst e
    rw [if_pos rfl, if_pos (by omega), hv]
  · rw [if_neg e]
    by_cases h : i < c
    · rw [if_pos h, if_pos (by omega)]
    · rw [if_neg h, if_neg (by omega)]
theorem pl_cb (ds : List D) (st : Sto) (Φ : D → Sto → Prop) (h : S_cb ds st Φ) : ds.length = 4 ∧ W_contexts_beneath S_folds S_meet_of S_join_of (endD Φ) (startD N_contexts_beneath ds) st := by
  obtain ⟨rfl, r, ⟨L, pr, b, wl, lo, hi, l0, h0, o, hl, hh, hm, hm2, rfl, rfl⟩, k⟩ := h
  obtain ⟨sh, pa, hu⟩ := upX_gen b hm wl
  rw [hu]
  clear hu
  generalize hU : D.obj .tre [sh, .tup (.tup [sgD b, .tup ((List.range lo.length).map fun i => nD (i + 1))] :: (List.range lo.length).map fun _ => nD 0), pa, .tup ((List.range lo.length).map fun i => nD (i + 1)), .tup wl] = U
  -- what is bounded
  obtain ⟨bn, hbn, hb1, hb2⟩ : ∃ bn : List Nat, bn = (if b = true then lo else hi) ∧ (∀ w ∈ bn, w < L.n) ∧ bn.length = lo.length := by
    cases b
    · exact ⟨hi, rfl, hh, hm2⟩
    · exact ⟨lo, rfl, hl, rfl⟩
  rw [← hbn] at k
  have hos := oth_len (L := L) (b := b) (ws := bn) (by rw [hb2]; exact hm)
  have hol := oth_lt (b := b) o.toOk hb1
  rw [hb2] at hos
  generalize hO : oth L b bn = os at k hos hol
  obtain ⟨bl, x0, hB⟩ : ∃ (bl : D) (x0 : Nat), (bl = .lst (nD x0 :: bn.map nD)) ∧ (if b = true then D.lst (nD l0 :: lo.map nD) else D.lst (nD h0 :: hi.map nD)) = bl := by
    cases b
    · exact ⟨_, h0, by rw [hbn]; rfl, rfl⟩
    · exact ⟨_, l0, by rw [hbn]; rfl, rfl⟩
  generalize hLo : D.lst (nD l0 :: lo.map nD) = LO at hB ⊢
  generalize hHi : D.lst (nD h0 :: hi.map nD) = HI at hB ⊢
  generalize hM : lo.length = m at *
  refine ⟨rfl, ?_⟩
  show W_contexts_beneath _ _ _ _ [some _, some _, some _, some _, none, none, none, none, none, none, none, none, none, none, none, none, none] _
  unfold W_contexts_beneath
  subst hU
  repeat walk_at "sy"
  refine ⟨by simp; omega, lc_ind (fun r acc st => acc ++ r.map (fun _ => cxD L.bt L.tp) = cxD L.bt L.tp :: (List.range m).map (fun _ => cxD L.bt L.tp) ∧ st = []) ?_ ?_ _ _ _ ⟨by simp, rfl⟩⟩
  · rintro K d r acc st ⟨e, rfl⟩ hK
    repeat walk_at "sy"
    exact hK _ _ ⟨by rw [← e, List.append_assoc]; rfl, rfl⟩
  rintro acc st ⟨e, rfl⟩
  rw [List.map_nil, List.append_nil] at e
  subst e
  intro pt
  repeat walk_at "sy"
  refine p_ixO 0 rfl (atI_nat rfl) ?_
  repeat walk_at "sy"
  rw [sg_eq]
  refine sel23 rfl rfl hB.2 ?_
  rw [hB.1]
  repeat walk_at "sy"
  refine ⟨by rw [len_mr]; omega, lc_gen (List.range m) (fun i => nD (i + 1)) (fun _ => true) (fun i => nD (bn.getD i 0)) (fun _ _ _ h => h) (fun i hi _ Ψ hΨ => ?_) _ ?_⟩
  · have hi := List.mem_range.mp hi
    repeat walk_at "sy"
    refine p_ixL (at_succ (get_mapN (by omega))) ?_
    exact hΨ
  rw [filter_true, List.nil_append, map_getD bn hb2]
  repeat walk_at "sy"
  refine c_pur (r := .lst (os.map nD)) ⟨L, pr, b, bn, o, hb1, by rw [hb2]; exact hm, rfl, by rw [hO]⟩ ?_
  repeat walk_at "sy"
  have hos2 : ∀ i, i < m → os.getD i 0 < L.n := fun i hi => by
    refine hol _ ?_
    rw [List.getD_eq_getElem?_getD, List.getElem?_eq_getElem (by omega)]
    exact List.getElem_mem _
  refine for_ind (fun r e st => ∃ (c : Nat) (x12 x14 x15 : Option D), r = enumD c (((List.range m).drop c).map fun i => nD (i + 1)) ∧ c ≤ m ∧
    e = [some (laD L pr), some (D.obj .tre [sh, .tup (.tup [sgD b, .tup ((List.range m).map fun i => nD (i + 1))] :: (List.range m).map fun _ => nD 0), pa, .tup ((List.range m).map fun i => nD (i + 1)), .tup wl]), some LO, some HI, some (.own pt), some (.int ((0 : Nat) : Int)),
      some (.tup [sgD b, .tup ((List.range m).map fun i => nD (i + 1))]), some (sgD b), some (.tup ((List.range m).map fun i => nD (i + 1))), some (nD L.bt), some (nD L.tp), some (.lst (nD x0 :: bn.map nD)), x12, some (.lst (os.map nD)), x14, x15, none] ∧
    st = [(pt, .lst (cxD L.bt L.tp :: (List.range m).map fun i => if i < c then ctxD L b (os.getD i 0) else cxD L.bt L.tp))]) ?_ ?_ _ _ _ ⟨0, none, none, none, rfl, Nat.zero_le _, rfl, by simp⟩
  · rintro K d r e st ⟨c, x12, x14, x15, hr, hc, rfl, rfl⟩ hK
    by_cases hlt : c < m
    · rw [range_drop hlt] at hr
      obtain ⟨rfl, rfl⟩ := List.cons.inj hr
      repeat walk_at "sy"
      refine p_ixL (atI_nat (get_mapN (by omega))) ?_
      repeat walk_at "sy"
      refine c_mt o (hos2 c hlt) ?_
      repeat walk_at "sy"
      rw [sg_eq]
      cases b
      · repeat walk_at "sy"
        refine ⟨0, pt, _, c + 1, rfl, rfl, rfl, by simp; omega, hK _ _ ⟨c + 1, some (nD (c + 1)), some (.int (c : Nat)), some (nD (os.getD c 0)), rfl, hlt, rfl, ?_⟩⟩
        refine congrArg (fun l => [(pt, OB.lst l)]) (ctx_step (f := fun i => ctxD L false (os.getD i 0)) hlt rfl)
      · repeat walk_at "sy"
        refine c_jn o (hos2 c hlt) ?_
        repeat walk_at "sy"
        refine ⟨0, pt, _, c + 1, rfl, rfl, rfl, by simp; omega, hK _ _ ⟨c + 1, some (nD (c + 1)), some (.int (c : Nat)), some (nD (os.getD c 0)), rfl, hlt, rfl, ?_⟩⟩
        refine congrArg (fun l => [(pt, OB.lst l)]) (ctx_step (f := fun i => ctxD L true (os.getD i 0)) hlt rfl)
    · rw [range_drop_nil (by omega)] at hr
      cases hr
  rintro e st ⟨c, x12, x14, x15, hr, hc, rfl, rfl⟩
  have hcm : c = m := by
    by_cases hlt : c < m
    · rw [range_drop hlt] at hr; cases hr
    · omega
  subst hcm
  have efin : ((List.range c).map fun i => if i < c then ctxD L b (os.getD i 0) else cxD L.bt L.tp) = os.map (ctxD L b) := by
    rw [← map_getC os hos (ctxD L b)]
    refine List.map_congr_left fun i hi => ?_
    rw [if_pos (List.mem_range.mp hi)]
  rw [efin]
  refine for_ind (fun r e st => ∃ (l : List Nat) (j : Nat) (x5 x6 x7 x8 x9 x10 x11 x12 x13 x14 x15 : Option D), r = enumD j (l.map fun _ => nD 0) ∧
    e = [some (laD L pr), some (D.obj .tre [sh, .tup (.tup [sgD b, .tup ((List.range c).map fun i => nD (i + 1))] :: (List.range c).map fun _ => nD 0), pa, .tup ((List.range c).map fun i => nD (i + 1)), .tup wl]), some LO, some HI, some (.own pt), x5, x6, x7, x8, x9, x10, x11, x12, x13, x14, x15, none] ∧
    st = [(pt, .lst (cxD L.bt L.tp :: os.map (ctxD L b)))]) ?_ ?_ _ _ _ ⟨List.range c, 1, _, _, _, _, _, _, _, _, _, _, _, rfl, rfl, rfl⟩
  · rintro K d r e st ⟨l, j, x5, x6, x7, x8, x9, x10, x11, x12, x13, x14, x15, hr, rfl, rfl⟩ hK
    cases l with
    | nil => cases hr
    | cons a l =>
      obtain ⟨rfl, rfl⟩ := List.cons.inj hr
      repeat walk_at "sy"
      exact hK _ _ ⟨l, j + 1, _, _, _, _, _, _, _, _, _, _, _, rfl, rfl, rfl⟩
  · rintro e st ⟨l, j, x5, x6, x7, x8, x9, x10, x11, x12, x13, x14, x15, hr, rfl, rfl⟩
    repeat walk_at "sy"
    exact e_frz 0 rfl k
end Cw

set_option Elab.async false
set_option linter.all false
set_option maxRecDepth 100000
set_option maxHeartbeats 0
namespace Cw
open PySem hiding Env
open L2 hiding St
open DL
/-- one step -/
local macro_rules | `(tactic| walk_at "sx") => `(tactic| first | (with_reducible refine i_varH ?_; refine ⟨_, rfl, ?_⟩) | (with_reducible first | refine i_seq ?_ | refine i_asg ?_ | refine i_name ?_ | refine i_bin ?_ | refine i_c ?_ | refine i_fld ?_ | refine i_cons ?_ | refine i_nil ?_ | refine i_if ?_ | refine i_tst ?_ | refine i_ret ?_ | refine i_call ?_ | refine i_meth ?_ | refine i_andT ?_ | refine i_orT ?_ | refine i_notT ?_ | refine i_chain ?_ | refine i_is ?_ | refine i_tup ?_ | refine i_lst ?_ | refine i_cb ?_ | refine i_for ?_ | refine i_next ?_ | refine i_drop ?_ | refine i_andV ?_ | refine i_orV ?_ | refine i_notV ?_ | refine i_ifE ?_ | refine i_lstO ?_ | refine i_setF ?_ | refine i_sub ?_ | refine i_app ?_ | refine i_gtup ?_ | refine i_gcons ?_ | refine i_gnil ?_ | refine i_ilst ?_ | refine i_itup ?_ | refine i_irg ?_ | refine i_irgO ?_ | refine i_irev ?_ | refine i_ienT ?_ | refine i_ienL ?_ | refine i_lRg ?_ | refine i_lc ?_ | refine i_lcO ?_ | refine i_yes ?_ | refine i_retN ?_ | refine i_prop ?_ | refine i_makeO ?_ | refine i_make ?_ | refine i_star ?_) | (with_reducible first | refine q_tst ?_ | refine q_ifT ?_ | refine q_ifF ?_ | refine q_nT ?_ | refine q_nF ?_ | refine q_obj ?_ | refine p_add ?_ | refine p_sub ?_ | refine p_lt ?_ | refine p_le ?_ | refine p_gt ?_ | refine p_leB ?_ | refine p_eqI ?_ | refine p_eqS ?_ | refine p_neI ?_ | refine p_isNy ?_ | refine p_notNy ?_ | refine p_isB ?_ | refine p_notB ?_ | refine p_lenT ?_ | refine p_lenL ?_ | refine p_int ?_ | refine p_tupL ?_ | refine p_lstL ?_ | refine p_lstT ?_) | refine ⟨_, _, .inl rfl, rfl, ?_⟩ | refine p_mul (.inr (by decide)) ?_ | refine p_div ⟨by decide, by decide⟩ ?_ | refine p_mod (by decide) ?_ | (with_reducible refine p_abs ?_) | (with_reducible refine p_max ?_) | (with_reducible refine p_min ?_) | refine q_len rfl ?_ | refine ⟨_, .inl rfl, ?_⟩ | refine ⟨_, rfl, ?_⟩ | refine p_ixL rfl ?_ | refine p_ixT rfl ?_ | refine p_ixO 0 rfl rfl ?_ | refine p_ixO 1 rfl rfl ?_ | refine p_ixO 2 rfl rfl ?_ | refine ⟨_, .inr ⟨_, rfl, rfl⟩, ?_⟩ | refine p_ixO 3 rfl rfl ?_ | refine p_ixO 4 rfl rfl ?_ | refine p_ixO 5 rfl rfl ?_ | refine ⟨_, _, .inr ⟨0, _, rfl, rfl⟩, rfl, ?_⟩ | refine ⟨⟨_, .inr ⟨0, _, rfl, rfl⟩⟩, ?_⟩ | refine ⟨⟨0, _, _, rfl, rfl⟩, ?_⟩ | refine p_lenO 0 rfl ?_ | refine p_tupO 0 rfl ?_ | refine ⟨_, _, .inr ⟨1, _, rfl, rfl⟩, rfl, ?_⟩ | refine ⟨⟨_, .inr ⟨1, _, rfl, rfl⟩⟩, ?_⟩ | refine ⟨⟨1, _, _, rfl, rfl⟩, ?_⟩ | refine p_lenO 1 rfl ?_ | refine p_tupO 1 rfl ?_ | refine ⟨_, _, .inr ⟨2, _, rfl, rfl⟩, rfl, ?_⟩ | refine ⟨⟨_, .inr ⟨2, _, rfl, rfl⟩⟩, ?_⟩ | refine ⟨⟨2, _, _, rfl, rfl⟩, ?_⟩ | refine p_lenO 2 rfl ?_ | refine p_tupO 2 rfl ?_ | refine ⟨_, _, .inr ⟨3, _, rfl, rfl⟩, rfl, ?_⟩ | refine ⟨⟨_, .inr ⟨3, _, rfl, rfl⟩⟩, ?_⟩ | refine ⟨⟨3, _, _, rfl, rfl⟩, ?_⟩ | refine p_lenO 3 rfl ?_ | refine p_tupO 3 rfl ?_ | refine ⟨_, _, .inr ⟨4, _, rfl, rfl⟩, rfl, ?_⟩ | refine ⟨⟨_, .inr ⟨4, _, rfl, rfl⟩⟩, ?_⟩ | refine ⟨⟨4, _, _, rfl, rfl⟩, ?_⟩ | refine p_lenO 4 rfl ?_ | refine p_tupO 4 rfl ?_ | refine ⟨_, _, .inr ⟨5, _, rfl, rfl⟩, rfl, ?_⟩ | refine ⟨⟨_, .inr ⟨5, _, rfl, rfl⟩⟩, ?_⟩ | refine ⟨⟨5, _, _, rfl, rfl⟩, ?_⟩ | refine p_lenO 5 rfl ?_ | refine p_tupO 5 rfl ?_)
local macro_rules | `(tactic| walk_at "sy") => `(tactic| first | walk_at "sx" | refine p_ixT (at_rowsT (by assumption)) ?_ | refine p_ixT (at_range (by assumption)) ?_ | refine p_ixL (at_rowsL (by assumption)) ?_ | refine p_ixL (at_range (by assumption)) ?_ | refine ⟨_, rfl, rfl, ?_⟩ | refine ⟨rfl, ?_⟩ | refine ⟨0, _, _, _, rfl, rfl, .inl ⟨rfl, rfl⟩, ?_⟩ | refine ⟨0, _, _, _, rfl, rfl, .inr ⟨lt_ok rfl, rfl⟩, ?_⟩ | refine ⟨1, _, _, _, rfl, rfl, .inl ⟨rfl, rfl⟩, ?_⟩ | refine ⟨1, _, _, _, rfl, rfl, .inr ⟨lt_ok rfl, rfl⟩, ?_⟩ | refine ⟨2, _, _, _, rfl, rfl, .inl ⟨rfl, rfl⟩, ?_⟩ | refine ⟨2, _, _, _, rfl, rfl, .inr ⟨lt_ok rfl, rfl⟩, ?_⟩ | refine ⟨3, _, _, _, rfl, rfl, .inl ⟨rfl, rfl⟩, ?_⟩ | refine ⟨3, _, _, _, rfl, rfl, .inr ⟨lt_ok rfl, rfl⟩, ?_⟩)
local macro_rules | `(tactic| walk_at "sw") => `(tactic| first | walk_at "sy" | refine i_forc ?_ | refine i_forn ?_ | refine i_lcc ?_ | refine i_lcn ?_ | refine ⟨0, _, _, _, rfl, rfl, rfl, lt_ok rfl, ?_⟩ | refine ⟨1, _, _, _, rfl, rfl, rfl, lt_ok rfl, ?_⟩ | refine ⟨2, _, _, _, rfl, rfl, rfl, lt_ok rfl, ?_⟩ | refine ⟨3, _, _, _, rfl, rfl, rfl, lt_ok rfl, ?_⟩)

/-! ### the asking over the upper tree: kn what is known at each leaf -/
abbrev lvsD (m : Nat) : List D := (List.range m).map fun i => nD (i + 1)
section
variable {b : Bool} {m : Nat} {wl : List D} {st : Sto} {R : D → Prop}
theorem q_up3 (hm : m = 2 ∨ m = 3) (h : R (.tup (lvsD m))) : ∃ ds d, FldOf st (upX b m wl) .tre ds ∧ ds[3]? = some d ∧ R d := by
  obtain ⟨sh, pa, e⟩ := upX_gen b hm wl
  exact ⟨_, _, .inl e, rfl, h⟩
theorem q_up1 (hm : m = 2 ∨ m = 3) (h : R (.tup (.tup [sgD b, .tup (lvsD m)] :: (List.range m).map fun _ => nD 0))) : ∃ ds d, FldOf st (upX b m wl) .tre ds ∧ ds[1]? = some d ∧ R d := by
  obtain ⟨sh, pa, e⟩ := upX_gen b hm wl
  exact ⟨_, _, .inl e, rfl, h⟩
theorem q_upO (hm : m = 2 ∨ m = 3) {Q : Prop} (h : Q) : (∃ fs, FldOf st (upX b m wl) .tre fs) ∧ Q := by
  obtain ⟨sh, pa, e⟩ := upX_gen b hm wl
  exact ⟨⟨_, .inl e⟩, h⟩
end
def S_node_at : Spd := Pur fun ds r => ∃ (b : Bool) (m : Nat) (wl road : List D) (i : Nat), (m = 2 ∨ m = 3) ∧ ds = [upX b m wl, .tup road] ∧ ((road = [] ∧ r = nD 0) ∨ (road = [nD i] ∧ i < m ∧ r = nD (i + 1)))
theorem pl_node_at (ds : List D) (st : Sto) (Φ : D → Sto → Prop) (h : S_node_at ds st Φ) : ds.length = 2 ∧ W_Tree_node_at S_is_number (endD Φ) (startD N_Tree_node_at ds) st := by
  obtain ⟨rfl, r, ⟨b, m, wl, road, i, hm, rfl, h⟩, k⟩ := h
  refine ⟨rfl, ?_⟩
  show W_Tree_node_at _ _ [some _, some _, none, none, none] _
  unfold W_Tree_node_at
  rcases h with ⟨rfl, rfl⟩ | ⟨rfl, hi, rfl⟩
  · repeat walk_at "sw"
    exact e_keep k
  · repeat walk_at "sw"
    refine q_up1 hm ?_
    repeat walk_at "sw"
    refine p_ixT at_root ?_
    repeat walk_at "sw"
    refine c_pur (r := .bl true) ⟨_, _, _, rfl, ?_⟩ ?_
    · rw [len_mr, decide_eq_true (by omega)]
    repeat walk_at "sw"
    exact e_keep k
def kbnd (L : Lat) (b : Bool) (kn : List (Option Nat)) : List Nat := kn.map (·.getD (idL L b))
def koth (L : Lat) (b : Bool) (kn : List (Option Nat)) : List Nat := oth L b (kbnd L b kn)
abbrev klo (L : Lat) (kn : List (Option Nat)) : List Nat := kn.map (·.getD L.bt)
abbrev khi (L : Lat) (kn : List (Option Nat)) : List Nat := kn.map (·.getD L.tp)
abbrev askF (L : Lat) (pr : List D) (b : Bool) (wl asked : List D) (dq : Addr) (kn : List (Option Nat)) : List D :=
  [laD L pr, upX b kn.length wl, .tup asked, .own dq, .lst (nD (fold L b (klo L kn)) :: (klo L kn).map nD), .lst (nD (fold L b (khi L kn)) :: (khi L kn).map nD), .lst (cxD L.bt L.tp :: (koth L b kn).map (ctxD L b))]
def KnOk (L : Lat) (kn : List (Option Nat)) : Prop := (kn.length = 2 ∨ kn.length = 3) ∧ ∀ o ∈ kn, ∀ w, o = some w → w < L.n
/-- the dict that holds them -/
structure DK (kvs : List (Key × D)) (kn : List (Option Nat)) : Prop where
  val : ∀ i, i < kn.length → valD kvs (.inl (i : Int)) = (kn.getD i none).map nD
  len : kvs.length ≤ 100
theorem kget_lt {L : Lat} {kn : List (Option Nat)} (h : KnOk L kn) {z : Nat} (hz : z < L.n) : ∀ w ∈ kn.map (·.getD z), w < L.n := fun w hw => by
  obtain ⟨o, ho, rfl⟩ := List.mem_map.mp hw
  cases e : o with
  | none => exact hz
  | some v => exact h.2 o ho v e
theorem map_kn (kn : List (Option Nat)) (z : Nat) : ((List.range kn.length).map fun i => nD ((kn.getD i none).getD z)) = (kn.map (·.getD z)).map nD := by
  apply List.ext_getElem?
  intro i
  by_cases hi : i < kn.length
  · rw [List.getElem?_map, List.getElem?_range hi, List.getElem?_map, List.getElem?_map, List.getElem?_eq_getElem hi]
    simp [List.getD, hi]
  · rw [List.getElem?_eq_none (by rw [len_mr]; omega), List.getElem?_eq_none (by rw [List.length_map, List.length_map]; omega)]
def S_refresh : Spd := fun ds st Φ => ∃ (L : Lat) (pr : List D) (b : Bool) (wl asked rest : List D) (kvs : List (Key × D)) (kn : List (Option Nat)) (a dq : Addr), L.Ord ∧ KnOk L kn ∧ DK kvs kn ∧ (rest.length = 0 ∨ rest.length = 3) ∧ ds = [.own a] ∧
  st = [(a, .ins .ask ([laD L pr, upX b kn.length wl, .tup asked, .own dq] ++ rest)), (dq, .dk kvs)] ∧ Φ .non [(a, .ins .ask (askF L pr b wl asked dq kn)), (dq, .dk kvs)]
theorem getD_map (o : Option Nat) (z : Nat) : (o.map nD).getD (nD z) = nD (o.getD z) := by cases o <;> rfl
theorem kbnd_eq (L : Lat) (b : Bool) (kn : List (Option Nat)) : kbnd L b kn = if b = true then klo L kn else khi L kn := by cases b <;> rfl
theorem pl_refresh (ds : List D) (st : Sto) (Φ : D → Sto → Prop) (h : S_refresh ds st Φ) : ds.length = 1 ∧ W_Asking_refresh_all S_wb S_cb (endD Φ) (startD N_Asking_refresh_all ds) st := by
  obtain ⟨L, pr, b, wl, asked, rest, kvs, kn, a, dq, o, ok, dk, hrest, rfl, rfl, k⟩ := h
  have hm := ok.1
  have hl1 := kget_lt ok o.btl
  have hl2 := kget_lt ok o.tpl
  refine ⟨rfl, ?_⟩
  show W_Asking_refresh_all _ _ _ [some _, none, none, none, none, none] _
  unfold W_Asking_refresh_all
  repeat walk_at "sy"
  refine q_up3 hm ?_
  repeat walk_at "sy"
  rw [len_mr]
  refine ⟨_, ⟨_, rfl, rfl⟩, ?_⟩
  repeat walk_at "sy"
  refine ⟨by omega, by omega, ?_⟩
  rw [intsD_nat]
  refine ⟨by rw [len_mr]; omega, lc_gen (List.range kn.length) nD (fun _ => true) (fun i => nD ((kn.getD i none).getD L.bt)) (fun _ _ _ h => h) (fun i hi _ Ψ hΨ => ?_) _ ?_⟩
  · have hi := List.mem_range.mp hi
    repeat walk_at "sy"
    refine ⟨⟨1, dq, rfl, .inl ⟨kvs, rfl⟩⟩, ?_⟩
    repeat walk_at "sy"
    refine ⟨valD kvs (.inl (i : Int)), ⟨1, dq, rfl, .inl ⟨kvs, .inl i, rfl, rfl, rfl⟩⟩, ?_⟩
    rw [dk.val i hi, getD_map]
    exact hΨ
  rw [filter_true, List.nil_append, map_kn]
  repeat walk_at "sy"
  refine ⟨by omega, by omega, ?_⟩
  rw [intsD_nat]
  refine ⟨by rw [len_mr]; omega, lc_gen (List.range kn.length) nD (fun _ => true) (fun i => nD ((kn.getD i none).getD L.tp)) (fun _ _ _ h => h) (fun i hi _ Ψ hΨ => ?_) _ ?_⟩
  · have hi := List.mem_range.mp hi
    repeat walk_at "sy"
    refine ⟨⟨1, dq, rfl, .inl ⟨kvs, rfl⟩⟩, ?_⟩
    repeat walk_at "sy"
    refine ⟨valD kvs (.inl (i : Int)), ⟨1, dq, rfl, .inl ⟨kvs, .inl i, rfl, rfl, rfl⟩⟩, ?_⟩
    rw [dk.val i hi, getD_map]
    exact hΨ
  rw [filter_true, List.nil_append, map_kn]
  have f1 : ∀ {st : Sto} {Ψ : D → Sto → Prop}, Ψ (.lst (nD (fold L b (klo L kn)) :: (klo L kn).map nD)) st → callD S_wb [laD L pr, upX b kn.length wl, .lst ((klo L kn).map nD)] st Ψ := fun {st Ψ} h =>
    c_pur (r := .lst (nD (fold L b (klo L kn)) :: (klo L kn).map nD)) ⟨L, pr, b, wl, klo L kn, o.toOk, hl1, by rw [List.length_map]; exact hm, by rw [List.length_map], rfl⟩ h
  have f2 : ∀ {st : Sto} {Ψ : D → Sto → Prop}, Ψ (.lst (nD (fold L b (khi L kn)) :: (khi L kn).map nD)) st → callD S_wb [laD L pr, upX b kn.length wl, .lst ((khi L kn).map nD)] st Ψ := fun {st Ψ} h =>
    c_pur (r := .lst (nD (fold L b (khi L kn)) :: (khi L kn).map nD)) ⟨L, pr, b, wl, khi L kn, o.toOk, hl2, by rw [List.length_map]; exact hm, by rw [List.length_map], rfl⟩ h
  have f3 : ∀ {st : Sto} {Ψ : D → Sto → Prop}, Ψ (.lst (cxD L.bt L.tp :: (koth L b kn).map (ctxD L b))) st → callD S_cb [laD L pr, upX b kn.length wl, .lst (nD (fold L b (klo L kn)) :: (klo L kn).map nD), .lst (nD (fold L b (khi L kn)) :: (khi L kn).map nD)] st Ψ := fun {st Ψ} h =>
    c_pur (r := .lst (cxD L.bt L.tp :: (koth L b kn).map (ctxD L b))) ⟨L, pr, b, wl, klo L kn, khi L kn, _, _, o, hl1, hl2, by rw [List.length_map]; exact hm, by rw [List.length_map, List.length_map], by rw [List.length_map], by rw [koth, kbnd_eq]⟩ h
  repeat walk_at "sy"
  refine f1 ?_
  rcases hrest with hrest | hrest
  · have : rest = [] := List.length_eq_zero_iff.mp hrest
    subst this
    repeat walk_at "sy"
    refine f2 ?_
    repeat walk_at "sy"
    refine f3 ?_
    repeat walk_at "sy"
    exact .keep [0, 1] _ (by decide) rfl k
  · obtain ⟨x, y, z, rfl⟩ : ∃ x y z, rest = [x, y, z] := by
      match rest, hrest with
      | [x, y, z], _ => exact ⟨x, y, z, rfl⟩
    repeat walk_at "sy"
    refine f2 ?_
    repeat walk_at "sy"
    refine f3 ?_
    repeat walk_at "sy"
    exact .keep [0, 1] _ (by decide) rfl k
theorem c_refresh {L : Lat} {pr : List D} {b : Bool} {wl asked rest : List D} {kvs : List (Key × D)} {kn : List (Option Nat)} {a dq : Addr} {st : Sto} {Φ : D → Sto → Prop} (o : L.Ord) (ok : KnOk L kn) (dk : DK kvs kn) (hr : rest.length = 0 ∨ rest.length = 3)
    (k : Φ .non ((a, .ins .ask (askF L pr b wl asked dq kn)) :: (dq, .dk kvs) :: st)) : callD S_refresh [.own a] ((a, .ins .ask ([laD L pr, upX b kn.length wl, .tup asked, .own dq] ++ rest)) :: (dq, .dk kvs) :: st) Φ := by
  refine ⟨[0, 1], [_, _], rfl, by decide, L, pr, b, wl, asked, rest, kvs, kn, a, dq, o, ok, dk, hr, rfl, rfl, rfl, ?_⟩
  show Φ .non (((a, _) :: (dq, _) :: st) ++ [])
  rw [List.append_nil]
  exact k
/-! ### the asking's other methods -/
def S_ask_init : Spd := fun ds st Φ => ∃ (L : Lat) (pr : List D) (b : Bool) (m : Nat) (wl : List D) (a : Addr), L.Ord ∧ (m = 2 ∨ m = 3) ∧ ds = [.own a, laD L pr, upX b m wl] ∧ st = [(a, .ins .ask [])] ∧ ∀ dq, Φ .non [(a, .ins .ask (askF L pr b wl [] dq (List.replicate m none))), (dq, .dk [])]
theorem dk_nil (m : Nat) : DK [] (List.replicate m none) := ⟨fun i hi => by
  rw [List.length_replicate] at hi
  have : (List.replicate m (none : Option Nat)).getD i none = none := by simp [List.getD, hi]
  rw [this]; rfl, by decide⟩
theorem kn_nil (L : Lat) {m : Nat} (hm : m = 2 ∨ m = 3) : KnOk L (List.replicate m none) := ⟨by rw [List.length_replicate]; exact hm, fun o h w e => by
  rw [List.eq_of_mem_replicate h] at e; cases e⟩
theorem pl_ask_init (ds : List D) (st : Sto) (Φ : D → Sto → Prop) (h : S_ask_init ds st Φ) : ds.length = 3 ∧ W_Asking_init S_refresh (endD Φ) (startD N_Asking_init ds) st := by
  obtain ⟨L, pr, b, m, wl, a, o, hm, rfl, rfl, k⟩ := h
  have hlen : (List.replicate m (none : Option Nat)).length = m := List.length_replicate
  have ok := kn_nil L hm
  have dk := dk_nil m
  generalize List.replicate m (none : Option Nat) = kn at hlen ok dk k
  subst hlen
  refine ⟨rfl, ?_⟩
  show W_Asking_init _ _ [some _, some _, some _] _
  unfold W_Asking_init
  repeat walk_at "sy"
  intro dq
  repeat walk_at "sy"
  refine c_refresh (kn := kn) (asked := []) (rest := []) (st := []) o ok dk (.inl rfl) ?_
  exact .keep [0, 1] _ (by decide) rfl (k dq)
def S_refuse : Spd := fun ds st Φ => ∃ (L : Lat) (pr : List D) (b : Bool) (wl asked : List D) (kn : List (Option Nat)) (a dq : Addr) (i : Nat), KnOk L kn ∧ i < kn.length ∧ ds = [.own a, nD i] ∧ st = [(a, .ins .ask (askF L pr b wl asked dq kn))] ∧ Φ .non st
theorem pl_refuse (ds : List D) (st : Sto) (Φ : D → Sto → Prop) (h : S_refuse ds st Φ) : ds.length = 2 ∧ W_Asking_refuse_leaf S_num_below (endD Φ) (startD N_Asking_refuse_leaf ds) st := by
  obtain ⟨L, pr, b, wl, asked, kn, a, dq, i, ok, hi, rfl, rfl, k⟩ := h
  have hm := ok.1
  refine ⟨rfl, ?_⟩
  show W_Asking_refuse_leaf _ _ [some _, some _] _
  unfold W_Asking_refuse_leaf
  repeat walk_at "sy"
  refine q_up3 hm ?_
  repeat walk_at "sy"
  refine c_pur (r := .bl true) ⟨_, _, rfl, ?_⟩ ?_
  · rw [len_mr, decide_eq_true (by omega)]
  repeat walk_at "sy"
  exact .keep [0] _ (by decide) rfl k
def ctxP (L : Lat) (b : Bool) (s : Nat) : Nat × Nat := if b = true then (s, L.tp) else (L.bt, s)
theorem ctxD_P (L : Lat) (b : Bool) (s : Nat) : ctxD L b s = cxD (ctxP L b s).1 (ctxP L b s).2 := by cases b <;> rfl
theorem ctxP_lt {L : Lat} (o : L.Ok) {b : Bool} {s : Nat} (hs : s < L.n) : (ctxP L b s).1 < L.n ∧ (ctxP L b s).2 < L.n := by
  cases b
  · exact ⟨o.btl, hs⟩
  · exact ⟨hs, o.tpl⟩
def hgs (L : Lat) (b : Bool) (s : Nat) : Bool := !L.le (ctxP L b s).2 (ctxP L b s).1
def S_leaf_hangs : Spd := fun ds st Φ => ∃ (L : Lat) (pr : List D) (b : Bool) (wl asked : List D) (kn : List (Option Nat)) (a dq : Addr) (i : Nat), L.Ord ∧ KnOk L kn ∧ i < kn.length ∧ ds = [.own a, nD i] ∧ st = [(a, .ins .ask (askF L pr b wl asked dq kn))] ∧ Φ (.bl (hgs L b ((koth L b kn).getD i 0))) st
theorem koth_len {L : Lat} {b : Bool} {kn : List (Option Nat)} (ok : KnOk L kn) : (koth L b kn).length = kn.length := by
  unfold koth
  rw [oth_len (by unfold kbnd; rw [List.length_map]; exact ok.1), kbnd, List.length_map]
theorem koth_lt {L : Lat} (o : L.Ok) {b : Bool} {kn : List (Option Nat)} (ok : KnOk L kn) {i : Nat} (hi : i < kn.length) : (koth L b kn).getD i 0 < L.n := by
  have h := oth_lt (b := b) o (ws := kbnd L b kn) (kget_lt ok (idL_lt o))
  refine h _ ?_
  show (koth L b kn).getD i 0 ∈ koth L b kn
  rw [List.getD_eq_getElem?_getD, List.getElem?_eq_getElem (by rw [koth_len ok]; exact hi)]
  exact List.getElem_mem _
theorem get_map {α : Type} {l : List Nat} {f : Nat → α} {i : Nat} (h : i < l.length) : (l.map f)[i]? = some (f (l.getD i 0)) := by
  rw [List.getElem?_map, List.getElem?_eq_getElem h]; simp [List.getD, h]
theorem pl_leaf_hangs (ds : List D) (st : Sto) (Φ : D → Sto → Prop) (h : S_leaf_hangs ds st Φ) : ds.length = 2 ∧ W_Asking_leaf_hangs S_at_most (endD Φ) (startD N_Asking_leaf_hangs ds) st := by
  obtain ⟨L, pr, b, wl, asked, kn, a, dq, i, o, ok, hi, rfl, rfl, k⟩ := h
  have hm := ok.1
  have hl := koth_len (b := b) ok
  have hs := koth_lt o.toOk (b := b) ok hi
  obtain ⟨hc1, hc2⟩ := ctxP_lt o.toOk (b := b) hs
  refine ⟨rfl, ?_⟩
  show W_Asking_leaf_hangs _ _ [some _, some _, none, none] _
  unfold W_Asking_leaf_hangs
  repeat walk_at "sy"
  refine q_up3 hm ?_
  repeat walk_at "sy"
  refine p_ixL (at_succ (get_map (by omega))) ?_
  rw [ctxD_P]
  repeat walk_at "sy"
  refine c_pur (r := .bl (L.le (ctxP L b ((koth L b kn).getD i 0)).2 (ctxP L b ((koth L b kn).getD i 0)).1)) ⟨L, pr, _, _, rfl, hc2, hc1, rfl⟩ ?_
  repeat walk_at "sy"
  exact .keep [0] _ (by decide) rfl k
def S_bounds_at : Spd := fun ds st Φ => ∃ (L : Lat) (pr : List D) (b : Bool) (wl asked : List D) (kn : List (Option Nat)) (a dq : Addr), KnOk L kn ∧ ds = [.own a, .tup []] ∧ st = [(a, .ins .ask (askF L pr b wl asked dq kn))] ∧ Φ (cxD (fold L b (klo L kn)) (fold L b (khi L kn))) st
theorem pl_bounds_at (ds : List D) (st : Sto) (Φ : D → Sto → Prop) (h : S_bounds_at ds st Φ) : ds.length = 2 ∧ W_Asking_bounds_at S_node_at (endD Φ) (startD N_Asking_bounds_at ds) st := by
  obtain ⟨L, pr, b, wl, asked, kn, a, dq, ok, rfl, rfl, k⟩ := h
  have hm := ok.1
  refine ⟨rfl, ?_⟩
  show W_Asking_bounds_at _ _ [some _, some _, none] _
  unfold W_Asking_bounds_at
  repeat walk_at "sy"
  refine q_upO hm ?_
  repeat walk_at "sy"
  refine c_pur (r := nD 0) ⟨b, _, wl, [], 0, hm, rfl, .inl ⟨rfl, rfl⟩⟩ ?_
  repeat walk_at "sy"
  refine p_ixL (atI_nat rfl) ?_
  repeat walk_at "sy"
  refine p_ixL (atI_nat rfl) ?_
  repeat walk_at "sy"
  exact .keep [0] _ (by decide) rfl k
def S_context_at : Spd := fun ds st Φ => ∃ (L : Lat) (pr : List D) (b : Bool) (wl asked : List D) (kn : List (Option Nat)) (a dq : Addr) (i : Nat), KnOk L kn ∧ i < kn.length ∧ ds = [.own a, rdD i] ∧ st = [(a, .ins .ask (askF L pr b wl asked dq kn))] ∧ Φ (ctxD L b ((koth L b kn).getD i 0)) st
theorem pl_context_at (ds : List D) (st : Sto) (Φ : D → Sto → Prop) (h : S_context_at ds st Φ) : ds.length = 2 ∧ W_Asking_context_at S_node_at (endD Φ) (startD N_Asking_context_at ds) st := by
  obtain ⟨L, pr, b, wl, asked, kn, a, dq, i, ok, hi, rfl, rfl, k⟩ := h
  have hm := ok.1
  have hl := koth_len (b := b) ok
  refine ⟨rfl, ?_⟩
  show W_Asking_context_at _ _ [some _, some _] _
  unfold W_Asking_context_at
  repeat walk_at "sy"
  refine q_upO hm ?_
  repeat walk_at "sy"
  refine c_pur (r := nD (i + 1)) ⟨b, _, wl, [nD i], i, hm, rfl, .inr ⟨rfl, hi, rfl⟩⟩ ?_
  refine p_ixL (at_succ (get_map (by omega))) ?_
  exact .keep [0] _ (by decide) rfl k
/-- the leaves that hang -/
def hangL (L : Lat) (b : Bool) (kn : List (Option Nat)) : List Nat := (List.range kn.length).filter fun i => (kn.getD i none).isNone && hgs L b ((koth L b kn).getD i 0)
def S_hanging_now : Spd := fun ds st Φ => ∃ (L : Lat) (pr : List D) (b : Bool) (wl asked : List D) (kvs : List (Key × D)) (kn : List (Option Nat)) (a dq : Addr), L.Ord ∧ KnOk L kn ∧ DK kvs kn ∧ ds = [.own a] ∧ st = [(a, .ins .ask (askF L pr b wl asked dq kn)), (dq, .dk kvs)] ∧ Φ (.tup ((hangL L b kn).map nD)) st
theorem c_leaf_hangs {L : Lat} {pr : List D} {b : Bool} {wl asked : List D} {kn : List (Option Nat)} {a dq : Addr} {i : Nat} {st : Sto} {Φ : D → Sto → Prop} (o : L.Ord) (ok : KnOk L kn) (hi : i < kn.length) (k : Φ (.bl (hgs L b ((koth L b kn).getD i 0))) ((a, .ins .ask (askF L pr b wl asked dq kn)) :: st)) :
    callD S_leaf_hangs [.own a, nD i] ((a, .ins .ask (askF L pr b wl asked dq kn)) :: st) Φ := by
  refine ⟨[0], [_], rfl, by decide, L, pr, b, wl, asked, kn, a, dq, i, o, ok, hi, rfl, rfl, rfl, ?_⟩
  show Φ _ (((a, _) :: st) ++ [])
  rw [List.append_nil]
  exact k
theorem pl_hanging_now (ds : List D) (st : Sto) (Φ : D → Sto → Prop) (h : S_hanging_now ds st Φ) : ds.length = 1 ∧ W_Asking_hanging_now S_leaf_hangs (endD Φ) (startD N_Asking_hanging_now ds) st := by
  obtain ⟨L, pr, b, wl, asked, kvs, kn, a, dq, o, ok, dk, rfl, rfl, k⟩ := h
  have hm := ok.1
  refine ⟨rfl, ?_⟩
  show W_Asking_hanging_now _ _ [some _, none, none] _
  unfold W_Asking_hanging_now
  repeat walk_at "sy"
  refine q_up3 hm ?_
  repeat walk_at "sy"
  rw [len_mr]
  refine ⟨_, ⟨_, rfl, rfl⟩, ?_⟩
  repeat walk_at "sy"
  refine ⟨by omega, by omega, ?_⟩
  rw [intsD_nat]
  refine ⟨by rw [len_mr]; omega, lc_gen (List.range kn.length) nD (fun i => (kn.getD i none).isNone && hgs L b ((koth L b kn).getD i 0)) nD (fun i hi Θ hΘ => ?_) (fun i hi _ Ψ hΨ => ?_) _ ?_⟩
  · have hi := List.mem_range.mp hi
    repeat walk_at "sy"
    refine ⟨valD kvs (.inl (i : Int)), ⟨1, dq, rfl, .inl ⟨kvs, .inl i, rfl, rfl, rfl⟩⟩, ?_⟩
    rw [dk.val i hi]
    repeat walk_at "sy"
    cases e : kn.getD i none with
    | some w =>
      rw [e] at hΘ
      exact hΘ
    | none =>
      rw [e] at hΘ
      repeat walk_at "sy"
      refine c_leaf_hangs o ok hi ?_
      repeat walk_at "sy"
      exact hΘ
  · repeat walk_at "sy"
    exact hΨ
  · rw [List.nil_append]
    repeat walk_at "sy"
    exact .keep [0, 1] _ (by decide) rfl k
end Cw

set_option Elab.async false
set_option linter.all false
set_option maxRecDepth 100000
set_option maxHeartbeats 0
namespace Cw
open PySem hiding Env
open L2 hiding St
open DL
/-- one step -/
local macro_rules | `(tactic| walk_at "sx") => `(tactic| first | (with_reducible refine i_varH ?_; refine ⟨_, rfl, ?_⟩) | (with_reducible first | refine i_seq ?_ | refine i_asg ?_ | refine i_name ?_ | refine i_bin ?_ | refine i_c ?_ | refine i_fld ?_ | refine i_cons ?_ | refine i_nil ?_ | refine i_if ?_ | refine i_tst ?_ | refine i_ret ?_ | refine i_call ?_ | refine i_meth ?_ | refine i_andT ?_ | refine i_orT ?_ | refine i_notT ?_ | refine i_chain ?_ | refine i_is ?_ | refine i_tup ?_ | refine i_lst ?_ | refine i_cb ?_ | refine i_for ?_ | refine i_next ?_ | refine i_drop ?_ | refine i_andV ?_ | refine i_orV ?_ | refine i_notV ?_ | refine i_ifE ?_ | refine i_lstO ?_ | refine i_setF ?_ | refine i_sub ?_ | refine i_app ?_ | refine i_gtup ?_ | refine i_gcons ?_ | refine i_gnil ?_ | refine i_ilst ?_ | refine i_itup ?_ | refine i_irg ?_ | refine i_irgO ?_ | refine i_irev ?_ | refine i_ienT ?_ | refine i_ienL ?_ | refine i_lRg ?_ | refine i_lc ?_ | refine i_lcO ?_ | refine i_yes ?_ | refine i_retN ?_ | refine i_prop ?_ | refine i_makeO ?_ | refine i_make ?_ | refine i_star ?_) | (with_reducible first | refine q_tst ?_ | refine q_ifT ?_ | refine q_ifF ?_ | refine q_nT ?_ | refine q_nF ?_ | refine q_obj ?_ | refine p_add ?_ | refine p_sub ?_ | refine p_lt ?_ | refine p_le ?_ | refine p_gt ?_ | refine p_leB ?_ | refine p_eqI ?_ | refine p_eqS ?_ | refine p_neI ?_ | refine p_isNy ?_ | refine p_notNy ?_ | refine p_isB ?_ | refine p_notB ?_ | refine p_lenT ?_ | refine p_lenL ?_ | refine p_int ?_ | refine p_tupL ?_ | refine p_lstL ?_ | refine p_lstT ?_) | refine ⟨_, _, .inl rfl, rfl, ?_⟩ | refine p_mul (.inr (by decide)) ?_ | refine p_div ⟨by decide, by decide⟩ ?_ | refine p_mod (by decide) ?_ | (with_reducible refine p_abs ?_) | (with_reducible refine p_max ?_) | (with_reducible refine p_min ?_) | refine q_len rfl ?_ | refine ⟨_, .inl rfl, ?_⟩ | refine ⟨_, rfl, ?_⟩ | refine p_ixL rfl ?_ | refine p_ixT rfl ?_ | refine p_ixO 0 rfl rfl ?_ | refine p_ixO 1 rfl rfl ?_ | refine p_ixO 2 rfl rfl ?_ | refine ⟨_, .inr ⟨_, rfl, rfl⟩, ?_⟩ | refine p_ixO 3 rfl rfl ?_ | refine p_ixO 4 rfl rfl ?_ | refine p_ixO 5 rfl rfl ?_ | refine ⟨_, _, .inr ⟨0, _, rfl, rfl⟩, rfl, ?_⟩ | refine ⟨⟨_, .inr ⟨0, _, rfl, rfl⟩⟩, ?_⟩ | refine ⟨⟨0, _, _, rfl, rfl⟩, ?_⟩ | refine p_lenO 0 rfl ?_ | refine p_tupO 0 rfl ?_ | refine ⟨_, _, .inr ⟨1, _, rfl, rfl⟩, rfl, ?_⟩ | refine ⟨⟨_, .inr ⟨1, _, rfl, rfl⟩⟩, ?_⟩ | refine ⟨⟨1, _, _, rfl, rfl⟩, ?_⟩ | refine p_lenO 1 rfl ?_ | refine p_tupO 1 rfl ?_ | refine ⟨_, _, .inr ⟨2, _, rfl, rfl⟩, rfl, ?_⟩ | refine ⟨⟨_, .inr ⟨2, _, rfl, rfl⟩⟩, ?_⟩ | refine ⟨⟨2, _, _, rfl, rfl⟩, ?_⟩ | refine p_lenO 2 rfl ?_ | refine p_tupO 2 rfl ?_ | refine ⟨_, _, .inr ⟨3, _, rfl, rfl⟩, rfl, ?_⟩ | refine ⟨⟨_, .inr ⟨3, _, rfl, rfl⟩⟩, ?_⟩ | refine ⟨⟨3, _, _, rfl, rfl⟩, ?_⟩ | refine p_lenO 3 rfl ?_ | refine p_tupO 3 rfl ?_ | refine ⟨_, _, .inr ⟨4, _, rfl, rfl⟩, rfl, ?_⟩ | refine ⟨⟨_, .inr ⟨4, _, rfl, rfl⟩⟩, ?_⟩ | refine ⟨⟨4, _, _, rfl, rfl⟩, ?_⟩ | refine p_lenO 4 rfl ?_ | refine p_tupO 4 rfl ?_ | refine ⟨_, _, .inr ⟨5, _, rfl, rfl⟩, rfl, ?_⟩ | refine ⟨⟨_, .inr ⟨5, _, rfl, rfl⟩⟩, ?_⟩ | refine ⟨⟨5, _, _, rfl, rfl⟩, ?_⟩ | refine p_lenO 5 rfl ?_ | refine p_tupO 5 rfl ?_)
local macro_rules | `(tactic| walk_at "sy") => `(tactic| first | walk_at "sx" | refine p_ixT (at_rowsT (by assumption)) ?_ | refine p_ixT (at_range (by assumption)) ?_ | refine p_ixL (at_rowsL (by assumption)) ?_ | refine p_ixL (at_range (by assumption)) ?_ | refine ⟨_, rfl, rfl, ?_⟩ | refine ⟨rfl, ?_⟩ | refine ⟨0, _, _, _, rfl, rfl, .inl ⟨rfl, rfl⟩, ?_⟩ | refine ⟨0, _, _, _, rfl, rfl, .inr ⟨lt_ok rfl, rfl⟩, ?_⟩ | refine ⟨1, _, _, _, rfl, rfl, .inl ⟨rfl, rfl⟩, ?_⟩ | refine ⟨1, _, _, _, rfl, rfl, .inr ⟨lt_ok rfl, rfl⟩, ?_⟩ | refine ⟨2, _, _, _, rfl, rfl, .inl ⟨rfl, rfl⟩, ?_⟩ | refine ⟨2, _, _, _, rfl, rfl, .inr ⟨lt_ok rfl, rfl⟩, ?_⟩ | refine ⟨3, _, _, _, rfl, rfl, .inl ⟨rfl, rfl⟩, ?_⟩ | refine ⟨3, _, _, _, rfl, rfl, .inr ⟨lt_ok rfl, rfl⟩, ?_⟩)
local macro_rules | `(tactic| walk_at "sw") => `(tactic| first | walk_at "sy" | refine i_forc ?_ | refine i_forn ?_ | refine i_lcc ?_ | refine i_lcn ?_ | refine ⟨0, _, _, _, rfl, rfl, rfl, lt_ok rfl, ?_⟩ | refine ⟨1, _, _, _, rfl, rfl, rfl, lt_ok rfl, ?_⟩ | refine ⟨2, _, _, _, rfl, rfl, rfl, lt_ok rfl, ?_⟩ | refine ⟨3, _, _, _, rfl, rfl, rfl, lt_ok rfl, ?_⟩)

/-! ### dicts -/
theorem valD_cons {κ : Type} [DecidableEq κ] (k1 : κ) (d1 : D) (r : List (κ × D)) (k : κ) : valD ((k1, d1) :: r) k = if k1 = k then some d1 else valD r k := by
  by_cases h : k1 = k
  · rw [if_pos h]; simp [valD, h]
  · rw [if_neg h]; simp [valD, List.find?_cons, h]
theorem valD_app {κ : Type} [DecidableEq κ] (k1 : κ) (v : D) (k : κ) : ∀ r : List (κ × D), (r.any fun kv => decide (kv.1 = k1)) = false → valD (r ++ [(k1, v)]) k = if k1 = k then some v else valD r k
  | [], _ => by rw [List.nil_append, valD_cons]
  | (k2, d2) :: r, h => by
    rw [List.any_cons, Bool.or_eq_false_iff] at h
    have ih := valD_app k1 v k r h.2
    rw [List.cons_append, valD_cons, valD_cons, ih]
    by_cases h2 : k2 = k
    · subst h2
      have : ¬ k1 = k2 := fun e => by simp [e] at h
      rw [if_pos rfl, if_neg this]; simp
    · rw [if_neg h2, if_neg h2]
theorem valD_rep {κ : Type} [DecidableEq κ] (k1 : κ) (v : D) (k : κ) : ∀ r : List (κ × D), valD (r.map fun kv => if kv.1 = k1 then (kv.1, v) else kv) k = if (k1 = k ∧ (r.any fun kv => decide (kv.1 = k1)) = true) then some v else valD r k
  | [] => by simp [valD]
  | (k2, d2) :: r => by
    have ih := valD_rep k1 v k r
    rw [List.map_cons, List.any_cons]
    by_cases h : k2 = k1
    · subst h
      simp only [if_pos]
      rw [valD_cons, valD_cons, ih]
      by_cases h2 : k2 = k
      · simp [h2]
      · simp [h2]
    · have hd : decide (k2 = k1) = false := decide_eq_false h
      simp only [if_neg h]
      rw [valD_cons, valD_cons, ih, hd, Bool.false_or]
      by_cases h2 : k2 = k
      · subst h2
        have : ¬ k1 = k2 := fun e => h e.symm
        simp [this]
      · rw [if_neg h2, if_neg h2]
theorem val_put {κ : Type} [DecidableEq κ] (kvs : List (κ × D)) (k1 : κ) (v : D) (k : κ) : valD (putD kvs k1 v) k = if k1 = k then some v else valD kvs k := by
  unfold putD
  by_cases h : (kvs.any fun kv => decide (kv.1 = k1)) = true
  · rw [if_pos h, valD_rep]; simp [h]
  · rw [if_neg h, valD_app _ _ _ _ (Bool.eq_false_iff.mpr h)]
theorem put_len {κ : Type} [DecidableEq κ] (kvs : List (κ × D)) (k1 : κ) (v : D) : (putD kvs k1 v).length ≤ kvs.length + 1 := by
  unfold putD
  split
  · rw [List.length_map]; omega
  · rw [List.length_append]; simp
theorem dk_put {kvs : List (Key × D)} {kn : List (Option Nat)} (dk : DK kvs kn) (hl : kvs.length < 100) {i w : Nat} (hi : i < kn.length) : DK (putD kvs (.inl (i : Int)) (nD w)) (kn.set i (some w)) := by
  refine ⟨fun j hj => ?_, Nat.le_trans (put_len _ _ _) hl⟩
  rw [List.length_set] at hj
  rw [val_put]
  by_cases e : i = j
  · subst e
    rw [if_pos rfl]
    simp [List.getD, hi]
  · rw [if_neg fun h => e (by injection h with h; omega), dk.val j hj]
    simp [List.getD, List.getElem?_set_ne e]
theorem kn_put {L : Lat} {kn : List (Option Nat)} (ok : KnOk L kn) {i w : Nat} (hw : w < L.n) : KnOk L (kn.set i (some w)) := by
  refine ⟨by rw [List.length_set]; exact ok.1, fun o ho v e => ?_⟩
  obtain ⟨j, hj⟩ := List.mem_iff_getElem?.mp ho
  by_cases h : i = j
  · subst h
    by_cases hl : i < kn.length
    · rw [List.getElem?_set_self hl] at hj
      cases hj; cases e; exact hw
    · rw [List.getElem?_eq_none (by simpa using hl)] at hj; cases hj
  · rw [List.getElem?_set_ne h] at hj
    exact ok.2 o (List.mem_of_getElem? hj) v e
/-! ### a leaf is kept -/
def S_set_kept : Spd := fun ds st Φ => ∃ (L : Lat) (pr : List D) (b : Bool) (wl asked : List D) (kvs : List (Key × D)) (kn : List (Option Nat)) (a dq : Addr) (i w : Nat), L.Ord ∧ KnOk L kn ∧ DK kvs kn ∧ kvs.length < 100 ∧ asked.length < 100 ∧ i < kn.length ∧ w < L.n ∧ ds = [.own a, nD i, nD w] ∧
  st = [(a, .ins .ask (askF L pr b wl asked dq kn)), (dq, .dk kvs)] ∧ Φ .non [(a, .ins .ask (askF L pr b wl (asked ++ [nD i]) dq (kn.set i (some w)))), (dq, .dk (putD kvs (.inl (i : Int)) (nD w)))]
theorem pl_set_kept (ds : List D) (st : Sto) (Φ : D → Sto → Prop) (h : S_set_kept ds st Φ) : ds.length = 3 ∧ W_Asking_set_kept S_refresh (endD Φ) (startD N_Asking_set_kept ds) st := by
  obtain ⟨L, pr, b, wl, asked, kvs, kn, a, dq, i, w, o, ok, dk, hkl, hal, hi, hw, rfl, rfl, k⟩ := h
  refine ⟨rfl, ?_⟩
  show W_Asking_set_kept _ _ [some _, some _, some _] _
  unfold W_Asking_set_kept
  repeat walk_at "sy"
  refine ⟨_, ⟨1, dq, rfl, .inl ⟨kvs, .inl i, rfl, rfl, by omega, rfl⟩⟩, ?_⟩
  repeat walk_at "sy"
  refine ⟨asked, .inr rfl, ?_⟩
  repeat walk_at "sy"
  refine ⟨by rw [List.length_append]; show asked.length + 1 ≤ _; omega, ?_⟩
  repeat walk_at "sy"
  have e : (kn.set i (some w)).length = kn.length := List.length_set
  have hk := c_refresh (L := L) (pr := pr) (b := b) (wl := wl) (asked := asked ++ [nD i]) (rest := [.lst (nD (fold L b (klo L kn)) :: (klo L kn).map nD), .lst (nD (fold L b (khi L kn)) :: (khi L kn).map nD), .lst (cxD L.bt L.tp :: (koth L b kn).map (ctxD L b))]) (kvs := putD kvs (.inl (i : Int)) (nD w)) (kn := kn.set i (some w)) (a := a) (dq := dq) (st := []) (Φ := fun x st1 => Fin Φ .non st1) o (kn_put ok hw) (dk_put dk hkl hi) (.inr rfl) (.keep [0, 1] _ (by decide) rfl k)
  rw [e] at hk
  exact hk
theorem c_set_kept {L : Lat} {pr : List D} {b : Bool} {wl asked : List D} {kvs : List (Key × D)} {kn : List (Option Nat)} {a dq : Addr} {i w : Nat} {st : Sto} {Φ : D → Sto → Prop} (o : L.Ord) (ok : KnOk L kn) (dk : DK kvs kn) (hkl : kvs.length < 100) (hal : asked.length < 100) (hi : i < kn.length) (hw : w < L.n)
    (k : Φ .non ((a, .ins .ask (askF L pr b wl (asked ++ [nD i]) dq (kn.set i (some w)))) :: (dq, .dk (putD kvs (.inl (i : Int)) (nD w))) :: st)) : callD S_set_kept [.own a, nD i, nD w] ((a, .ins .ask (askF L pr b wl asked dq kn)) :: (dq, .dk kvs) :: st) Φ := by
  refine ⟨[0, 1], [_, _], rfl, by decide, L, pr, b, wl, asked, kvs, kn, a, dq, i, w, o, ok, dk, hkl, hal, hi, hw, rfl, rfl, rfl, ?_⟩
  show Φ .non (((a, _) :: (dq, _) :: st) ++ [])
  rw [List.append_nil]
  exact k
def S_note_leaf : Spd := fun ds st Φ => ∃ (L : Lat) (pr : List D) (b : Bool) (wl asked : List D) (kvs : List (Key × D)) (kn : List (Option Nat)) (a dq : Addr) (i w : Nat), L.Ord ∧ KnOk L kn ∧ DK kvs kn ∧ kvs.length < 100 ∧ asked.length < 100 ∧ i < kn.length ∧ kn.getD i none = none ∧ w < L.n ∧ ds = [.own a, nD i, nD w] ∧
  st = [(a, .ins .ask (askF L pr b wl asked dq kn)), (dq, .dk kvs)] ∧ Φ .non [(a, .ins .ask (askF L pr b wl (asked ++ [nD i]) dq (kn.set i (some w)))), (dq, .dk (putD kvs (.inl (i : Int)) (nD w)))]
theorem c_refuse {L : Lat} {pr : List D} {b : Bool} {wl asked : List D} {kn : List (Option Nat)} {a dq : Addr} {i : Nat} {st : Sto} {Φ : D → Sto → Prop} (ok : KnOk L kn) (hi : i < kn.length) (k : Φ .non ((a, .ins .ask (askF L pr b wl asked dq kn)) :: st)) : callD S_refuse [.own a, nD i] ((a, .ins .ask (askF L pr b wl asked dq kn)) :: st) Φ := by
  refine ⟨[0], [_], rfl, by decide, L, pr, b, wl, asked, kn, a, dq, i, ok, hi, rfl, rfl, rfl, ?_⟩
  show Φ .non (((a, _) :: st) ++ [])
  rw [List.append_nil]
  exact k
theorem pl_note_leaf (ds : List D) (st : Sto) (Φ : D → Sto → Prop) (h : S_note_leaf ds st Φ) : ds.length = 3 ∧ W_Asking_note_leaf S_refuse S_check_worth S_set_kept (endD Φ) (startD N_Asking_note_leaf ds) st := by
  obtain ⟨L, pr, b, wl, asked, kvs, kn, a, dq, i, w, o, ok, dk, hkl, hal, hi, hno, hw, rfl, rfl, k⟩ := h
  refine ⟨rfl, ?_⟩
  show W_Asking_note_leaf _ _ _ _ [some _, some _, some _] _
  unfold W_Asking_note_leaf
  repeat walk_at "sy"
  refine c_refuse ok hi ?_
  repeat walk_at "sy"
  refine c_pur (r := nD w) ⟨L, pr, w, rfl, hw, rfl⟩ ?_
  repeat walk_at "sy"
  refine ⟨valD kvs (.inl (i : Int)), ⟨1, dq, rfl, .inl ⟨kvs, .inl i, rfl, rfl, rfl⟩⟩, ?_⟩
  rw [dk.val i hi, hno]
  repeat walk_at "sy"
  refine c_set_kept o ok dk hkl hal hi hw ?_
  exact .keep [0, 1] _ (by decide) rfl k
end Cw

set_option Elab.async false
set_option linter.all false
set_option maxRecDepth 100000
set_option maxHeartbeats 0
namespace Cw
open PySem hiding Env
open L2 hiding St
open DL
/-- one step -/
local macro_rules | `(tactic| walk_at "sx") => `(tactic| first | (with_reducible refine i_varH ?_; refine ⟨_, rfl, ?_⟩) | (with_reducible first | refine i_seq ?_ | refine i_asg ?_ | refine i_name ?_ | refine i_bin ?_ | refine i_c ?_ | refine i_fld ?_ | refine i_cons ?_ | refine i_nil ?_ | refine i_if ?_ | refine i_tst ?_ | refine i_ret ?_ | refine i_call ?_ | refine i_meth ?_ | refine i_andT ?_ | refine i_orT ?_ | refine i_notT ?_ | refine i_chain ?_ | refine i_is ?_ | refine i_tup ?_ | refine i_lst ?_ | refine i_cb ?_ | refine i_for ?_ | refine i_next ?_ | refine i_drop ?_ | refine i_andV ?_ | refine i_orV ?_ | refine i_notV ?_ | refine i_ifE ?_ | refine i_lstO ?_ | refine i_setF ?_ | refine i_sub ?_ | refine i_app ?_ | refine i_gtup ?_ | refine i_gcons ?_ | refine i_gnil ?_ | refine i_ilst ?_ | refine i_itup ?_ | refine i_irg ?_ | refine i_irgO ?_ | refine i_irev ?_ | refine i_ienT ?_ | refine i_ienL ?_ | refine i_lRg ?_ | refine i_lc ?_ | refine i_lcO ?_ | refine i_yes ?_ | refine i_retN ?_ | refine i_prop ?_ | refine i_makeO ?_ | refine i_make ?_ | refine i_star ?_) | (with_reducible first | refine q_tst ?_ | refine q_ifT ?_ | refine q_ifF ?_ | refine q_nT ?_ | refine q_nF ?_ | refine q_obj ?_ | refine p_add ?_ | refine p_sub ?_ | refine p_lt ?_ | refine p_le ?_ | refine p_gt ?_ | refine p_leB ?_ | refine p_eqI ?_ | refine p_eqS ?_ | refine p_neI ?_ | refine p_isNy ?_ | refine p_notNy ?_ | refine p_isB ?_ | refine p_notB ?_ | refine p_lenT ?_ | refine p_lenL ?_ | refine p_int ?_ | refine p_tupL ?_ | refine p_lstL ?_ | refine p_lstT ?_) | refine ⟨_, _, .inl rfl, rfl, ?_⟩ | refine p_mul (.inr (by decide)) ?_ | refine p_div ⟨by decide, by decide⟩ ?_ | refine p_mod (by decide) ?_ | (with_reducible refine p_abs ?_) | (with_reducible refine p_max ?_) | (with_reducible refine p_min ?_) | refine q_len rfl ?_ | refine ⟨_, .inl rfl, ?_⟩ | refine ⟨_, rfl, ?_⟩ | refine p_ixL rfl ?_ | refine p_ixT rfl ?_ | refine p_ixO 0 rfl rfl ?_ | refine p_ixO 1 rfl rfl ?_ | refine p_ixO 2 rfl rfl ?_ | refine ⟨_, .inr ⟨_, rfl, rfl⟩, ?_⟩ | refine p_ixO 3 rfl rfl ?_ | refine p_ixO 4 rfl rfl ?_ | refine p_ixO 5 rfl rfl ?_ | refine ⟨_, _, .inr ⟨0, _, rfl, rfl⟩, rfl, ?_⟩ | refine ⟨⟨_, .inr ⟨0, _, rfl, rfl⟩⟩, ?_⟩ | refine ⟨⟨0, _, _, rfl, rfl⟩, ?_⟩ | refine p_lenO 0 rfl ?_ | refine p_tupO 0 rfl ?_ | refine ⟨_, _, .inr ⟨1, _, rfl, rfl⟩, rfl, ?_⟩ | refine ⟨⟨_, .inr ⟨1, _, rfl, rfl⟩⟩, ?_⟩ | refine ⟨⟨1, _, _, rfl, rfl⟩, ?_⟩ | refine p_lenO 1 rfl ?_ | refine p_tupO 1 rfl ?_ | refine ⟨_, _, .inr ⟨2, _, rfl, rfl⟩, rfl, ?_⟩ | refine ⟨⟨_, .inr ⟨2, _, rfl, rfl⟩⟩, ?_⟩ | refine ⟨⟨2, _, _, rfl, rfl⟩, ?_⟩ | refine p_lenO 2 rfl ?_ | refine p_tupO 2 rfl ?_ | refine ⟨_, _, .inr ⟨3, _, rfl, rfl⟩, rfl, ?_⟩ | refine ⟨⟨_, .inr ⟨3, _, rfl, rfl⟩⟩, ?_⟩ | refine ⟨⟨3, _, _, rfl, rfl⟩, ?_⟩ | refine p_lenO 3 rfl ?_ | refine p_tupO 3 rfl ?_ | refine ⟨_, _, .inr ⟨4, _, rfl, rfl⟩, rfl, ?_⟩ | refine ⟨⟨_, .inr ⟨4, _, rfl, rfl⟩⟩, ?_⟩ | refine ⟨⟨4, _, _, rfl, rfl⟩, ?_⟩ | refine p_lenO 4 rfl ?_ | refine p_tupO 4 rfl ?_ | refine ⟨_, _, .inr ⟨5, _, rfl, rfl⟩, rfl, ?_⟩ | refine ⟨⟨_, .inr ⟨5, _, rfl, rfl⟩⟩, ?_⟩ | refine ⟨⟨5, _, _, rfl, rfl⟩, ?_⟩ | refine p_lenO 5 rfl ?_ | refine p_tupO 5 rfl ?_)
local macro_rules | `(tactic| walk_at "sy") => `(tactic| first | walk_at "sx" | refine p_ixT (at_rowsT (by assumption)) ?_ | refine p_ixT (at_range (by assumption)) ?_ | refine p_ixL (at_rowsL (by assumption)) ?_ | refine p_ixL (at_range (by assumption)) ?_ | refine ⟨_, rfl, rfl, ?_⟩ | refine ⟨rfl, ?_⟩ | refine ⟨0, _, _, _, rfl, rfl, .inl ⟨rfl, rfl⟩, ?_⟩ | refine ⟨0, _, _, _, rfl, rfl, .inr ⟨lt_ok rfl, rfl⟩, ?_⟩ | refine ⟨1, _, _, _, rfl, rfl, .inl ⟨rfl, rfl⟩, ?_⟩ | refine ⟨1, _, _, _, rfl, rfl, .inr ⟨lt_ok rfl, rfl⟩, ?_⟩ | refine ⟨2, _, _, _, rfl, rfl, .inl ⟨rfl, rfl⟩, ?_⟩ | refine ⟨2, _, _, _, rfl, rfl, .inr ⟨lt_ok rfl, rfl⟩, ?_⟩ | refine ⟨3, _, _, _, rfl, rfl, .inl ⟨rfl, rfl⟩, ?_⟩ | refine ⟨3, _, _, _, rfl, rfl, .inr ⟨lt_ok rfl, rfl⟩, ?_⟩)
local macro_rules | `(tactic| walk_at "sw") => `(tactic| first | walk_at "sy" | refine i_forc ?_ | refine i_forn ?_ | refine i_lcc ?_ | refine i_lcn ?_ | refine ⟨0, _, _, _, rfl, rfl, rfl, lt_ok rfl, ?_⟩ | refine ⟨1, _, _, _, rfl, rfl, rfl, lt_ok rfl, ?_⟩ | refine ⟨2, _, _, _, rfl, rfl, rfl, lt_ok rfl, ?_⟩ | refine ⟨3, _, _, _, rfl, rfl, rfl, lt_ok rfl, ?_⟩)

/-! ### what is known, sorted -/
abbrev entD (p : Nat × Nat) : D := .tup [rdD p.1, nD p.2]
theorem toPy_ent (p : Nat × Nat) : toPy 7 (entD p) = .tuple [.tuple [.int (p.1 : Int)], .int (p.2 : Int)] := rfl
theorem lt_one (i j : Int) : PySem.W.dataLt (.tuple [.int i]) (.tuple [.int j]) = decide (i < j) := by
  rw [PySem.W.dataLt_tuple, PySem.W.dataLt_cons (by simp [PySem.W.alike])]
  by_cases h : i = j
  · subst h
    rw [if_pos (by simp [PyData.eqv]), decide_eq_false (by omega)]
    exact PyProof.Rows.lex_irrefl _
  · rw [if_neg (by simp [PyData.eqv, h]), PySem.W.dataLt_int]
theorem le_ent {p q : Nat × Nat} (h : p.1 = q.1 → p = q) : PySem.W.dataLe false (toPy 7) (entD p) (entD q) = decide (p.1 ≤ q.1) := by
  show (!PySem.W.dataLt (toPy 7 (entD q)) (toPy 7 (entD p))) = _
  rw [toPy_ent, toPy_ent, PySem.W.dataLt_pair (by simp [PySem.W.alike, PySem.W.alikeAll]) (by simp [PySem.W.alike])]
  by_cases e : p.1 = q.1
  · have := h e
    subst this
    rw [if_pos (by simp [PyData.eqv, PyData.eqvAll]), if_pos (by simp [PyData.eqv])]
    simp
  · have e' : ¬ q.1 = p.1 := fun z => e z.symm
    rw [if_neg (by simp [PyData.eqv, PyData.eqvAll]; omega), lt_one]
    by_cases h2 : p.1 ≤ q.1
    · rw [decide_eq_true h2, decide_eq_false (by omega)]; rfl
    · rw [decide_eq_false h2, decide_eq_true (by omega)]; rfl
def ens (kn : List (Option Nat)) : List (Nat × Nat) := (List.range kn.length).filterMap fun i => (kn.getD i none).map fun w => (i, w)
theorem ens_mem {kn : List (Option Nat)} {p : Nat × Nat} (h : p ∈ ens kn) : p.1 < kn.length ∧ kn.getD p.1 none = some p.2 := by
  unfold ens at h
  obtain ⟨i, hi, he⟩ := List.mem_filterMap.mp h
  cases e : kn.getD i none with
  | none => rw [e] at he; cases he
  | some w =>
    rw [e] at he
    cases he
    exact ⟨List.mem_range.mp hi, e⟩
theorem ens_up (kn : List (Option Nat)) : (ens kn).Pairwise fun p q => p.1 < q.1 := by
  unfold ens
  rw [List.pairwise_filterMap]
  refine List.pairwise_lt_range.imp fun {a a'} h b hb b' hb' => ?_
  cases e : kn.getD a none with
  | none => rw [e] at hb; cases hb
  | some w =>
    cases e' : kn.getD a' none with
    | none => rw [e'] at hb'; cases hb'
    | some w' =>
      rw [e] at hb; rw [e'] at hb'
      cases hb; cases hb'
      exact h
theorem uniq_of_perm {es : List (Nat × Nat)} {kn : List (Option Nat)} (h : es.Perm (ens kn)) : ∀ p ∈ es, ∀ q ∈ es, p.1 = q.1 → p = q := fun p hp q hq e => by
  have h1 := (ens_mem (h.mem_iff.mp hp)).2
  have h2 := (ens_mem (h.mem_iff.mp hq)).2
  rw [e, h2] at h1
  cases p; cases q
  simp at e h1
  rw [e, h1]
theorem sort_ens {es : List (Nat × Nat)} {kn : List (Option Nat)} (h : es.Perm (ens kn)) : sortD (es.map entD) = (ens kn).map entD := by
  unfold sortD
  rw [← List.map_mergeSort (r := fun p q : Nat × Nat => decide (p.1 ≤ q.1)) (f := entD) (fun a ha b hb => (le_ent (uniq_of_perm h a ha b hb)).symm)]
  congr 1
  refine List.Perm.eq_of_pairwise (le := fun p q : Nat × Nat => p.1 ≤ q.1) (fun a b ha hb h1 h2 => uniq_of_perm h a ((List.mergeSort_perm es _).mem_iff.mp ha) b (h.mem_iff.mpr hb) (by omega)) ?_ ((ens_up kn).imp fun h => Nat.le_of_lt h) ((List.mergeSort_perm es _).trans h)
  have := List.pairwise_mergeSort (le := fun p q : Nat × Nat => decide (p.1 ≤ q.1)) (fun a b c h1 h2 => by simp at *; omega) (fun a b => by simp; omega) es
  exact this.imp fun h => by simpa using h
theorem sort_ok (es : List (Nat × Nat)) : SortOk (es.map entD) := by
  refine ⟨fun d hd => ?_, ?_, ?_⟩
  · obtain ⟨p, _, rfl⟩ := List.mem_map.mp hd
    rfl
  · rw [List.map_map]
    exact PySem.W.AllAlike.of (enc := fun p => toPy 7 (entD p)) fun p q => by
      rw [toPy_ent, toPy_ent]; simp [PySem.W.alike, PySem.W.alikeAll]
  · rw [List.map_map]
    exact PySem.W.Sortable.tuples (enc := fun p => toPy 7 (entD p)) fun p => ⟨_, _, toPy_ent p⟩
theorem ens_put {kn : List (Option Nat)} {i w : Nat} (hi : i < kn.length) (hno : kn.getD i none = none) : (ens kn ++ [(i, w)]).Perm (ens (kn.set i (some w))) := by
  have split : List.range kn.length = (List.range kn.length).take i ++ i :: (List.range kn.length).drop (i + 1) := by
    rw [← range_drop hi, List.take_append_drop]
  have same : ∀ (f g : Nat → Option (Nat × Nat)) (l : List Nat), (∀ x ∈ l, f x = g x) → l.filterMap f = l.filterMap g := fun f g l => by
    induction l with
    | nil => intro _; rfl
    | cons a l ih =>
      intro h
      rw [List.filterMap_cons, List.filterMap_cons, h a List.mem_cons_self, ih fun x m => h x (List.mem_cons_of_mem _ m)]
  have t1 : ∀ x ∈ (List.range kn.length).take i, x ≠ i := fun x hx e => by
    subst e
    have := List.mem_take_iff_getElem.mp hx
    obtain ⟨j, hj, hx⟩ := this
    rw [List.getElem_range] at hx
    omega
  have t2 : ∀ x ∈ (List.range kn.length).drop (i + 1), x ≠ i := fun x hx e => by
    have := (drop_gt x hx).1
    omega
  have ne : ∀ x, x ≠ i → (kn.set i (some w)).getD x none = kn.getD x none := fun x hx => by
    simp [List.getD, List.getElem?_set_ne (fun e : i = x => hx e.symm)]
  unfold ens
  rw [List.length_set, split, List.filterMap_append, List.filterMap_append, List.filterMap_cons, List.filterMap_cons, hno]
  rw [same (fun x => ((kn.set i (some w)).getD x none).map fun w => (x, w)) (fun x => (kn.getD x none).map fun w => (x, w)) _ fun x hx => by rw [ne x (t1 x hx)]]
  rw [same (fun x => ((kn.set i (some w)).getD x none).map fun w => (x, w)) (fun x => (kn.getD x none).map fun w => (x, w)) ((List.range kn.length).drop (i + 1)) fun x hx => by rw [ne x (t2 x hx)]]
  have e : (kn.set i (some w)).getD i none = some w := by simp [List.getD, hi]
  rw [e]
  simp only [Option.map_none, Option.map_some]
  generalize ((List.range kn.length).take i).filterMap _ = A
  generalize ((List.range kn.length).drop (i + 1)).filterMap _ = C
  rw [List.append_assoc]
  refine List.Perm.append_left A ?_
  exact List.perm_append_singleton (i, w) C
end Cw

set_option Elab.async false
set_option linter.all false
set_option maxRecDepth 100000
set_option maxHeartbeats 0
namespace Cw
open PySem hiding Env
open L2 hiding St
open DL
/-- one step -/
local macro_rules | `(tactic| walk_at "sx") => `(tactic| first | (with_reducible refine i_varH ?_; refine ⟨_, rfl, ?_⟩) | (with_reducible first | refine i_seq ?_ | refine i_asg ?_ | refine i_name ?_ | refine i_bin ?_ | refine i_c ?_ | refine i_fld ?_ | refine i_cons ?_ | refine i_nil ?_ | refine i_if ?_ | refine i_tst ?_ | refine i_ret ?_ | refine i_call ?_ | refine i_meth ?_ | refine i_andT ?_ | refine i_orT ?_ | refine i_notT ?_ | refine i_chain ?_ | refine i_is ?_ | refine i_tup ?_ | refine i_lst ?_ | refine i_cb ?_ | refine i_for ?_ | refine i_next ?_ | refine i_drop ?_ | refine i_andV ?_ | refine i_orV ?_ | refine i_notV ?_ | refine i_ifE ?_ | refine i_lstO ?_ | refine i_setF ?_ | refine i_sub ?_ | refine i_app ?_ | refine i_gtup ?_ | refine i_gcons ?_ | refine i_gnil ?_ | refine i_ilst ?_ | refine i_itup ?_ | refine i_irg ?_ | refine i_irgO ?_ | refine i_irev ?_ | refine i_ienT ?_ | refine i_ienL ?_ | refine i_lRg ?_ | refine i_lc ?_ | refine i_lcO ?_ | refine i_yes ?_ | refine i_retN ?_ | refine i_prop ?_ | refine i_makeO ?_ | refine i_make ?_ | refine i_star ?_) | (with_reducible first | refine q_tst ?_ | refine q_ifT ?_ | refine q_ifF ?_ | refine q_nT ?_ | refine q_nF ?_ | refine q_obj ?_ | refine p_add ?_ | refine p_sub ?_ | refine p_lt ?_ | refine p_le ?_ | refine p_gt ?_ | refine p_leB ?_ | refine p_eqI ?_ | refine p_eqS ?_ | refine p_neI ?_ | refine p_isNy ?_ | refine p_notNy ?_ | refine p_isB ?_ | refine p_notB ?_ | refine p_lenT ?_ | refine p_lenL ?_ | refine p_int ?_ | refine p_tupL ?_ | refine p_lstL ?_ | refine p_lstT ?_) | refine ⟨_, _, .inl rfl, rfl, ?_⟩ | refine p_mul (.inr (by decide)) ?_ | refine p_div ⟨by decide, by decide⟩ ?_ | refine p_mod (by decide) ?_ | (with_reducible refine p_abs ?_) | (with_reducible refine p_max ?_) | (with_reducible refine p_min ?_) | refine q_len rfl ?_ | refine ⟨_, .inl rfl, ?_⟩ | refine ⟨_, rfl, ?_⟩ | refine p_ixL rfl ?_ | refine p_ixT rfl ?_ | refine p_ixO 0 rfl rfl ?_ | refine p_ixO 1 rfl rfl ?_ | refine p_ixO 2 rfl rfl ?_ | refine ⟨_, .inr ⟨_, rfl, rfl⟩, ?_⟩ | refine p_ixO 3 rfl rfl ?_ | refine p_ixO 4 rfl rfl ?_ | refine p_ixO 5 rfl rfl ?_ | refine ⟨_, _, .inr ⟨0, _, rfl, rfl⟩, rfl, ?_⟩ | refine ⟨⟨_, .inr ⟨0, _, rfl, rfl⟩⟩, ?_⟩ | refine ⟨⟨0, _, _, rfl, rfl⟩, ?_⟩ | refine p_lenO 0 rfl ?_ | refine p_tupO 0 rfl ?_ | refine ⟨_, _, .inr ⟨1, _, rfl, rfl⟩, rfl, ?_⟩ | refine ⟨⟨_, .inr ⟨1, _, rfl, rfl⟩⟩, ?_⟩ | refine ⟨⟨1, _, _, rfl, rfl⟩, ?_⟩ | refine p_lenO 1 rfl ?_ | refine p_tupO 1 rfl ?_ | refine ⟨_, _, .inr ⟨2, _, rfl, rfl⟩, rfl, ?_⟩ | refine ⟨⟨_, .inr ⟨2, _, rfl, rfl⟩⟩, ?_⟩ | refine ⟨⟨2, _, _, rfl, rfl⟩, ?_⟩ | refine p_lenO 2 rfl ?_ | refine p_tupO 2 rfl ?_ | refine ⟨_, _, .inr ⟨3, _, rfl, rfl⟩, rfl, ?_⟩ | refine ⟨⟨_, .inr ⟨3, _, rfl, rfl⟩⟩, ?_⟩ | refine ⟨⟨3, _, _, rfl, rfl⟩, ?_⟩ | refine p_lenO 3 rfl ?_ | refine p_tupO 3 rfl ?_ | refine ⟨_, _, .inr ⟨4, _, rfl, rfl⟩, rfl, ?_⟩ | refine ⟨⟨_, .inr ⟨4, _, rfl, rfl⟩⟩, ?_⟩ | refine ⟨⟨4, _, _, rfl, rfl⟩, ?_⟩ | refine p_lenO 4 rfl ?_ | refine p_tupO 4 rfl ?_ | refine ⟨_, _, .inr ⟨5, _, rfl, rfl⟩, rfl, ?_⟩ | refine ⟨⟨_, .inr ⟨5, _, rfl, rfl⟩⟩, ?_⟩ | refine ⟨⟨5, _, _, rfl, rfl⟩, ?_⟩ | refine p_lenO 5 rfl ?_ | refine p_tupO 5 rfl ?_)
local macro_rules | `(tactic| walk_at "sy") => `(tactic| first | walk_at "sx" | refine p_ixT (at_rowsT (by assumption)) ?_ | refine p_ixT (at_range (by assumption)) ?_ | refine p_ixL (at_rowsL (by assumption)) ?_ | refine p_ixL (at_range (by assumption)) ?_ | refine ⟨_, rfl, rfl, ?_⟩ | refine ⟨rfl, ?_⟩ | refine ⟨0, _, _, _, rfl, rfl, .inl ⟨rfl, rfl⟩, ?_⟩ | refine ⟨0, _, _, _, rfl, rfl, .inr ⟨lt_ok rfl, rfl⟩, ?_⟩ | refine ⟨1, _, _, _, rfl, rfl, .inl ⟨rfl, rfl⟩, ?_⟩ | refine ⟨1, _, _, _, rfl, rfl, .inr ⟨lt_ok rfl, rfl⟩, ?_⟩ | refine ⟨2, _, _, _, rfl, rfl, .inl ⟨rfl, rfl⟩, ?_⟩ | refine ⟨2, _, _, _, rfl, rfl, .inr ⟨lt_ok rfl, rfl⟩, ?_⟩ | refine ⟨3, _, _, _, rfl, rfl, .inl ⟨rfl, rfl⟩, ?_⟩ | refine ⟨3, _, _, _, rfl, rfl, .inr ⟨lt_ok rfl, rfl⟩, ?_⟩)
local macro_rules | `(tactic| walk_at "sw") => `(tactic| first | walk_at "sy" | refine i_forc ?_ | refine i_forn ?_ | refine i_lcc ?_ | refine i_lcn ?_ | refine ⟨0, _, _, _, rfl, rfl, rfl, lt_ok rfl, ?_⟩ | refine ⟨1, _, _, _, rfl, rfl, rfl, lt_ok rfl, ?_⟩ | refine ⟨2, _, _, _, rfl, rfl, rfl, lt_ok rfl, ?_⟩ | refine ⟨3, _, _, _, rfl, rfl, rfl, lt_ok rfl, ?_⟩)

/-! ### the pool -/
structure Jb where
  h : Nat
  i : Nat
  lo : Nat
  hi : Nat
  out : Bool
def stS (b : Bool) : Str := if b = true then "out" else "given"
theorem st_out (b : Bool) : decide (stS b = "out") = b := by cases b <;> decide +kernel
theorem st_giv (b : Bool) : decide (stS b = "given") = !b := by cases b <;> decide +kernel
abbrev jbD (j : Jb) : D := .tup [nD j.h, rdD j.i, cxD j.lo j.hi, .str (stS j.out)]
abbrev knD (kn : List (Option Nat)) : List D := (ens kn).map entD
abbrev poF (L : Lat) (pr tF : List D) (b : Bool) (wl : List D) (kn : List (Option Nat)) (jobs : List Jb) (a : Addr) : List D :=
  [laD L pr, grD tF, .int 1, upX b kn.length wl, .ftp ((List.range kn.length).map rdD), .tup (knD kn), .tup (jobs.map jbD), .own a]
/-- the three objects of a pool -/
abbrev poS (L : Lat) (pr tF : List D) (b : Bool) (wl : List D) (kn : List (Option Nat)) (jobs : List Jb) (asked : List D) (kvs : List (Key × D)) (p a dq : Addr) : Sto :=
  [(p, .ins .pool (poF L pr tF b wl kn jobs a)), (a, .ins .ask (askF L pr b wl asked dq kn)), (dq, .dk kvs)]
theorem c_bounds_at {L : Lat} {pr : List D} {b : Bool} {wl asked : List D} {kn : List (Option Nat)} {a dq : Addr} {q : Addr × OB} {st : Sto} {Φ : D → Sto → Prop} (ok : KnOk L kn) (k : Φ (cxD (fold L b (klo L kn)) (fold L b (khi L kn))) (q :: (a, .ins .ask (askF L pr b wl asked dq kn)) :: st)) : callD S_bounds_at [.own a, .tup []] (q :: (a, .ins .ask (askF L pr b wl asked dq kn)) :: st) Φ := by
  refine ⟨[1], [_], rfl, by decide, L, pr, b, wl, asked, kn, a, dq, ok, rfl, rfl, rfl, ?_⟩
  show Φ _ ((q :: (a, _) :: st) ++ [])
  rw [List.append_nil]
  exact k
theorem c_context_at {L : Lat} {pr : List D} {b : Bool} {wl asked : List D} {kn : List (Option Nat)} {a dq : Addr} {i : Nat} {q : Addr × OB} {st : Sto} {Φ : D → Sto → Prop} (ok : KnOk L kn) (hi : i < kn.length) (k : Φ (ctxD L b ((koth L b kn).getD i 0)) (q :: (a, .ins .ask (askF L pr b wl asked dq kn)) :: st)) : callD S_context_at [.own a, rdD i] (q :: (a, .ins .ask (askF L pr b wl asked dq kn)) :: st) Φ := by
  refine ⟨[1], [_], rfl, by decide, L, pr, b, wl, asked, kn, a, dq, i, ok, hi, rfl, rfl, rfl, ?_⟩
  show Φ _ ((q :: (a, _) :: st) ++ [])
  rw [List.append_nil]
  exact k
theorem c_hanging_now {L : Lat} {pr : List D} {b : Bool} {wl asked : List D} {kvs : List (Key × D)} {kn : List (Option Nat)} {a dq : Addr} {q : Addr × OB} {st : Sto} {Φ : D → Sto → Prop} (o : L.Ord) (ok : KnOk L kn) (dk : DK kvs kn) (k : Φ (.tup ((hangL L b kn).map nD)) (q :: (a, .ins .ask (askF L pr b wl asked dq kn)) :: (dq, .dk kvs) :: st)) :
    callD S_hanging_now [.own a] (q :: (a, .ins .ask (askF L pr b wl asked dq kn)) :: (dq, .dk kvs) :: st) Φ := by
  refine ⟨[1, 2], [_, _], rfl, by decide, L, pr, b, wl, asked, kvs, kn, a, dq, o, ok, dk, rfl, rfl, rfl, ?_⟩
  show Φ _ ((q :: (a, _) :: (dq, _) :: st) ++ [])
  rw [List.append_nil]
  exact k
theorem c_note_leaf {L : Lat} {pr : List D} {b : Bool} {wl asked : List D} {kvs : List (Key × D)} {kn : List (Option Nat)} {a dq : Addr} {i w : Nat} {q : Addr × OB} {st : Sto} {Φ : D → Sto → Prop} (o : L.Ord) (ok : KnOk L kn) (dk : DK kvs kn) (hkl : kvs.length < 100) (hal : asked.length < 100) (hi : i < kn.length) (hno : kn.getD i none = none) (hw : w < L.n)
    (k : Φ .non (q :: (a, .ins .ask (askF L pr b wl (asked ++ [nD i]) dq (kn.set i (some w)))) :: (dq, .dk (putD kvs (.inl (i : Int)) (nD w))) :: st)) : callD S_note_leaf [.own a, nD i, nD w] (q :: (a, .ins .ask (askF L pr b wl asked dq kn)) :: (dq, .dk kvs) :: st) Φ := by
  refine ⟨[1, 2], [_, _], rfl, by decide, L, pr, b, wl, asked, kvs, kn, a, dq, i, w, o, ok, dk, hkl, hal, hi, hno, hw, rfl, rfl, rfl, ?_⟩
  show Φ _ ((q :: (a, _) :: (dq, _) :: st) ++ [])
  rw [List.append_nil]
  exact k
def S_spot_bounds : Spd := fun ds st Φ => ∃ L pr tF b wl kn jobs asked kvs p a dq, KnOk L kn ∧ ds = [.own p, .tup []] ∧ st = poS L pr tF b wl kn jobs asked kvs p a dq ∧ Φ (cxD (fold L b (klo L kn)) (fold L b (khi L kn))) st
theorem pl_spot_bounds (ds : List D) (st : Sto) (Φ : D → Sto → Prop) (h : S_spot_bounds ds st Φ) : ds.length = 2 ∧ W_Pool_spot_bounds S_bounds_at (endD Φ) (startD N_Pool_spot_bounds ds) st := by
  obtain ⟨L, pr, tF, b, wl, kn, jobs, asked, kvs, p, a, dq, ok, rfl, rfl, k⟩ := h
  refine ⟨rfl, ?_⟩
  show W_Pool_spot_bounds _ _ [some _, some _] _
  unfold W_Pool_spot_bounds
  repeat walk_at "sy"
  refine c_bounds_at ok ?_
  exact .keep [0, 1, 2] _ (by decide) rfl k
def S_spot_context : Spd := fun ds st Φ => ∃ L pr tF b wl kn jobs asked kvs p a dq i, KnOk L kn ∧ i < kn.length ∧ ds = [.own p, rdD i] ∧ st = poS L pr tF b wl kn jobs asked kvs p a dq ∧ Φ (ctxD L b ((koth L b kn).getD i 0)) st
theorem pl_spot_context (ds : List D) (st : Sto) (Φ : D → Sto → Prop) (h : S_spot_context ds st Φ) : ds.length = 2 ∧ W_Pool_spot_context S_context_at (endD Φ) (startD N_Pool_spot_context ds) st := by
  obtain ⟨L, pr, tF, b, wl, kn, jobs, asked, kvs, p, a, dq, i, ok, hi, rfl, rfl, k⟩ := h
  refine ⟨rfl, ?_⟩
  show W_Pool_spot_context _ _ [some _, some _] _
  unfold W_Pool_spot_context
  repeat walk_at "sy"
  refine c_context_at ok hi ?_
  exact .keep [0, 1, 2] _ (by decide) rfl k
def S_hsp : Spd := fun ds st Φ => ∃ L pr tF b wl kn jobs asked kvs p a dq, L.Ord ∧ KnOk L kn ∧ DK kvs kn ∧ ds = [.own p] ∧ st = poS L pr tF b wl kn jobs asked kvs p a dq ∧ Φ (.tup ((hangL L b kn).map rdD)) st
theorem hangL_lt {L : Lat} {b : Bool} {kn : List (Option Nat)} : ∀ i ∈ hangL L b kn, i < kn.length ∧ kn.getD i none = none ∧ hgs L b ((koth L b kn).getD i 0) = true := fun i h => by
  obtain ⟨h1, h2⟩ := List.mem_filter.mp h
  rw [Bool.and_eq_true] at h2
  exact ⟨List.mem_range.mp h1, Option.isNone_iff_eq_none.mp h2.1, h2.2⟩
theorem hangL_len {L : Lat} {b : Bool} {kn : List (Option Nat)} (ok : KnOk L kn) : (hangL L b kn).length ≤ 3 := by
  have := List.length_filter_le (fun i => (kn.getD i none).isNone && hgs L b ((koth L b kn).getD i 0)) (List.range kn.length)
  rw [List.length_range] at this
  have := ok.1
  unfold hangL
  omega
theorem pl_hsp (ds : List D) (st : Sto) (Φ : D → Sto → Prop) (h : S_hsp ds st Φ) : ds.length = 1 ∧ W_Pool_hanging_spots S_hanging_now (endD Φ) (startD N_Pool_hanging_spots ds) st := by
  obtain ⟨L, pr, tF, b, wl, kn, jobs, asked, kvs, p, a, dq, o, ok, dk, rfl, rfl, k⟩ := h
  have hl := hangL_len (b := b) ok
  refine ⟨rfl, ?_⟩
  show W_Pool_hanging_spots _ _ [some _, none] _
  unfold W_Pool_hanging_spots
  repeat walk_at "sy"
  refine c_hanging_now o ok dk ?_
  repeat walk_at "sy"
  refine ⟨by rw [List.length_map]; omega, lc_gen (hangL L b kn) nD (fun _ => true) rdD (fun _ _ _ h => h) (fun i hi _ Ψ hΨ => ?_) _ ?_⟩
  · have hi := (hangL_lt i hi).1
    repeat walk_at "sy"
    refine p_ixF (at_range hi) ?_
    exact hΨ
  · rw [filter_true, List.nil_append]
    repeat walk_at "sy"
    exact .keep [0, 1, 2] _ (by decide) rfl k
theorem c_hsp {L : Lat} {pr tF : List D} {b : Bool} {wl asked : List D} {kn : List (Option Nat)} {jobs : List Jb} {kvs : List (Key × D)} {p a dq : Addr} {st : Sto} {Φ : D → Sto → Prop} (o : L.Ord) (ok : KnOk L kn) (dk : DK kvs kn) (k : Φ (.tup ((hangL L b kn).map rdD)) (poS L pr tF b wl kn jobs asked kvs p a dq ++ st)) : callD S_hsp [.own p] (poS L pr tF b wl kn jobs asked kvs p a dq ++ st) Φ := by
  refine ⟨[0, 1, 2], [_, _, _], rfl, by decide, L, pr, tF, b, wl, kn, jobs, asked, kvs, p, a, dq, o, ok, dk, rfl, rfl, rfl, ?_⟩
  show Φ _ ((poS L pr tF b wl kn jobs asked kvs p a dq ++ st) ++ [])
  rw [List.append_nil]
  exact k
def S_is_done : Spd := fun ds st Φ => ∃ L pr tF b wl kn jobs asked kvs p a dq, L.Ord ∧ KnOk L kn ∧ DK kvs kn ∧ ds = [.own p] ∧ st = poS L pr tF b wl kn jobs asked kvs p a dq ∧ Φ (.bl (hangL L b kn).isEmpty) st
theorem pl_is_done (ds : List D) (st : Sto) (Φ : D → Sto → Prop) (h : S_is_done ds st Φ) : ds.length = 1 ∧ W_Pool_is_done S_hsp (endD Φ) (startD N_Pool_is_done ds) st := by
  obtain ⟨L, pr, tF, b, wl, kn, jobs, asked, kvs, p, a, dq, o, ok, dk, rfl, rfl, k⟩ := h
  refine ⟨rfl, ?_⟩
  show W_Pool_is_done _ _ [some _] _
  unfold W_Pool_is_done
  repeat walk_at "sy"
  refine c_hsp (st := []) o ok dk ?_
  repeat walk_at "sy"
  refine ⟨.bl (hangL L b kn).isEmpty, .inr ⟨?_, rfl, _, rfl, ?_⟩, .keep [0, 1, 2] _ (by decide) rfl k⟩
  · refine List.all_eq_true.mpr fun d hd => ?_
    obtain ⟨i, _, rfl⟩ := List.mem_map.mp hd
    rfl
  · cases hangL L b kn with
    | nil => simp
    | cons x xs => simp
def S_job_at : Spd := fun ds st Φ => ∃ L pr tF b wl kn jobs p a q j, jobs[q]? = some j ∧ ds = [.own p, nD q] ∧ st = [(p, .ins .pool (poF L pr tF b wl kn jobs a))] ∧ Φ (jbD j) st
theorem pl_job_at (ds : List D) (st : Sto) (Φ : D → Sto → Prop) (h : S_job_at ds st Φ) : ds.length = 2 ∧ W_Pool_job_at S_is_number (endD Φ) (startD N_Pool_job_at ds) st := by
  obtain ⟨L, pr, tF, b, wl, kn, jobs, p, a, q, j, hj, rfl, rfl, k⟩ := h
  have hq := (List.getElem?_eq_some_iff.mp hj).1
  refine ⟨rfl, ?_⟩
  show W_Pool_job_at _ _ [some _, some _] _
  unfold W_Pool_job_at
  repeat walk_at "sy"
  refine c_pur (r := .bl true) ⟨_, _, _, rfl, ?_⟩ ?_
  · rw [List.length_map, decide_eq_true (by omega)]
  repeat walk_at "sy"
  refine p_ixT (atI_nat (by rw [List.getElem?_map, hj]; rfl)) ?_
  exact .keep [0] _ (by decide) rfl k
def S_set_standing : Spd := fun ds st Φ => ∃ L pr tF b wl kn jobs p a q j, jobs[q]? = some j ∧ ds = [.own p, nD q, .str (stS false)] ∧ st = [(p, .ins .pool (poF L pr tF b wl kn jobs a))] ∧ Φ .non [(p, .ins .pool (poF L pr tF b wl kn (jobs.set q { j with out := false }) a))]
theorem pl_set_standing (ds : List D) (st : Sto) (Φ : D → Sto → Prop) (h : S_set_standing ds st Φ) : ds.length = 3 ∧ W_Pool_set_standing (endD Φ) (startD N_Pool_set_standing ds) st := by
  obtain ⟨L, pr, tF, b, wl, kn, jobs, p, a, q, j, hj, rfl, rfl, k⟩ := h
  have hq := (List.getElem?_eq_some_iff.mp hj).1
  refine ⟨rfl, ?_⟩
  show W_Pool_set_standing  _ [some _, some _, some _, none] _
  unfold W_Pool_set_standing
  repeat walk_at "sy"
  refine ⟨_, _, rfl, .inr rfl, ?_⟩
  intro pj
  repeat walk_at "sy"
  refine p_ixO 1 rfl (atI_nat (by rw [List.getElem?_map, hj]; rfl)) ?_
  repeat walk_at "sy"
  show _ ∨ _
  refine .inr ⟨_, rfl, ?_⟩
  repeat walk_at "sy"
  refine p_catT (by show 3 + 1 ≤ 100000; decide) ?_
  repeat walk_at "sy"
  refine ⟨1, pj, _, q, rfl, rfl, rfl, by rw [List.length_map]; exact hq, ?_⟩
  repeat walk_at "sy"
  refine .keep [0] _ (by decide) rfl ?_
  have e : (jobs.map jbD).set q (.tup [nD j.h, rdD j.i, cxD j.lo j.hi, .str (stS false)]) = (jobs.set q { j with out := false }).map jbD := by
    rw [List.map_set]
  show Φ .non [(p, .ins .pool [laD L pr, grD tF, .int 1, upX b kn.length wl, .ftp ((List.range kn.length).map rdD), .tup (knD kn), .tup ((jobs.map jbD).set q (.tup [nD j.h, rdD j.i, cxD j.lo j.hi, .str (stS false)])), .own a])]
  rw [e]
  exact k
end Cw

set_option Elab.async false
set_option linter.all false
set_option maxRecDepth 100000
set_option maxHeartbeats 0
namespace Cw
open PySem hiding Env
open L2 hiding St
open DL
/-- one step -/
local macro_rules | `(tactic| walk_at "sx") => `(tactic| first | (with_reducible refine i_varH ?_; refine ⟨_, rfl, ?_⟩) | (with_reducible first | refine i_seq ?_ | refine i_asg ?_ | refine i_name ?_ | refine i_bin ?_ | refine i_c ?_ | refine i_fld ?_ | refine i_cons ?_ | refine i_nil ?_ | refine i_if ?_ | refine i_tst ?_ | refine i_ret ?_ | refine i_call ?_ | refine i_meth ?_ | refine i_andT ?_ | refine i_orT ?_ | refine i_notT ?_ | refine i_chain ?_ | refine i_is ?_ | refine i_tup ?_ | refine i_lst ?_ | refine i_cb ?_ | refine i_for ?_ | refine i_next ?_ | refine i_drop ?_ | refine i_andV ?_ | refine i_orV ?_ | refine i_notV ?_ | refine i_ifE ?_ | refine i_lstO ?_ | refine i_setF ?_ | refine i_sub ?_ | refine i_app ?_ | refine i_gtup ?_ | refine i_gcons ?_ | refine i_gnil ?_ | refine i_ilst ?_ | refine i_itup ?_ | refine i_irg ?_ | refine i_irgO ?_ | refine i_irev ?_ | refine i_ienT ?_ | refine i_ienL ?_ | refine i_lRg ?_ | refine i_lc ?_ | refine i_lcO ?_ | refine i_yes ?_ | refine i_retN ?_ | refine i_prop ?_ | refine i_makeO ?_ | refine i_make ?_ | refine i_star ?_) | (with_reducible first | refine q_tst ?_ | refine q_ifT ?_ | refine q_ifF ?_ | refine q_nT ?_ | refine q_nF ?_ | refine q_obj ?_ | refine p_add ?_ | refine p_sub ?_ | refine p_lt ?_ | refine p_le ?_ | refine p_gt ?_ | refine p_leB ?_ | refine p_eqI ?_ | refine p_eqS ?_ | refine p_neI ?_ | refine p_isNy ?_ | refine p_notNy ?_ | refine p_isB ?_ | refine p_notB ?_ | refine p_lenT ?_ | refine p_lenL ?_ | refine p_int ?_ | refine p_tupL ?_ | refine p_lstL ?_ | refine p_lstT ?_) | refine ⟨_, _, .inl rfl, rfl, ?_⟩ | refine p_mul (.inr (by decide)) ?_ | refine p_div ⟨by decide, by decide⟩ ?_ | refine p_mod (by decide) ?_ | (with_reducible refine p_abs ?_) | (with_reducible refine p_max ?_) | (with_reducible refine p_min ?_) | refine q_len rfl ?_ | refine ⟨_, .inl rfl, ?_⟩ | refine ⟨_, rfl, ?_⟩ | refine p_ixL rfl ?_ | refine p_ixT rfl ?_ | refine p_ixO 0 rfl rfl ?_ | refine p_ixO 1 rfl rfl ?_ | refine p_ixO 2 rfl rfl ?_ | refine ⟨_, .inr ⟨_, rfl, rfl⟩, ?_⟩ | refine p_ixO 3 rfl rfl ?_ | refine p_ixO 4 rfl rfl ?_ | refine p_ixO 5 rfl rfl ?_ | refine ⟨_, _, .inr ⟨0, _, rfl, rfl⟩, rfl, ?_⟩ | refine ⟨⟨_, .inr ⟨0, _, rfl, rfl⟩⟩, ?_⟩ | refine ⟨⟨0, _, _, rfl, rfl⟩, ?_⟩ | refine p_lenO 0 rfl ?_ | refine p_tupO 0 rfl ?_ | refine ⟨_, _, .inr ⟨1, _, rfl, rfl⟩, rfl, ?_⟩ | refine ⟨⟨_, .inr ⟨1, _, rfl, rfl⟩⟩, ?_⟩ | refine ⟨⟨1, _, _, rfl, rfl⟩, ?_⟩ | refine p_lenO 1 rfl ?_ | refine p_tupO 1 rfl ?_ | refine ⟨_, _, .inr ⟨2, _, rfl, rfl⟩, rfl, ?_⟩ | refine ⟨⟨_, .inr ⟨2, _, rfl, rfl⟩⟩, ?_⟩ | refine ⟨⟨2, _, _, rfl, rfl⟩, ?_⟩ | refine p_lenO 2 rfl ?_ | refine p_tupO 2 rfl ?_ | refine ⟨_, _, .inr ⟨3, _, rfl, rfl⟩, rfl, ?_⟩ | refine ⟨⟨_, .inr ⟨3, _, rfl, rfl⟩⟩, ?_⟩ | refine ⟨⟨3, _, _, rfl, rfl⟩, ?_⟩ | refine p_lenO 3 rfl ?_ | refine p_tupO 3 rfl ?_ | refine ⟨_, _, .inr ⟨4, _, rfl, rfl⟩, rfl, ?_⟩ | refine ⟨⟨_, .inr ⟨4, _, rfl, rfl⟩⟩, ?_⟩ | refine ⟨⟨4, _, _, rfl, rfl⟩, ?_⟩ | refine p_lenO 4 rfl ?_ | refine p_tupO 4 rfl ?_ | refine ⟨_, _, .inr ⟨5, _, rfl, rfl⟩, rfl, ?_⟩ | refine ⟨⟨_, .inr ⟨5, _, rfl, rfl⟩⟩, ?_⟩ | refine ⟨⟨5, _, _, rfl, rfl⟩, ?_⟩ | refine p_lenO 5 rfl ?_ | refine p_tupO 5 rfl ?_)
local macro_rules | `(tactic| walk_at "sy") => `(tactic| first | walk_at "sx" | refine p_ixT (at_rowsT (by assumption)) ?_ | refine p_ixT (at_range (by assumption)) ?_ | refine p_ixL (at_rowsL (by assumption)) ?_ | refine p_ixL (at_range (by assumption)) ?_ | refine ⟨_, rfl, rfl, ?_⟩ | refine ⟨rfl, ?_⟩ | refine ⟨0, _, _, _, rfl, rfl, .inl ⟨rfl, rfl⟩, ?_⟩ | refine ⟨0, _, _, _, rfl, rfl, .inr ⟨lt_ok rfl, rfl⟩, ?_⟩ | refine ⟨1, _, _, _, rfl, rfl, .inl ⟨rfl, rfl⟩, ?_⟩ | refine ⟨1, _, _, _, rfl, rfl, .inr ⟨lt_ok rfl, rfl⟩, ?_⟩ | refine ⟨2, _, _, _, rfl, rfl, .inl ⟨rfl, rfl⟩, ?_⟩ | refine ⟨2, _, _, _, rfl, rfl, .inr ⟨lt_ok rfl, rfl⟩, ?_⟩ | refine ⟨3, _, _, _, rfl, rfl, .inl ⟨rfl, rfl⟩, ?_⟩ | refine ⟨3, _, _, _, rfl, rfl, .inr ⟨lt_ok rfl, rfl⟩, ?_⟩)
local macro_rules | `(tactic| walk_at "sw") => `(tactic| first | walk_at "sy" | refine i_forc ?_ | refine i_forn ?_ | refine i_lcc ?_ | refine i_lcn ?_ | refine ⟨0, _, _, _, rfl, rfl, rfl, lt_ok rfl, ?_⟩ | refine ⟨1, _, _, _, rfl, rfl, rfl, lt_ok rfl, ?_⟩ | refine ⟨2, _, _, _, rfl, rfl, rfl, lt_ok rfl, ?_⟩ | refine ⟨3, _, _, _, rfl, rfl, rfl, lt_ok rfl, ?_⟩)

/-! ### a spot is noted; a job is taken; a job is given -/
def S_note_spot : Spd := fun ds st Φ => ∃ L pr tF b wl kn jobs asked kvs p a dq i w, L.Ord ∧ KnOk L kn ∧ DK kvs kn ∧ kvs.length < 100 ∧ asked.length < 100 ∧ i < kn.length ∧ kn.getD i none = none ∧ w < L.n ∧ ds = [.own p, rdD i, nD w] ∧ st = poS L pr tF b wl kn jobs asked kvs p a dq ∧ Φ .non (poS L pr tF b wl (kn.set i (some w)) jobs (asked ++ [nD i]) (putD kvs (.inl (i : Int)) (nD w)) p a dq)
theorem pl_note_spot (ds : List D) (st : Sto) (Φ : D → Sto → Prop) (h : S_note_spot ds st Φ) : ds.length = 3 ∧ W_Pool_note_spot S_note_leaf (endD Φ) (startD N_Pool_note_spot ds) st := by
  obtain ⟨L, pr, tF, b, wl, kn, jobs, asked, kvs, p, a, dq, i, w, o, ok, dk, hkl, hal, hi, hno, hw, rfl, rfl, k⟩ := h
  refine ⟨rfl, ?_⟩
  show W_Pool_note_spot _ _ [some _, some _, some _] _
  unfold W_Pool_note_spot
  repeat walk_at "sy"
  refine ⟨?_, i, ?_, ?_, ?_⟩
  · intro d hd
    obtain ⟨x, _, rfl⟩ := List.mem_map.mp hd
    rfl
  · rw [List.getElem?_map, List.getElem?_range hi]; rfl
  · intro m hm e
    rw [List.getElem?_map, List.getElem?_range (by omega)] at e
    simp [rdD, nD] at e
    omega
  repeat walk_at "sy"
  refine c_note_leaf o ok dk hkl hal hi hno hw ?_
  repeat walk_at "sy"
  have hlen : (knD kn).length ≤ 3 := by
    rw [List.length_map]
    have := List.length_filterMap_le (fun i => (kn.getD i none).map fun w => (i, w)) (List.range kn.length)
    rw [List.length_range] at this
    have := ok.1
    unfold ens
    omega
  refine p_catL (by show _ + 1 ≤ 100000; omega) ?_
  have e1 : knD kn ++ [D.tup [rdD i, nD w]] = (ens kn ++ [(i, w)]).map entD := by rw [List.map_append]; rfl
  rw [e1]
  repeat walk_at "sy"
  refine ⟨_, ⟨_, _, rfl, .inl rfl, sort_ok _, rfl⟩, ?_⟩
  rw [sort_ens (ens_put hi hno)]
  repeat walk_at "sy"
  refine .keep [0, 1, 2] _ (by decide) rfl ?_
  have e2 : (kn.set i (some w)).length = kn.length := List.length_set
  unfold poS poF at k
  rw [e2] at k
  exact k
theorem c_note_spot {L : Lat} {pr tF : List D} {b : Bool} {wl asked : List D} {kn : List (Option Nat)} {jobs : List Jb} {kvs : List (Key × D)} {p a dq : Addr} {i w : Nat} {st : Sto} {Φ : D → Sto → Prop} (o : L.Ord) (ok : KnOk L kn) (dk : DK kvs kn) (hkl : kvs.length < 100) (hal : asked.length < 100) (hi : i < kn.length) (hno : kn.getD i none = none) (hw : w < L.n)
    (k : Φ .non (poS L pr tF b wl (kn.set i (some w)) jobs (asked ++ [nD i]) (putD kvs (.inl (i : Int)) (nD w)) p a dq ++ st)) : callD S_note_spot [.own p, rdD i, nD w] (poS L pr tF b wl kn jobs asked kvs p a dq ++ st) Φ := by
  refine ⟨[0, 1, 2], [_, _, _], rfl, by decide, L, pr, tF, b, wl, kn, jobs, asked, kvs, p, a, dq, i, w, o, ok, dk, hkl, hal, hi, hno, hw, rfl, rfl, rfl, ?_⟩
  show Φ _ ((poS L pr tF b wl (kn.set i (some w)) jobs (asked ++ [nD i]) (putD kvs (.inl (i : Int)) (nD w)) p a dq ++ st) ++ [])
  rw [List.append_nil]
  exact k
def S_job_init : Spd := fun ds st Φ => ∃ (a : Addr) (x0 x1 x2 x3 : D), ds = [.own a, x0, x1, x2, x3] ∧ st = [(a, .ins .job [])] ∧ Φ .non [(a, .ins .job [x0, x1, x2, x3])]
theorem pl_job_init (ds : List D) (st : Sto) (Φ : D → Sto → Prop) (h : S_job_init ds st Φ) : ds.length = 5 ∧ W_Job_init (endD Φ) (startD N_Job_init ds) st := by
  obtain ⟨a, x0, x1, x2, x3, rfl, rfl, k⟩ := h
  refine ⟨rfl, ?_⟩
  show W_Job_init  _ [some _, some _, some _, some _, some _] _
  unfold W_Job_init
  repeat walk_at "sy"
  exact .keep [0] _ (by decide) rfl k
/-- the hand's job, if it holds one -/
def heldBy (jobs : List Jb) : List Jb := jobs.filter Jb.out
def freeI (L : Lat) (b : Bool) (kn : List (Option Nat)) (jobs : List Jb) : List Nat := (hangL L b kn).filter fun i => !((heldBy jobs).map Jb.i).contains i
theorem c_spot_context {L : Lat} {pr tF : List D} {b : Bool} {wl asked : List D} {kn : List (Option Nat)} {jobs : List Jb} {kvs : List (Key × D)} {p a dq : Addr} {i : Nat} {st : Sto} {Φ : D → Sto → Prop} (ok : KnOk L kn) (hi : i < kn.length) (k : Φ (ctxD L b ((koth L b kn).getD i 0)) (poS L pr tF b wl kn jobs asked kvs p a dq ++ st)) : callD S_spot_context [.own p, rdD i] (poS L pr tF b wl kn jobs asked kvs p a dq ++ st) Φ := by
  refine ⟨[0, 1, 2], [_, _, _], rfl, by decide, L, pr, tF, b, wl, kn, jobs, asked, kvs, p, a, dq, i, ok, hi, rfl, rfl, rfl, ?_⟩
  show Φ _ ((poS L pr tF b wl kn jobs asked kvs p a dq ++ st) ++ [])
  rw [List.append_nil]
  exact k
def S_take_job : Spd := fun ds st Φ => ∃ L pr tF b wl kn jobs asked kvs p a dq h, L.Ord ∧ KnOk L kn ∧ DK kvs kn ∧ jobs.length < 100 ∧ h < 8 ∧ (∀ j ∈ jobs, j.out = true → j.h ≠ h) ∧ ds = [.own p, nD h] ∧ st = poS L pr tF b wl kn jobs asked kvs p a dq ∧
  ((freeI L b kn jobs = [] ∧ Φ .non (poS L pr tF b wl kn jobs asked kvs p a dq)) ∨ ∃ i is, freeI L b kn jobs = i :: is ∧ ∀ lo hi, cxD lo hi = ctxD L b ((koth L b kn).getD i 0) →
    Φ (.obj .job [nD jobs.length, nD h, rdD i, cxD lo hi]) (poS L pr tF b wl kn (jobs ++ [⟨h, i, lo, hi, true⟩]) asked kvs p a dq))
theorem pl_take_job (ds : List D) (st : Sto) (Φ : D → Sto → Prop) (h : S_take_job ds st Φ) : ds.length = 2 ∧ W_Pool_take_job S_is_number S_hsp S_spot_context S_job_init (endD Φ) (startD N_Pool_take_job ds) st := by
  obtain ⟨L, pr, tF, b, wl, kn, jobs, asked, kvs, p, a, dq, h, o, ok, dk, hj, hh, hno, rfl, rfl, k⟩ := h
  refine ⟨rfl, ?_⟩
  show W_Pool_take_job _ _ _ _ _ [some _, some _, none, none, none, none, none, none] _
  unfold W_Pool_take_job
  repeat walk_at "sy"
  refine c_pur (r := .bl true) ⟨(h : Int), 0, 7, rfl, by rw [decide_eq_true (by omega)]⟩ ?_
  repeat walk_at "sy"
  refine ⟨by rw [List.length_map]; omega, lc_gen jobs jbD Jb.out jbD (fun j hj Θ hΘ => ?_) (fun j hj _ Ψ hΨ => ?_) _ ?_⟩
  · repeat walk_at "sy"
    rw [show decide (stS j.out = Str.ofString "out") = j.out from st_out j.out]
    exact hΘ
  · repeat walk_at "sy"
    exact hΨ
  rw [List.nil_append, show jobs.filter Jb.out = heldBy jobs from rfl]
  have hhl : (heldBy jobs).length ≤ jobs.length := List.length_filter_le _ _
  repeat walk_at "sy"
  refine ⟨by rw [List.length_map]; omega, lc_gen (heldBy jobs) jbD (fun _ => true) (fun j => nD j.h) (fun _ _ _ h => h) (fun j hj _ Ψ hΨ => ?_) _ ?_⟩
  · repeat walk_at "sy"
    exact hΨ
  rw [filter_true, List.nil_append]
  have hin : decide ((h : Int) ∈ (heldBy jobs).map fun j => (j.h : Int)) = false := by
    refine decide_eq_false fun hm => ?_
    obtain ⟨j, hj, e⟩ := List.mem_map.mp hm
    obtain ⟨h1, h2⟩ := List.mem_filter.mp hj
    exact hno j h1 h2 (by omega)
  have em : (heldBy jobs).map (fun j => nD j.h) = ((heldBy jobs).map fun j => (j.h : Int)).map D.int := by rw [List.map_map]; rfl
  rw [em]
  repeat walk_at "sy"
  refine ⟨_, .inl ⟨(h : Int), _, rfl, .inl (.inl rfl), rfl⟩, ?_⟩
  rw [if_neg (by decide), hin]
  repeat walk_at "sy"
  refine ⟨by rw [List.length_map]; omega, lc_gen (heldBy jobs) jbD (fun _ => true) (fun j => rdD j.i) (fun _ _ _ h => h) (fun j hj _ Ψ hΨ => ?_) _ ?_⟩
  · repeat walk_at "sy"
    exact hΨ
  rw [filter_true, List.nil_append]
  repeat walk_at "sy"
  refine c_hsp (st := []) o ok dk ?_
  repeat walk_at "sy"
  refine for_ind (fun l e st => ∃ (r : List Nat) (x : Option D), l = r.map rdD ∧ e = [some (.own p), some (nD h), some (.lst ((heldBy jobs).map jbD)), some (.lst ((heldBy jobs).map fun j => rdD j.i)), x, none, none, none] ∧ st = poS L pr tF b wl kn jobs asked kvs p a dq ∧ (∀ i ∈ r, i ∈ hangL L b kn) ∧ freeI L b kn jobs = r.filter fun i => !((heldBy jobs).map Jb.i).contains i) ?_ ?_ _ _ _ ⟨hangL L b kn, none, rfl, rfl, rfl, fun _ h => h, rfl⟩
  · rintro K d r' e st ⟨r, x, hl, rfl, rfl, hr, hfree⟩ hK
    cases r with
    | nil => cases hl
    | cons i r =>
      obtain ⟨rfl, rfl⟩ := List.cons.inj hl
      have hi := hangL_lt i (hr i List.mem_cons_self)
      repeat walk_at "sy"
      refine ⟨.bl (!((heldBy jobs).map Jb.i).contains i), .inr ⟨_, .inl rfl, rfl, ?_, ((heldBy jobs).map Jb.i).contains i, rfl, ?_⟩, ?_⟩
      · intro d hd
        obtain ⟨j, _, rfl⟩ := List.mem_map.mp hd
        rfl
      · rw [List.contains_iff_mem]
        constructor
        · intro hm
          obtain ⟨j, hj, e⟩ := List.mem_map.mp hm
          exact List.mem_map.mpr ⟨j, hj, by rw [e]⟩
        · intro hm
          obtain ⟨j, hj, e⟩ := List.mem_map.mp hm
          refine List.mem_map.mpr ⟨j, hj, ?_⟩
          simp [rdD, nD] at e
          omega
      refine ⟨_, rfl, ?_⟩
      cases hc : ((heldBy jobs).map Jb.i).contains i with
      | true =>
        rw [if_neg (by decide)]
        refine hK _ _ ⟨r, _, rfl, rfl, rfl, fun z hz => hr z (List.mem_cons_of_mem _ hz), ?_⟩
        rw [hfree, List.filter_cons, hc]
        rfl
      | false =>
        rw [if_pos (by decide)]
        repeat walk_at "sy"
        refine c_spot_context (st := []) ok hi.1 ?_
        repeat walk_at "sy"
        refine p_catT (by rw [List.length_map]; show _ + 1 ≤ 100000; omega) ?_
        repeat walk_at "sy"
        intro pj
        refine ⟨[3], [_], rfl, by decide, pj, _, _, _, _, rfl, rfl, rfl, ?_⟩
        refine ⟨rfl, 3, _, rfl, ?_⟩
        refine .keep [0, 1, 2] _ (by decide) rfl ?_
        obtain ⟨lo, hi', hcx⟩ : ∃ lo hi', cxD lo hi' = ctxD L b ((koth L b kn).getD i 0) := by
          cases b
          · exact ⟨_, _, rfl⟩
          · exact ⟨_, _, rfl⟩
        rcases k with ⟨e, _⟩ | ⟨i', is, e, k⟩
        · rw [hfree, List.filter_cons, hc] at e; cases e
        · rw [hfree, List.filter_cons, hc] at e
          obtain ⟨rfl, _⟩ := List.cons.inj e
          have k := k lo hi' hcx
          rw [← hcx, List.length_map]
          unfold poS poF at k
          rw [List.map_append] at k
          exact k
  · rintro e st ⟨r, x, hl, rfl, rfl, hr, hfree⟩
    cases r with
    | cons i r => cases hl
    | nil =>
      repeat walk_at "sy"
      refine .keep [0, 1, 2] _ (by decide) rfl ?_
      rcases k with ⟨_, k⟩ | ⟨i, is, e, _⟩
      · exact k
      · rw [hfree] at e; cases e
end Cw

set_option Elab.async false
set_option linter.all false
set_option maxRecDepth 100000
set_option maxHeartbeats 0
namespace Cw
open PySem hiding Env
open L2 hiding St
open DL
/-- one step -/
local macro_rules | `(tactic| walk_at "sx") => `(tactic| first | (with_reducible refine i_varH ?_; refine ⟨_, rfl, ?_⟩) | (with_reducible first | refine i_seq ?_ | refine i_asg ?_ | refine i_name ?_ | refine i_bin ?_ | refine i_c ?_ | refine i_fld ?_ | refine i_cons ?_ | refine i_nil ?_ | refine i_if ?_ | refine i_tst ?_ | refine i_ret ?_ | refine i_call ?_ | refine i_meth ?_ | refine i_andT ?_ | refine i_orT ?_ | refine i_notT ?_ | refine i_chain ?_ | refine i_is ?_ | refine i_tup ?_ | refine i_lst ?_ | refine i_cb ?_ | refine i_for ?_ | refine i_next ?_ | refine i_drop ?_ | refine i_andV ?_ | refine i_orV ?_ | refine i_notV ?_ | refine i_ifE ?_ | refine i_lstO ?_ | refine i_setF ?_ | refine i_sub ?_ | refine i_app ?_ | refine i_gtup ?_ | refine i_gcons ?_ | refine i_gnil ?_ | refine i_ilst ?_ | refine i_itup ?_ | refine i_irg ?_ | refine i_irgO ?_ | refine i_irev ?_ | refine i_ienT ?_ | refine i_ienL ?_ | refine i_lRg ?_ | refine i_lc ?_ | refine i_lcO ?_ | refine i_yes ?_ | refine i_retN ?_ | refine i_prop ?_ | refine i_makeO ?_ | refine i_make ?_ | refine i_star ?_) | (with_reducible first | refine q_tst ?_ | refine q_ifT ?_ | refine q_ifF ?_ | refine q_nT ?_ | refine q_nF ?_ | refine q_obj ?_ | refine p_add ?_ | refine p_sub ?_ | refine p_lt ?_ | refine p_le ?_ | refine p_gt ?_ | refine p_leB ?_ | refine p_eqI ?_ | refine p_eqS ?_ | refine p_neI ?_ | refine p_isNy ?_ | refine p_notNy ?_ | refine p_isB ?_ | refine p_notB ?_ | refine p_lenT ?_ | refine p_lenL ?_ | refine p_int ?_ | refine p_tupL ?_ | refine p_lstL ?_ | refine p_lstT ?_) | refine ⟨_, _, .inl rfl, rfl, ?_⟩ | refine p_mul (.inr (by decide)) ?_ | refine p_div ⟨by decide, by decide⟩ ?_ | refine p_mod (by decide) ?_ | (with_reducible refine p_abs ?_) | (with_reducible refine p_max ?_) | (with_reducible refine p_min ?_) | refine q_len rfl ?_ | refine ⟨_, .inl rfl, ?_⟩ | refine ⟨_, rfl, ?_⟩ | refine p_ixL rfl ?_ | refine p_ixT rfl ?_ | refine p_ixO 0 rfl rfl ?_ | refine p_ixO 1 rfl rfl ?_ | refine p_ixO 2 rfl rfl ?_ | refine ⟨_, .inr ⟨_, rfl, rfl⟩, ?_⟩ | refine p_ixO 3 rfl rfl ?_ | refine p_ixO 4 rfl rfl ?_ | refine p_ixO 5 rfl rfl ?_ | refine ⟨_, _, .inr ⟨0, _, rfl, rfl⟩, rfl, ?_⟩ | refine ⟨⟨_, .inr ⟨0, _, rfl, rfl⟩⟩, ?_⟩ | refine ⟨⟨0, _, _, rfl, rfl⟩, ?_⟩ | refine p_lenO 0 rfl ?_ | refine p_tupO 0 rfl ?_ | refine ⟨_, _, .inr ⟨1, _, rfl, rfl⟩, rfl, ?_⟩ | refine ⟨⟨_, .inr ⟨1, _, rfl, rfl⟩⟩, ?_⟩ | refine ⟨⟨1, _, _, rfl, rfl⟩, ?_⟩ | refine p_lenO 1 rfl ?_ | refine p_tupO 1 rfl ?_ | refine ⟨_, _, .inr ⟨2, _, rfl, rfl⟩, rfl, ?_⟩ | refine ⟨⟨_, .inr ⟨2, _, rfl, rfl⟩⟩, ?_⟩ | refine ⟨⟨2, _, _, rfl, rfl⟩, ?_⟩ | refine p_lenO 2 rfl ?_ | refine p_tupO 2 rfl ?_ | refine ⟨_, _, .inr ⟨3, _, rfl, rfl⟩, rfl, ?_⟩ | refine ⟨⟨_, .inr ⟨3, _, rfl, rfl⟩⟩, ?_⟩ | refine ⟨⟨3, _, _, rfl, rfl⟩, ?_⟩ | refine p_lenO 3 rfl ?_ | refine p_tupO 3 rfl ?_ | refine ⟨_, _, .inr ⟨4, _, rfl, rfl⟩, rfl, ?_⟩ | refine ⟨⟨_, .inr ⟨4, _, rfl, rfl⟩⟩, ?_⟩ | refine ⟨⟨4, _, _, rfl, rfl⟩, ?_⟩ | refine p_lenO 4 rfl ?_ | refine p_tupO 4 rfl ?_ | refine ⟨_, _, .inr ⟨5, _, rfl, rfl⟩, rfl, ?_⟩ | refine ⟨⟨_, .inr ⟨5, _, rfl, rfl⟩⟩, ?_⟩ | refine ⟨⟨5, _, _, rfl, rfl⟩, ?_⟩ | refine p_lenO 5 rfl ?_ | refine p_tupO 5 rfl ?_)
local macro_rules | `(tactic| walk_at "sy") => `(tactic| first | walk_at "sx" | refine p_ixT (at_rowsT (by assumption)) ?_ | refine p_ixT (at_range (by assumption)) ?_ | refine p_ixL (at_rowsL (by assumption)) ?_ | refine p_ixL (at_range (by assumption)) ?_ | refine ⟨_, rfl, rfl, ?_⟩ | refine ⟨rfl, ?_⟩ | refine ⟨0, _, _, _, rfl, rfl, .inl ⟨rfl, rfl⟩, ?_⟩ | refine ⟨0, _, _, _, rfl, rfl, .inr ⟨lt_ok rfl, rfl⟩, ?_⟩ | refine ⟨1, _, _, _, rfl, rfl, .inl ⟨rfl, rfl⟩, ?_⟩ | refine ⟨1, _, _, _, rfl, rfl, .inr ⟨lt_ok rfl, rfl⟩, ?_⟩ | refine ⟨2, _, _, _, rfl, rfl, .inl ⟨rfl, rfl⟩, ?_⟩ | refine ⟨2, _, _, _, rfl, rfl, .inr ⟨lt_ok rfl, rfl⟩, ?_⟩ | refine ⟨3, _, _, _, rfl, rfl, .inl ⟨rfl, rfl⟩, ?_⟩ | refine ⟨3, _, _, _, rfl, rfl, .inr ⟨lt_ok rfl, rfl⟩, ?_⟩)
local macro_rules | `(tactic| walk_at "sw") => `(tactic| first | walk_at "sy" | refine i_forc ?_ | refine i_forn ?_ | refine i_lcc ?_ | refine i_lcn ?_ | refine ⟨0, _, _, _, rfl, rfl, rfl, lt_ok rfl, ?_⟩ | refine ⟨1, _, _, _, rfl, rfl, rfl, lt_ok rfl, ?_⟩ | refine ⟨2, _, _, _, rfl, rfl, rfl, lt_ok rfl, ?_⟩ | refine ⟨3, _, _, _, rfl, rfl, rfl, lt_ok rfl, ?_⟩)

/-! ### a job is given back -/
theorem c_job_at {L : Lat} {pr tF : List D} {b : Bool} {wl asked : List D} {kn : List (Option Nat)} {jobs : List Jb} {kvs : List (Key × D)} {p a dq : Addr} {q : Nat} {j : Jb} {st : Sto} {Φ : D → Sto → Prop} (hj : jobs[q]? = some j) (k : Φ (jbD j) (poS L pr tF b wl kn jobs asked kvs p a dq ++ st)) : callD S_job_at [.own p, nD q] (poS L pr tF b wl kn jobs asked kvs p a dq ++ st) Φ :=
  ⟨[0], [_], rfl, by decide, L, pr, tF, b, wl, kn, jobs, p, a, q, j, hj, rfl, rfl, rfl, by
    show Φ _ ((poS L pr tF b wl kn jobs asked kvs p a dq ++ st) ++ [])
    rw [List.append_nil]
    exact k⟩
theorem c_set_standing {L : Lat} {pr tF : List D} {b : Bool} {wl asked : List D} {kn : List (Option Nat)} {jobs : List Jb} {kvs : List (Key × D)} {p a dq : Addr} {q : Nat} {j : Jb} {st : Sto} {Φ : D → Sto → Prop} (hj : jobs[q]? = some j) (k : Φ .non (poS L pr tF b wl kn (jobs.set q { j with out := false }) asked kvs p a dq ++ st)) : callD S_set_standing [.own p, nD q, .str (Str.ofString "given")] (poS L pr tF b wl kn jobs asked kvs p a dq ++ st) Φ :=
  ⟨[0], [_], rfl, by decide, L, pr, tF, b, wl, kn, jobs, p, a, q, j, hj, rfl, rfl, rfl, by
    show Φ _ ((poS L pr tF b wl kn (jobs.set q { j with out := false }) asked kvs p a dq ++ st) ++ [])
    rw [List.append_nil]
    exact k⟩
def S_give_job : Spd := fun ds st Φ => ∃ L pr tF b wl kn jobs asked kvs p a dq q j w, L.Ord ∧ KnOk L kn ∧ DK kvs kn ∧ kvs.length < 100 ∧ asked.length < 100 ∧ jobs[q]? = some j ∧ j.out = true ∧ j.i < kn.length ∧ kn.getD j.i none = none ∧ w < L.n ∧ ds = [.own p, nD q, nD w] ∧ st = poS L pr tF b wl kn jobs asked kvs p a dq ∧
  Φ (.bl true) (poS L pr tF b wl (kn.set j.i (some w)) (jobs.set q { j with out := false }) (asked ++ [nD j.i]) (putD kvs (.inl (j.i : Int)) (nD w)) p a dq)
theorem pl_give_job (ds : List D) (st : Sto) (Φ : D → Sto → Prop) (h : S_give_job ds st Φ) : ds.length = 3 ∧ W_Pool_give_job S_job_at S_stands_in S_set_standing S_note_spot (endD Φ) (startD N_Pool_give_job ds) st := by
  obtain ⟨L, pr, tF, b, wl, kn, jobs, asked, kvs, p, a, dq, q, j, w, o, ok, dk, hkl, hal, hj, hout, hi, hno, hw, rfl, rfl, k⟩ := h
  refine ⟨rfl, ?_⟩
  show W_Pool_give_job _ _ _ _ _ [some _, some _, some _, none, none] _
  unfold W_Pool_give_job
  repeat walk_at "sy"
  refine c_job_at (st := []) hj ?_
  repeat walk_at "sy"
  rw [show decide (stS j.out = Str.ofString "given") = false by rw [hout]; decide +kernel]
  repeat walk_at "sy"
  refine c_pur (r := .bl true) ⟨L, pr, w, rfl, hw, rfl⟩ ?_
  repeat walk_at "sy"
  refine c_set_standing (st := []) hj ?_
  repeat walk_at "sy"
  have hlen : (ens kn).length ≤ 3 := by
    have := List.length_filterMap_le (fun i => (kn.getD i none).map fun w => (i, w)) (List.range kn.length)
    rw [List.length_range] at this
    have := ok.1
    unfold ens
    omega
  refine ⟨by rw [List.length_map]; omega, lc_gen (ens kn) entD (fun _ => true) (fun e => rdD e.1) (fun _ _ _ h => h) (fun e he _ Ψ hΨ => ?_) _ ?_⟩
  · repeat walk_at "sy"
    exact hΨ
  rw [filter_true, List.nil_append]
  repeat walk_at "sy"
  refine ⟨.bl false, .inr ⟨_, .inl rfl, rfl, ?_, false, rfl, ?_⟩, ?_⟩
  · intro d hd
    obtain ⟨j, _, rfl⟩ := List.mem_map.mp hd
    rfl
  · constructor
    · intro h; cases h
    · intro hm
      obtain ⟨e, he, h⟩ := List.mem_map.mp hm
      have h2 := (ens_mem he).2
      simp [rdD, nD] at h
      have h : e.1 = j.i := by omega
      rw [h, hno] at h2
      cases h2
  repeat walk_at "sy"
  refine c_note_spot (st := []) o ok dk hkl hal hi hno hw ?_
  repeat walk_at "sy"
  exact .keep [0, 1, 2] _ (by decide) rfl k
/-! ### a pool is made -/
theorem knD_nil (m : Nat) : knD (List.replicate m none) = [] := by
  unfold knD ens
  rw [List.filterMap_eq_nil_iff.mpr]
  · rfl
  · intro i hi
    rw [List.length_replicate] at hi
    have : (List.replicate m (none : Option Nat)).getD i none = none := by simp [List.getD, List.mem_range.mp hi]
    rw [this]; rfl
def S_pool_init : Spd := fun ds st Φ => ∃ (p : Addr) (L : Lat) (pr : List D) (b : Bool) (nums : List D) (sh pa le wl0 : D) (rest : List D), L.Ord ∧ (nums.length = 2 ∨ nums.length = 3) ∧ ds = [.own p, laD L pr, grD (rootF (sgD b) nums sh pa le wl0 rest), .int 1] ∧ st = [(p, .ins .pool [])] ∧
  ∀ wl a dq, Φ .non (poS L pr (rootF (sgD b) nums sh pa le wl0 rest) b wl (List.replicate nums.length none) [] [] [] p a dq)
theorem pl_pool_init (ds : List D) (st : Sto) (Φ : D → Sto → Prop) (h : S_pool_init ds st Φ) : ds.length = 4 ∧ W_Pool_init S_is_number (S_tree_init 1) S_ups1 S_gro_root S_ask_init (endD Φ) (startD N_Pool_init ds) st := by
  obtain ⟨p, L, pr, b, nums, sh, pa, le, wl0, rest, o, hm, rfl, rfl, k⟩ := h
  refine ⟨rfl, ?_⟩
  show W_Pool_init _ _ _ _ _ _ [some _, some _, some _, some _, none] _
  unfold W_Pool_init
  repeat walk_at "sy"
  refine c_pur (r := .bl true) ⟨1, 0, 40, rfl, by rw [decide_eq_true (by omega)]⟩ ?_
  repeat walk_at "sy"
  intro p4
  repeat walk_at "sy"
  refine c_pur ⟨_, rfl, rfl⟩ ?_
  repeat walk_at "sy"
  refine ⟨[1], [(p4, .lst [])], rfl, by decide, b, nums, sh, pa, le, wl0, rest, p4, by omega, rfl, rfl, rfl, ?_⟩
  intro pt
  refine ⟨[2], [(pt, .ins .tre [])], rfl, by decide, upT b nums.length, pt, ?_, by omega, rfl, rfl, fun wl => ⟨rfl, ?_⟩⟩
  · refine ⟨by rw [List.length_replicate]; omega, by rw [List.length_replicate]; omega, fun c hc => ?_⟩
    rw [(List.mem_replicate.mp hc).2]
    show 0 < 16
    omega
  refine ⟨rfl, 2, _, rfl, ?_⟩
  rw [upX_tre b nums.length hm wl]
  repeat walk_at "sy"
  refine ⟨_, ⟨_, (List.range nums.length).map rdD, rfl, .inr ⟨1, p4, rfl, rfl⟩, rfl⟩, ?_⟩
  repeat walk_at "sy"
  intro pq
  show callD S_ask_init [.own pq, laD L pr, upX b nums.length wl] [(p, .ins .pool [laD L pr, grD (rootF (sgD b) nums sh pa le wl0 rest), .int 1, upX b nums.length wl, .ftp ((List.range nums.length).map rdD), .tup [], .tup []]), (p4, .lst ((List.range nums.length).map rdD)), (pq, .ins .ask [])] _
  refine ⟨[2], [(pq, .ins .ask [])], rfl, by decide, L, pr, b, nums.length, wl, pq, o, hm, rfl, rfl, fun dq => ⟨rfl, rfl, ?_⟩⟩
  repeat walk_at "sy"
  have k := k wl pq dq
  unfold poS poF at k
  rw [knD_nil, List.length_replicate] at k
  refine .keep [0, 2, 3] [(p, .ins .pool [laD L pr, grD (rootF (sgD b) nums sh pa le wl0 rest), .int 1, upX b nums.length wl, .ftp ((List.range nums.length).map rdD), .tup [], .tup [], .own pq]), (pq, .ins .ask (askF L pr b wl [] dq (List.replicate nums.length none))), (dq, .dk [])] (by decide) ?_ ?_
  · rfl
  · exact k
end Cw

set_option Elab.async false
set_option linter.all false
set_option maxRecDepth 100000
set_option maxHeartbeats 0
namespace Cw
open PySem hiding Env
open L2 hiding St
open DL
/-- one step -/
local macro_rules | `(tactic| walk_at "sx") => `(tactic| first | (with_reducible refine i_varH ?_; refine ⟨_, rfl, ?_⟩) | (with_reducible first | refine i_seq ?_ | refine i_asg ?_ | refine i_name ?_ | refine i_bin ?_ | refine i_c ?_ | refine i_fld ?_ | refine i_cons ?_ | refine i_nil ?_ | refine i_if ?_ | refine i_tst ?_ | refine i_ret ?_ | refine i_call ?_ | refine i_meth ?_ | refine i_andT ?_ | refine i_orT ?_ | refine i_notT ?_ | refine i_chain ?_ | refine i_is ?_ | refine i_tup ?_ | refine i_lst ?_ | refine i_cb ?_ | refine i_for ?_ | refine i_next ?_ | refine i_drop ?_ | refine i_andV ?_ | refine i_orV ?_ | refine i_notV ?_ | refine i_ifE ?_ | refine i_lstO ?_ | refine i_setF ?_ | refine i_sub ?_ | refine i_app ?_ | refine i_gtup ?_ | refine i_gcons ?_ | refine i_gnil ?_ | refine i_ilst ?_ | refine i_itup ?_ | refine i_irg ?_ | refine i_irgO ?_ | refine i_irev ?_ | refine i_ienT ?_ | refine i_ienL ?_ | refine i_lRg ?_ | refine i_lc ?_ | refine i_lcO ?_ | refine i_yes ?_ | refine i_retN ?_ | refine i_prop ?_ | refine i_makeO ?_ | refine i_make ?_ | refine i_star ?_) | (with_reducible first | refine q_tst ?_ | refine q_ifT ?_ | refine q_ifF ?_ | refine q_nT ?_ | refine q_nF ?_ | refine q_obj ?_ | refine p_add ?_ | refine p_sub ?_ | refine p_lt ?_ | refine p_le ?_ | refine p_gt ?_ | refine p_leB ?_ | refine p_eqI ?_ | refine p_eqS ?_ | refine p_neI ?_ | refine p_isNy ?_ | refine p_notNy ?_ | refine p_isB ?_ | refine p_notB ?_ | refine p_lenT ?_ | refine p_lenL ?_ | refine p_int ?_ | refine p_tupL ?_ | refine p_lstL ?_ | refine p_lstT ?_) | refine ⟨_, _, .inl rfl, rfl, ?_⟩ | refine p_mul (.inr (by decide)) ?_ | refine p_div ⟨by decide, by decide⟩ ?_ | refine p_mod (by decide) ?_ | (with_reducible refine p_abs ?_) | (with_reducible refine p_max ?_) | (with_reducible refine p_min ?_) | refine q_len rfl ?_ | refine ⟨_, .inl rfl, ?_⟩ | refine ⟨_, rfl, ?_⟩ | refine p_ixL rfl ?_ | refine p_ixT rfl ?_ | refine p_ixO 0 rfl rfl ?_ | refine p_ixO 1 rfl rfl ?_ | refine p_ixO 2 rfl rfl ?_ | refine ⟨_, .inr ⟨_, rfl, rfl⟩, ?_⟩ | refine p_ixO 3 rfl rfl ?_ | refine p_ixO 4 rfl rfl ?_ | refine p_ixO 5 rfl rfl ?_ | refine ⟨_, _, .inr ⟨0, _, rfl, rfl⟩, rfl, ?_⟩ | refine ⟨⟨_, .inr ⟨0, _, rfl, rfl⟩⟩, ?_⟩ | refine ⟨⟨0, _, _, rfl, rfl⟩, ?_⟩ | refine p_lenO 0 rfl ?_ | refine p_tupO 0 rfl ?_ | refine ⟨_, _, .inr ⟨1, _, rfl, rfl⟩, rfl, ?_⟩ | refine ⟨⟨_, .inr ⟨1, _, rfl, rfl⟩⟩, ?_⟩ | refine ⟨⟨1, _, _, rfl, rfl⟩, ?_⟩ | refine p_lenO 1 rfl ?_ | refine p_tupO 1 rfl ?_ | refine ⟨_, _, .inr ⟨2, _, rfl, rfl⟩, rfl, ?_⟩ | refine ⟨⟨_, .inr ⟨2, _, rfl, rfl⟩⟩, ?_⟩ | refine ⟨⟨2, _, _, rfl, rfl⟩, ?_⟩ | refine p_lenO 2 rfl ?_ | refine p_tupO 2 rfl ?_ | refine ⟨_, _, .inr ⟨3, _, rfl, rfl⟩, rfl, ?_⟩ | refine ⟨⟨_, .inr ⟨3, _, rfl, rfl⟩⟩, ?_⟩ | refine ⟨⟨3, _, _, rfl, rfl⟩, ?_⟩ | refine p_lenO 3 rfl ?_ | refine p_tupO 3 rfl ?_ | refine ⟨_, _, .inr ⟨4, _, rfl, rfl⟩, rfl, ?_⟩ | refine ⟨⟨_, .inr ⟨4, _, rfl, rfl⟩⟩, ?_⟩ | refine ⟨⟨4, _, _, rfl, rfl⟩, ?_⟩ | refine p_lenO 4 rfl ?_ | refine p_tupO 4 rfl ?_ | refine ⟨_, _, .inr ⟨5, _, rfl, rfl⟩, rfl, ?_⟩ | refine ⟨⟨_, .inr ⟨5, _, rfl, rfl⟩⟩, ?_⟩ | refine ⟨⟨5, _, _, rfl, rfl⟩, ?_⟩ | refine p_lenO 5 rfl ?_ | refine p_tupO 5 rfl ?_)
local macro_rules | `(tactic| walk_at "sy") => `(tactic| first | walk_at "sx" | refine p_ixT (at_rowsT (by assumption)) ?_ | refine p_ixT (at_range (by assumption)) ?_ | refine p_ixL (at_rowsL (by assumption)) ?_ | refine p_ixL (at_range (by assumption)) ?_ | refine ⟨_, rfl, rfl, ?_⟩ | refine ⟨rfl, ?_⟩ | refine ⟨0, _, _, _, rfl, rfl, .inl ⟨rfl, rfl⟩, ?_⟩ | refine ⟨0, _, _, _, rfl, rfl, .inr ⟨lt_ok rfl, rfl⟩, ?_⟩ | refine ⟨1, _, _, _, rfl, rfl, .inl ⟨rfl, rfl⟩, ?_⟩ | refine ⟨1, _, _, _, rfl, rfl, .inr ⟨lt_ok rfl, rfl⟩, ?_⟩ | refine ⟨2, _, _, _, rfl, rfl, .inl ⟨rfl, rfl⟩, ?_⟩ | refine ⟨2, _, _, _, rfl, rfl, .inr ⟨lt_ok rfl, rfl⟩, ?_⟩ | refine ⟨3, _, _, _, rfl, rfl, .inl ⟨rfl, rfl⟩, ?_⟩ | refine ⟨3, _, _, _, rfl, rfl, .inr ⟨lt_ok rfl, rfl⟩, ?_⟩)
local macro_rules | `(tactic| walk_at "sw") => `(tactic| first | walk_at "sy" | refine i_forc ?_ | refine i_forn ?_ | refine i_lcc ?_ | refine i_lcn ?_ | refine ⟨0, _, _, _, rfl, rfl, rfl, lt_ok rfl, ?_⟩ | refine ⟨1, _, _, _, rfl, rfl, rfl, lt_ok rfl, ?_⟩ | refine ⟨2, _, _, _, rfl, rfl, rfl, lt_ok rfl, ?_⟩ | refine ⟨3, _, _, _, rfl, rfl, rfl, lt_ok rfl, ?_⟩)

/-! ### the law's own known -/
abbrev ktD (es : List (Nat × Nat)) : List (List Key × D) := es.map fun p => ([.inl (p.1 : Int)], nD p.2)
def DT2 (es : List (Nat × Nat)) (kn : List (Option Nat)) : Prop := ∀ i, i < kn.length → valD (ktD es) [.inl (i : Int)] = (kn.getD i none).map nD
def S_lfold0 : Spd := fun ds st Φ => ∃ (L : Lat) (w0 fill i : Nat) (es : List (Nat × Nat)) (kn : List (Option Nat)) (dq : Addr), DT2 es kn ∧ i < kn.length ∧ ds = [plD L, trD (.lf w0), .own dq, nD fill, rdD i] ∧ st = [(dq, .dt (ktD es))] ∧ Φ (nD ((kn.getD i none).getD fill)) st
theorem pl_lfold0 (S2 S3 S4 : Spd) (ds : List D) (st : Sto) (Φ : D → Sto → Prop) (h : S_lfold0 ds st Φ) : ds.length = 5 ∧ W_L_fold S_whole S2 S3 S4 (endD Φ) (startD N_L_fold ds) st := by
  obtain ⟨L, w0, fill, i, es, kn, dq, dt, hi, rfl, rfl, k⟩ := h
  refine ⟨rfl, ?_⟩
  show W_L_fold _ _ _ _ _ [some _, some _, some _, some _, some _, none, none] _
  unfold W_L_fold
  repeat walk_at "sx"
  refine c_pur (r := .bl true) ⟨_, rfl, .inl ⟨_, rfl, rfl⟩⟩ ?_
  repeat walk_at "sx"
  refine ⟨⟨0, dq, rfl, .inr ⟨_, rfl⟩⟩, ?_⟩
  repeat walk_at "sx"
  refine ⟨(kn.getD i none).map nD, ⟨0, dq, rfl, .inr ⟨ktD es, [.inl (i : Int)], rfl, rfl, (dt i hi).symm⟩⟩, ?_⟩
  have e : ((kn.getD i none).map nD).getD (nD fill) = nD ((kn.getD i none).getD fill) := by cases kn.getD i none <;> rfl
  rw [e]
  repeat walk_at "sx"
  exact .keep [0] _ (by decide) rfl k
theorem jn_cm {L : Lat} {x y : Nat} (o : L.Ord) (hx : x < L.n) (hy : y < L.n) : L.jn x y = L.jn y x :=
  o.anti _ _ (o.jlt _ _ hx hy) (o.jlt _ _ hy hx) (o.jl _ _ _ hx hy (o.jlt _ _ hy hx) (o.ju2 _ _ hy hx) (o.ju1 _ _ hy hx)) (o.jl _ _ _ hy hx (o.jlt _ _ hx hy) (o.ju2 _ _ hx hy) (o.ju1 _ _ hx hy))
theorem mt_cm {L : Lat} {x y : Nat} (o : L.Ord) (hx : x < L.n) (hy : y < L.n) : L.mt x y = L.mt y x :=
  o.anti _ _ (o.mlt _ _ hx hy) (o.mlt _ _ hy hx) (o.mg _ _ _ hy hx (o.mlt _ _ hx hy) (o.ml2 _ _ hx hy) (o.ml1 _ _ hx hy)) (o.mg _ _ _ hx hy (o.mlt _ _ hy hx) (o.ml2 _ _ hy hx) (o.ml1 _ _ hy hx))
theorem op_cm {L : Lat} {b : Bool} {x y : Nat} (o : L.Ord) (hx : x < L.n) (hy : y < L.n) : opL L b x y = opL L b y x := by
  cases b
  · exact mt_cm o hx hy
  · exact jn_cm o hx hy
/-- the others' fold, by the law's road -/
theorem oth_fold {L : Lat} {b : Bool} {l : List Nat} (o : L.Ord) (hl : ∀ w ∈ l, w < L.n) (hm : l.length = 2 ∨ l.length = 3) {i : Nat} (hi : i < l.length) :
    fold L b (((List.range l.length).filter fun (j : Nat) => !decide ((j : Int) = (i : Int))).map fun j => l.getD j 0) = (oth L b l).getD i 0 := by
  have e : ((List.range l.length).filter fun (j : Nat) => !decide ((j : Int) = (i : Int))) = (List.range l.length).filter fun (j : Nat) => !decide (j = i) := by
    refine List.filter_congr fun j _ => ?_
    by_cases h : j = i
    · subst h; simp
    · simp [h]
      omega
  rw [e]
  match l, hm with
  | [a, c], _ =>
    have ha := hl a (by simp)
    have hc := hl c (by simp)
    match i, hi with
    | 0, _ => exact fold_cons1 o hc
    | 1, _ => exact fold_cons1 o ha
  | [a, c, d], _ =>
    have ha := hl a (by simp)
    have hc := hl c (by simp)
    have hd := hl d (by simp)
    match i, hi with
    | 0, _ =>
      show fold L b [c, d] = opL L b d c
      rw [fold_two o hc, op_cm o hc hd]
    | 1, _ =>
      show fold L b [a, d] = opL L b a d
      exact fold_two o ha
    | 2, _ =>
      show fold L b [a, c] = opL L b a c
      exact fold_two o ha
theorem inn_ctx {L : Lat} {b : Bool} {s : Nat} (o : L.Ord) (hs : s < L.n) : cxD (innC L b L.bt L.tp s).1 (innC L b L.bt L.tp s).2 = ctxD L b s := by
  cases b
  · show cxD L.bt (L.mt L.tp s) = cxD L.bt s
    rw [mt_tp o hs]
  · show cxD (L.jn L.bt (L.mt L.tp s)) L.tp = cxD s L.tp
    rw [mt_tp o hs, jn_bt o hs]
def S_lsp : Spd := fun ds st Φ => ∃ (L : Lat) (b : Bool) (i : Nat) (es : List (Nat × Nat)) (kn : List (Option Nat)) (dq : Addr), L.Ord ∧ KnOk L kn ∧ DT2 es kn ∧ i < kn.length ∧ ds = [plD L, trD (upT b kn.length), .own dq, rdD i] ∧ st = [(dq, .dt (ktD es))] ∧ Φ (ctxD L b ((koth L b kn).getD i 0)) st
theorem pl_lsp (ds : List D) (st : Sto) (Φ : D → Sto → Prop) (h : S_lsp ds st Φ) : ds.length = 4 ∧ W_L_spot_context S_lfold0 S_lmeet S_ljoin S_linner (endD Φ) (startD N_L_spot_context ds) st := by
  obtain ⟨L, b, i, es, kn, dq, o, ok, dt, hi, rfl, rfl, k⟩ := h
  refine ⟨rfl, ?_⟩
  show W_L_spot_context _ _ _ _ _ [some _, some _, some _, some _, none, none, none, none, none, none, none, none] _
  unfold W_L_spot_context
  rw [trD_nd, List.map_replicate, trD_lf]
  repeat walk_at "sw"
  refine ⟨by show (1 : Int) ≤ _; omega, by show _ ≤ (1 : Int); omega, ?_⟩
  show forgo _ _ _ [.int 0] _ _
  repeat walk_at "sw"
  rw [sg_eq]
  have hbn : ∀ w ∈ kbnd L b kn, w < L.n := fun w hw => by
    obtain ⟨x, hx, rfl⟩ := List.mem_map.mp hw
    cases x with
    | none => exact idL_lt o.toOk
    | some v => exact ok.2 _ hx v rfl
  have hbl : (kbnd L b kn).length = kn.length := List.length_map _
  have hkm := ok.1
  have gd : ∀ j, j < kn.length → (kbnd L b kn).getD j 0 = (kn.getD j none).getD (idL L b) := fun j hj => by
    simp [kbnd, List.getD, hj]
  have key := oth_fold (b := b) o hbn (by rw [hbl]; exact hkm) (i := i) (by rw [hbl]; exact hi)
  rw [hbl] at key
  generalize hjs : ((List.range kn.length).filter fun (j : Nat) => !decide ((j : Int) = (i : Int))) = js at key
  have hjm : ∀ j ∈ js, j < kn.length := fun j hj => by
    rw [← hjs] at hj
    exact List.mem_range.mp (List.mem_filter.mp hj).1
  have hjl : js.length ≤ 3 := by
    rw [← hjs]
    have := List.length_filter_le (fun (j : Nat) => !decide ((j : Int) = (i : Int))) (List.range kn.length)
    rw [List.length_range] at this
    omega
  have hfl : fold L b (js.map fun j => (kbnd L b kn).getD j 0) < L.n := fold_lt o.toOk fun w hw => by
    obtain ⟨j, hj, rfl⟩ := List.mem_map.mp hw
    have hj := hjm j hj
    rw [gd j hj]
    cases e : kn.getD j none with
    | none => exact idL_lt o.toOk
    | some v =>
      refine ok.2 _ ?_ v rfl
      rw [← e]
      simp [List.getD, hj]
  have fin := inn_ctx (b := b) o hfl
  obtain ⟨g, hg⟩ : ∃ g : Nat → Nat, g = fun j => (kbnd L b kn).getD j 0 := ⟨_, rfl⟩
  rw [← hg] at fin hfl key
  have gd : ∀ j, j < kn.length → g j = (kn.getD j none).getD (idL L b) := fun j hj => by rw [hg]; exact gd j hj
  have hgl : ∀ w ∈ js.map g, w < L.n := fun w hw => by
    obtain ⟨j, hj, rfl⟩ := List.mem_map.mp hw
    have hj := hjm j hj
    rw [gd j hj]
    cases e : kn.getD j none with
    | none => exact idL_lt o.toOk
    | some v =>
      refine ok.2 _ ?_ v rfl
      rw [← e]
      simp [List.getD, hj]
  cases b
  all_goals
    repeat walk_at "sw"
    rw [List.length_replicate]
    refine ⟨by omega, by omega, ?_⟩
    rw [intsD_nat]
    refine ⟨by rw [len_mr]; omega, lc_gen (List.range kn.length) nD (fun (j : Nat) => !decide ((j : Int) = (i : Int))) nD (fun j hj Θ hΘ => ?_) (fun j hj _ Ψ hΨ => ?_) _ ?_⟩
    · repeat walk_at "sw"
      exact hΘ
    · repeat walk_at "sw"
      exact hΨ
    rw [List.nil_append, hjs]
    repeat walk_at "sw"
    refine ⟨by rw [List.length_map]; omega, lc_gen js nD (fun _ => true) (fun j => nD (g j)) (fun _ _ _ h => h) (fun j hj _ Ψ hΨ => ?_) _ ?_⟩
    · have hj := hjm j hj
      repeat walk_at "sw"
      refine p_ixT (d := nD 0) (atI_nat (by rw [List.getElem?_replicate, if_pos hj])) ?_
      repeat walk_at "sw"
      show _ ∨ _
      refine .inr ⟨_, rfl, ?_⟩
      repeat walk_at "sw"
      refine p_catT (by show 0 + 1 ≤ 100000; decide) ?_
      repeat walk_at "sw"
      refine ⟨[0], [_], rfl, by decide, L, 0, _, j, es, kn, dq, dt, hj, rfl, rfl, rfl, ?_⟩
      rw [gd j hj] at hΨ
      exact hΨ
    rw [filter_true, List.nil_append]
    have em : js.map (fun j => nD (g j)) = (js.map g).map nD := by rw [List.map_map]; rfl
    rw [em]
    repeat walk_at "sw"
    refine c_pur ⟨L, js.map g, o.toOk, hgl, rfl, rfl⟩ ?_
    repeat walk_at "sw"
  · refine c_pur ⟨L, false, L.bt, L.tp, fold L false (js.map g), o.toOk, o.btl, o.tpl, hfl, rfl, rfl⟩ ?_
    repeat walk_at "sw"
    refine p_ixT (d := nD 0) (atI_nat (by rw [List.getElem?_replicate, if_pos hi])) ?_
    repeat walk_at "sw"
    refine .keep [0] _ (by decide) rfl ?_
    rw [fin, key]
    exact k
  · refine c_pur ⟨L, js.map g, o.toOk, hgl, rfl, rfl⟩ ?_
    repeat walk_at "sw"
    refine c_pur ⟨L, true, L.bt, L.tp, fold L true (js.map g), o.toOk, o.btl, o.tpl, hfl, rfl, rfl⟩ ?_
    repeat walk_at "sw"
    refine p_ixT (d := nD 0) (atI_nat (by rw [List.getElem?_replicate, if_pos hi])) ?_
    repeat walk_at "sw"
    refine .keep [0] _ (by decide) rfl ?_
    rw [fin, key]
    exact k
/-! ### hanging -/
def S_lhg : Spd := fun ds st Φ => ∃ (L : Lat) (b : Bool) (es : List (Nat × Nat)) (kn : List (Option Nat)) (dq : Addr), L.Ord ∧ KnOk L kn ∧ DT2 es kn ∧ ds = [plD L, trD (upT b kn.length), .own dq, .lst ((List.range kn.length).map rdD)] ∧ st = [(dq, .dt (ktD es))] ∧ Φ (.lst ((hangL L b kn).map rdD)) st
theorem pl_lhg (ds : List D) (st : Sto) (Φ : D → Sto → Prop) (h : S_lhg ds st Φ) : ds.length = 4 ∧ W_L_hanging S_lhangs S_lsp (endD Φ) (startD N_L_hanging ds) st := by
  obtain ⟨L, b, es, kn, dq, o, ok, dt, rfl, rfl, k⟩ := h
  have hm := ok.1
  refine ⟨rfl, ?_⟩
  show W_L_hanging _ _ _ [some _, some _, some _, some _, none, none] _
  unfold W_L_hanging
  repeat walk_at "sw"
  refine ⟨by rw [len_mr]; omega, lc_gen (List.range kn.length) rdD (fun i => (kn.getD i none).isNone) rdD (fun i hi Θ hΘ => ?_) (fun i hi _ Ψ hΨ => ?_) _ ?_⟩
  · have hi := List.mem_range.mp hi
    repeat walk_at "sw"
    refine ⟨_, ⟨0, dq, rfl, .inr ⟨ktD es, [.inl (i : Int)], rfl, rfl, rfl⟩⟩, ?_⟩
    rw [dt i hi, if_pos rfl]
    refine ⟨_, rfl, ?_⟩
    have e : (!((kn.getD i none).map nD).isSome) = (kn.getD i none).isNone := by cases kn.getD i none <;> rfl
    rw [e]
    exact hΘ
  · repeat walk_at "sw"
    exact hΨ
  rw [List.nil_append]
  repeat walk_at "sw"
  have hll := List.length_filter_le (fun i => (kn.getD i none).isNone) (List.range kn.length)
  rw [List.length_range] at hll
  refine ⟨by rw [List.length_map]; omega, lc_gen ((List.range kn.length).filter fun i => (kn.getD i none).isNone) rdD (fun i => hgs L b ((koth L b kn).getD i 0)) rdD (fun i hi Θ hΘ => ?_) (fun i hi _ Ψ hΨ => ?_) _ ?_⟩
  · have hi := List.mem_range.mp (List.mem_filter.mp hi).1
    repeat walk_at "sw"
    refine ⟨[0], [_], rfl, by decide, L, b, i, es, kn, dq, o, ok, dt, hi, rfl, rfl, rfl, ?_⟩
    show wNil _ ([(dq, OB.dt (ktD es))] ++ []) _
    repeat walk_at "sw"
    have hs := koth_lt o.toOk (b := b) ok hi
    obtain ⟨hc1, hc2⟩ := ctxP_lt o.toOk (b := b) hs
    refine c_pur (r := .bl (hgs L b ((koth L b kn).getD i 0))) ⟨L, _, _, hc1, hc2, ?_, rfl⟩ ?_
    · rw [ctxD_P]
    repeat walk_at "sw"
    exact hΘ
  · repeat walk_at "sw"
    exact hΨ
  rw [List.nil_append, List.filter_filter]
  refine .keep [0] _ (by decide) rfl ?_
  have e : ((List.range kn.length).filter fun i => hgs L b ((koth L b kn).getD i 0) && (kn.getD i none).isNone) = hangL L b kn := by
    unfold hangL
    refine List.filter_congr fun i _ => ?_
    exact Bool.and_comm _ _
  rw [e]
  exact k
end Cw

set_option Elab.async false
set_option linter.all false
set_option maxRecDepth 100000
set_option maxHeartbeats 0
namespace Cw
open PySem hiding Env
open L2 hiding St
open DL
/-- one step -/
local macro_rules | `(tactic| walk_at "sx") => `(tactic| first | (with_reducible refine i_varH ?_; refine ⟨_, rfl, ?_⟩) | (with_reducible first | refine i_seq ?_ | refine i_asg ?_ | refine i_name ?_ | refine i_bin ?_ | refine i_c ?_ | refine i_fld ?_ | refine i_cons ?_ | refine i_nil ?_ | refine i_if ?_ | refine i_tst ?_ | refine i_ret ?_ | refine i_call ?_ | refine i_meth ?_ | refine i_andT ?_ | refine i_orT ?_ | refine i_notT ?_ | refine i_chain ?_ | refine i_is ?_ | refine i_tup ?_ | refine i_lst ?_ | refine i_cb ?_ | refine i_for ?_ | refine i_next ?_ | refine i_drop ?_ | refine i_andV ?_ | refine i_orV ?_ | refine i_notV ?_ | refine i_ifE ?_ | refine i_lstO ?_ | refine i_setF ?_ | refine i_sub ?_ | refine i_app ?_ | refine i_gtup ?_ | refine i_gcons ?_ | refine i_gnil ?_ | refine i_ilst ?_ | refine i_itup ?_ | refine i_irg ?_ | refine i_irgO ?_ | refine i_irev ?_ | refine i_ienT ?_ | refine i_ienL ?_ | refine i_lRg ?_ | refine i_lc ?_ | refine i_lcO ?_ | refine i_yes ?_ | refine i_retN ?_ | refine i_prop ?_ | refine i_makeO ?_ | refine i_make ?_ | refine i_star ?_) | (with_reducible first | refine q_tst ?_ | refine q_ifT ?_ | refine q_ifF ?_ | refine q_nT ?_ | refine q_nF ?_ | refine q_obj ?_ | refine p_add ?_ | refine p_sub ?_ | refine p_lt ?_ | refine p_le ?_ | refine p_gt ?_ | refine p_leB ?_ | refine p_eqI ?_ | refine p_eqS ?_ | refine p_neI ?_ | refine p_isNy ?_ | refine p_notNy ?_ | refine p_isB ?_ | refine p_notB ?_ | refine p_lenT ?_ | refine p_lenL ?_ | refine p_int ?_ | refine p_tupL ?_ | refine p_lstL ?_ | refine p_lstT ?_) | refine ⟨_, _, .inl rfl, rfl, ?_⟩ | refine p_mul (.inr (by decide)) ?_ | refine p_div ⟨by decide, by decide⟩ ?_ | refine p_mod (by decide) ?_ | (with_reducible refine p_abs ?_) | (with_reducible refine p_max ?_) | (with_reducible refine p_min ?_) | refine q_len rfl ?_ | refine ⟨_, .inl rfl, ?_⟩ | refine ⟨_, rfl, ?_⟩ | refine p_ixL rfl ?_ | refine p_ixT rfl ?_ | refine p_ixO 0 rfl rfl ?_ | refine p_ixO 1 rfl rfl ?_ | refine p_ixO 2 rfl rfl ?_ | refine ⟨_, .inr ⟨_, rfl, rfl⟩, ?_⟩ | refine p_ixO 3 rfl rfl ?_ | refine p_ixO 4 rfl rfl ?_ | refine p_ixO 5 rfl rfl ?_ | refine ⟨_, _, .inr ⟨0, _, rfl, rfl⟩, rfl, ?_⟩ | refine ⟨⟨_, .inr ⟨0, _, rfl, rfl⟩⟩, ?_⟩ | refine ⟨⟨0, _, _, rfl, rfl⟩, ?_⟩ | refine p_lenO 0 rfl ?_ | refine p_tupO 0 rfl ?_ | refine ⟨_, _, .inr ⟨1, _, rfl, rfl⟩, rfl, ?_⟩ | refine ⟨⟨_, .inr ⟨1, _, rfl, rfl⟩⟩, ?_⟩ | refine ⟨⟨1, _, _, rfl, rfl⟩, ?_⟩ | refine p_lenO 1 rfl ?_ | refine p_tupO 1 rfl ?_ | refine ⟨_, _, .inr ⟨2, _, rfl, rfl⟩, rfl, ?_⟩ | refine ⟨⟨_, .inr ⟨2, _, rfl, rfl⟩⟩, ?_⟩ | refine ⟨⟨2, _, _, rfl, rfl⟩, ?_⟩ | refine p_lenO 2 rfl ?_ | refine p_tupO 2 rfl ?_ | refine ⟨_, _, .inr ⟨3, _, rfl, rfl⟩, rfl, ?_⟩ | refine ⟨⟨_, .inr ⟨3, _, rfl, rfl⟩⟩, ?_⟩ | refine ⟨⟨3, _, _, rfl, rfl⟩, ?_⟩ | refine p_lenO 3 rfl ?_ | refine p_tupO 3 rfl ?_ | refine ⟨_, _, .inr ⟨4, _, rfl, rfl⟩, rfl, ?_⟩ | refine ⟨⟨_, .inr ⟨4, _, rfl, rfl⟩⟩, ?_⟩ | refine ⟨⟨4, _, _, rfl, rfl⟩, ?_⟩ | refine p_lenO 4 rfl ?_ | refine p_tupO 4 rfl ?_ | refine ⟨_, _, .inr ⟨5, _, rfl, rfl⟩, rfl, ?_⟩ | refine ⟨⟨_, .inr ⟨5, _, rfl, rfl⟩⟩, ?_⟩ | refine ⟨⟨5, _, _, rfl, rfl⟩, ?_⟩ | refine p_lenO 5 rfl ?_ | refine p_tupO 5 rfl ?_)
local macro_rules | `(tactic| walk_at "sy") => `(tactic| first | walk_at "sx" | refine p_ixT (at_rowsT (by assumption)) ?_ | refine p_ixT (at_range (by assumption)) ?_ | refine p_ixL (at_rowsL (by assumption)) ?_ | refine p_ixL (at_range (by assumption)) ?_ | refine ⟨_, rfl, rfl, ?_⟩ | refine ⟨rfl, ?_⟩ | refine ⟨0, _, _, _, rfl, rfl, .inl ⟨rfl, rfl⟩, ?_⟩ | refine ⟨0, _, _, _, rfl, rfl, .inr ⟨lt_ok rfl, rfl⟩, ?_⟩ | refine ⟨1, _, _, _, rfl, rfl, .inl ⟨rfl, rfl⟩, ?_⟩ | refine ⟨1, _, _, _, rfl, rfl, .inr ⟨lt_ok rfl, rfl⟩, ?_⟩ | refine ⟨2, _, _, _, rfl, rfl, .inl ⟨rfl, rfl⟩, ?_⟩ | refine ⟨2, _, _, _, rfl, rfl, .inr ⟨lt_ok rfl, rfl⟩, ?_⟩ | refine ⟨3, _, _, _, rfl, rfl, .inl ⟨rfl, rfl⟩, ?_⟩ | refine ⟨3, _, _, _, rfl, rfl, .inr ⟨lt_ok rfl, rfl⟩, ?_⟩)
local macro_rules | `(tactic| walk_at "sw") => `(tactic| first | walk_at "sy" | refine i_forc ?_ | refine i_forn ?_ | refine i_lcc ?_ | refine i_lcn ?_ | refine ⟨0, _, _, _, rfl, rfl, rfl, lt_ok rfl, ?_⟩ | refine ⟨1, _, _, _, rfl, rfl, rfl, lt_ok rfl, ?_⟩ | refine ⟨2, _, _, _, rfl, rfl, rfl, lt_ok rfl, ?_⟩ | refine ⟨3, _, _, _, rfl, rfl, rfl, lt_ok rfl, ?_⟩)

/-! ### one tree is drawn -/
def S_grown (d : Nat) : Spd := fun ds st Φ => ∃ (n : Nat) (ws : List Nat) (bud : Int) (side : Nat) (p : Addr) (b : OB), 0 < ws.length ∧ ws.length ≤ 1000 ∧ (∀ w ∈ ws, w < n) ∧ side < 2 ∧ HandB b ∧ ds = [.own p, .lst (ws.map nD), .int bud, nD d, nD side] ∧ st = [(p, b)] ∧ ∀ t b', TrOk n d t → HandB b' → Φ (trD t) [(p, b')]
theorem pl_grown0 (S2 S3 : Spd) (ds : List D) (st : Sto) (Φ : D → Sto → Prop) (h : S_grown 0 ds st Φ) : ds.length = 5 ∧ W_L_grown S_take S2 S3 (endD Φ) (startD N_L_grown ds) st := by
  obtain ⟨n, ws, bud, side, p, b, hw0, hw1, hwn, hsd, hb, rfl, rfl, k⟩ := h
  refine ⟨rfl, ?_⟩
  show W_L_grown _ _ _ _ [some _, some _, some _, some _, some _, none, none, none, none, none, none, none] _
  unfold W_L_grown
  repeat walk_at "sx"
  rw [List.length_map]
  refine c_take 0 rfl hw0 hw1 hb fun j b' hj hb' => ?_
  refine p_ixL (d := nD ws[j]) (atI_nat (by rw [List.getElem?_map, List.getElem?_eq_getElem hj]; rfl)) ?_
  refine .keep [0] _ (by decide) rfl ?_
  have k := k (.lf ws[j]) b' (hwn _ (List.getElem_mem hj)) hb'
  rw [trD_lf] at k
  exact k
def gCond : WT := (wOrT (wTst (wBin PEq (wVar 3) (wC (.int 0)))) (wOrT (wTst (wBin PLe (wVar 2) (wC (.int 1)))) (wAndT (wTst (wBin PLt (wVar 2) (wC (.int 10)))) (wTst (wBin PEq (wCall S_take (wCons (wVar 0) (wCons (wC (.int 7)) wNil))) (wC (.int 0)))))))
def gRet : WE := (wBin PIx (wVar 1) (wCall S_take (wCons (wVar 0) (wCons (wCB PLen (wCons (wVar 1) wNil)) wNil))))
def gBody (S2 S3 : Spd) : WS := (wSeq (wAsg (wCB PMax (wCons (wC (.int 1)) (wCons (wBin PDiv (wBin PSub (wVar 7) (wBin PSub (wBin PSub (wVar 5) (wC (.int 1))) (wVar 8))) (wBin PSub (wVar 5) (wVar 8))) wNil))) (gwName 9)) (wSeq (wIf (wAndT (wTst (wBin PLt (wVar 8) (wBin PSub (wVar 5) (wC (.int 1))))) (wTst (wBin PEq (wCall S_take (wCons (wVar 0) (wCons (wC (.int 2)) wNil))) (wC (.int 0))))) (wAsg (wCB PMax (wCons (wC (.int 1)) (wCons (wBin PSub (wVar 7) (wBin PSub (wBin PSub (wVar 5) (wC (.int 1))) (wVar 8))) wNil))) (gwName 9)) wNext) (wSeq (wAsg (wBin PSub (wC (.int 1)) (wVar 4)) (gwName 10)) (wSeq (wIf (wTst (wBin PEq (wCall S_take (wCons (wVar 0) (wCons (wC (.int 6)) wNil))) (wC (.int 0)))) (wAsg (wVar 4) (gwName 10)) wNext) (wSeq (wAsg (wCall S2 (wCons (wVar 0) (wCons (wVar 1) (wCons (wVar 9) (wCons (wBin PSub (wVar 3) (wC (.int 1))) (wCons (wVar 10) wNil)))))) (gwName 11)) (wSeq (wDrop (wApp (wVar 6) (wCons (wVar 11) wNil))) (wAsg (wCB PMax (wCons (wC (.int 1)) (wCons (wBin PSub (wVar 7) (wCall S3 (wCons (wVar 11) wNil))) wNil))) (gwName 7))))))))
def gTail (S2 S3 : Spd) : WS := (wSeq (wAsg (wBin PAdd (wC (.int 1)) (wCall S_take (wCons (wVar 0) (wCons (wC (.int 3)) wNil)))) (gwName 5)) (wSeq (wIf (wAndT (wTst (wBin PEq (wVar 5) (wC (.int 1)))) (wTst (wBin PGt (wCall S_take (wCons (wVar 0) (wCons (wC (.int 3)) wNil))) (wC (.int 0))))) (wAsg (wC (.int 2)) (gwName 5)) wNext) (wSeq (wAsg (wCB PMin (wCons (wVar 5) (wCons (wVar 2) wNil))) (gwName 5)) (wSeq (wAsg (wLstO wNil) (gwName 6)) (wSeq (wAsg (wVar 2) (gwName 7)) (wSeq (wFor (wiRg (wCons (wVar 5) wNil)) (gwName 8) (wSeq (wAsg (wCB PMax (wCons (wC (.int 1)) (wCons (wBin PDiv (wBin PSub (wVar 7) (wBin PSub (wBin PSub (wVar 5) (wC (.int 1))) (wVar 8))) (wBin PSub (wVar 5) (wVar 8))) wNil))) (gwName 9)) (wSeq (wIf (wAndT (wTst (wBin PLt (wVar 8) (wBin PSub (wVar 5) (wC (.int 1))))) (wTst (wBin PEq (wCall S_take (wCons (wVar 0) (wCons (wC (.int 2)) wNil))) (wC (.int 0))))) (wAsg (wCB PMax (wCons (wC (.int 1)) (wCons (wBin PSub (wVar 7) (wBin PSub (wBin PSub (wVar 5) (wC (.int 1))) (wVar 8))) wNil))) (gwName 9)) wNext) (wSeq (wAsg (wBin PSub (wC (.int 1)) (wVar 4)) (gwName 10)) (wSeq (wIf (wTst (wBin PEq (wCall S_take (wCons (wVar 0) (wCons (wC (.int 6)) wNil))) (wC (.int 0)))) (wAsg (wVar 4) (gwName 10)) wNext) (wSeq (wAsg (wCall S2 (wCons (wVar 0) (wCons (wVar 1) (wCons (wVar 9) (wCons (wBin PSub (wVar 3) (wC (.int 1))) (wCons (wVar 10) wNil)))))) (gwName 11)) (wSeq (wDrop (wApp (wVar 6) (wCons (wVar 11) wNil))) (wAsg (wCB PMax (wCons (wC (.int 1)) (wCons (wBin PSub (wVar 7) (wCall S3 (wCons (wVar 11) wNil))) wNil))) (gwName 7))))))))) (wRet (wTup (wCons (wBin PIx (wTup (wCons (wC (.str "joins")) (wCons (wC (.str "meets")) wNil))) (wVar 4)) (wCons (wCB PTupOf (wCons (wVar 6) wNil)) wNil))))))))))
abbrev gEnv (p : Addr) (ws : List Nat) (bud : Int) (d side : Nat) (x5 x6 x7 x8 x9 x10 x11 : Option D) : Env := [some (.own p), some (.lst (ws.map nD)), some (.int bud), some (nD d), some (nD side), x5, x6, x7, x8, x9, x10, x11]
theorem g_cond {p : Addr} {ws : List Nat} {bud : Int} {d side : Nat} {b : OB} {Θ : Bool → Sto → Prop} (hb : HandB b) (h1 : ∀ b', HandB b' → Θ true [(p, b')]) (h2 : 2 ≤ bud → ∀ b', HandB b' → Θ false [(p, b')]) : gCond (gEnv p ws bud (d + 1) side none none none none none none none) [(p, b)] Θ := by
  unfold gCond
  repeat walk_at "sx"
  refine if_any (b := decide (bud ≤ 1)) (fun h => h1 b hb) (fun h => ?_)
  have h := of_decide_eq_false h
  repeat walk_at "sx"
  refine if_any (b := decide (bud < 10)) (fun h => ?_) (fun h => h2 (by omega) b hb)
  repeat walk_at "sx"
  refine c_take 0 rfl (by decide) (by decide) hb fun j b' hj hb' => ?_
  repeat walk_at "sx"
  cases h3 : decide ((j : Int) = 0) with
  | true => exact h1 b' hb'
  | false => exact h2 (by omega) b' hb'
theorem g_ret {p : Addr} {n : Nat} {ws : List Nat} {b : OB} {x2 x3 x4 x5 x6 x7 x8 x9 x10 x11 : Option D} {F : DEnds} {Φ : D → Sto → Prop} (hF : F.rt = DL.Fin Φ) (hw0 : 0 < ws.length) (hw1 : ws.length ≤ 1000) (hwn : ∀ (w : Nat), w ∈ ws → w < n) (hb : HandB b) (d : Nat)
    (k : ∀ (t : Tr) (b' : OB), TrOk n d t → HandB b' → Φ (trD t) [(p, b')]) : wRet gRet F [some (.own p), some (.lst (ws.map nD)), x2, x3, x4, x5, x6, x7, x8, x9, x10, x11] [(p, b)] := by
  unfold gRet
  repeat walk_at "sx"
  rw [List.length_map]
  refine c_take 0 rfl hw0 hw1 hb fun j b' hj hb' => ?_
  refine p_ixL (d := nD ws[j]) (atI_nat (by rw [List.getElem?_map, List.getElem?_eq_getElem hj]; rfl)) ?_
  rw [hF]
  refine .keep [0] _ (by decide) rfl ?_
  have k := k (.lf ws[j]) b' (by cases d <;> exact hwn _ (List.getElem_mem hj)) hb'
  rw [trD_lf] at k
  exact k
def gRest (S2 S3 : Spd) : WS := (wSeq (wAsg (wCB PMin (wCons (wVar 5) (wCons (wVar 2) wNil))) (gwName 5)) (wSeq (wAsg (wLstO wNil) (gwName 6)) (wSeq (wAsg (wVar 2) (gwName 7)) (wSeq (wFor (wiRg (wCons (wVar 5) wNil)) (gwName 8) (wSeq (wAsg (wCB PMax (wCons (wC (.int 1)) (wCons (wBin PDiv (wBin PSub (wVar 7) (wBin PSub (wBin PSub (wVar 5) (wC (.int 1))) (wVar 8))) (wBin PSub (wVar 5) (wVar 8))) wNil))) (gwName 9)) (wSeq (wIf (wAndT (wTst (wBin PLt (wVar 8) (wBin PSub (wVar 5) (wC (.int 1))))) (wTst (wBin PEq (wCall S_take (wCons (wVar 0) (wCons (wC (.int 2)) wNil))) (wC (.int 0))))) (wAsg (wCB PMax (wCons (wC (.int 1)) (wCons (wBin PSub (wVar 7) (wBin PSub (wBin PSub (wVar 5) (wC (.int 1))) (wVar 8))) wNil))) (gwName 9)) wNext) (wSeq (wAsg (wBin PSub (wC (.int 1)) (wVar 4)) (gwName 10)) (wSeq (wIf (wTst (wBin PEq (wCall S_take (wCons (wVar 0) (wCons (wC (.int 6)) wNil))) (wC (.int 0)))) (wAsg (wVar 4) (gwName 10)) wNext) (wSeq (wAsg (wCall S2 (wCons (wVar 0) (wCons (wVar 1) (wCons (wVar 9) (wCons (wBin PSub (wVar 3) (wC (.int 1))) (wCons (wVar 10) wNil)))))) (gwName 11)) (wSeq (wDrop (wApp (wVar 6) (wCons (wVar 11) wNil))) (wAsg (wCB PMax (wCons (wC (.int 1)) (wCons (wBin PSub (wVar 7) (wCall S3 (wCons (wVar 11) wNil))) wNil))) (gwName 7))))))))) (wRet (wTup (wCons (wBin PIx (wTup (wCons (wC (.str "joins")) (wCons (wC (.str "meets")) wNil))) (wVar 4)) (wCons (wCB PTupOf (wCons (wVar 6) wNil)) wNil))))))))
def gB2 (S2 S3 : Spd) : WS := (wSeq (wAsg (wBin PSub (wC (.int 1)) (wVar 4)) (gwName 10)) (wSeq (wIf (wTst (wBin PEq (wCall S_take (wCons (wVar 0) (wCons (wC (.int 6)) wNil))) (wC (.int 0)))) (wAsg (wVar 4) (gwName 10)) wNext) (wSeq (wAsg (wCall S2 (wCons (wVar 0) (wCons (wVar 1) (wCons (wVar 9) (wCons (wBin PSub (wVar 3) (wC (.int 1))) (wCons (wVar 10) wNil)))))) (gwName 11)) (wSeq (wDrop (wApp (wVar 6) (wCons (wVar 11) wNil))) (wAsg (wCB PMax (wCons (wC (.int 1)) (wCons (wBin PSub (wVar 7) (wCall S3 (wCons (wVar 11) wNil))) wNil))) (gwName 7))))))
def gB3 (S2 S3 : Spd) : WS := (wSeq (wAsg (wCall S2 (wCons (wVar 0) (wCons (wVar 1) (wCons (wVar 9) (wCons (wBin PSub (wVar 3) (wC (.int 1))) (wCons (wVar 10) wNil)))))) (gwName 11)) (wSeq (wDrop (wApp (wVar 6) (wCons (wVar 11) wNil))) (wAsg (wCB PMax (wCons (wC (.int 1)) (wCons (wBin PSub (wVar 7) (wCall S3 (wCons (wVar 11) wNil))) wNil))) (gwName 7))))
theorem pl_grown1 (d : Nat) (ds : List D) (st : Sto) (Φ : D → Sto → Prop) (h : S_grown (d + 1) ds st Φ) : ds.length = 5 ∧ W_L_grown S_take (S_grown d) (S_leaves d) (endD Φ) (startD N_L_grown ds) st := by
  obtain ⟨n, ws, bud, side, p, b, hw0, hw1, hwn, hsd, hb, rfl, rfl, k⟩ := h
  refine ⟨rfl, ?_⟩
  show W_L_grown _ _ _ _ [some _, some _, some _, some _, some _, none, none, none, none, none, none, none] _
  unfold W_L_grown
  show gCond (gEnv p ws bud (d + 1) side none none none none none none none) [(p, b)] fun c st1 => if c = true then wRet gRet { nx := gTail (S_grown d) (S_leaves d) (endD Φ), rt := (endD Φ).rt, bk := (endD Φ).bk, ct := (endD Φ).ct } (gEnv p ws bud (d + 1) side none none none none none none none) st1 else gTail (S_grown d) (S_leaves d) (endD Φ) (gEnv p ws bud (d + 1) side none none none none none none none) st1
  refine g_cond hb (fun b' hb' => ?_) (fun h2 b' hb' => ?_)
  · rw [if_pos rfl]
    exact g_ret rfl hw0 hw1 hwn hb' (d + 1) k
  rw [if_neg (by decide)]
  obtain ⟨R, hR⟩ : ∃ R : WS, R = gRest (S_grown d) (S_leaves d) := ⟨_, rfl⟩
  have rest : ∀ (c : Nat) (b' : OB), 1 ≤ c → c ≤ 3 → HandB b' → R (endD Φ) (gEnv p ws bud (d + 1) side (some (nD c)) none none none none none none) [(p, b')] := by
    intro c b' hc1 hc3 hb'
    rw [hR]
    unfold gRest
    repeat walk_at "sx"
    obtain ⟨m, hm, hm1, hm3⟩ : ∃ m : Nat, (if bud < (c : Int) then bud else (c : Int)) = (m : Int) ∧ 1 ≤ m ∧ m ≤ 3 := by
      by_cases h : bud < (c : Int)
      · rw [if_pos h]
        exact ⟨bud.toNat, by omega, by omega, by omega⟩
      · rw [if_neg h]
        exact ⟨c, rfl, hc1, hc3⟩
    rw [hm]
    intro pl
    repeat walk_at "sx"
    refine ⟨by omega, by omega, ?_⟩
    rw [intsD_nat]
    refine for_ind (fun r e st => ∃ (i : Nat) (ts : List Tr) (rem : Int) (b' : OB) (x8 x9 x10 x11 : Option D), r = ((List.range m).drop i).map nD ∧ ts.length = i ∧ i ≤ m ∧ (∀ t ∈ ts, TrOk n d t) ∧ HandB b' ∧ e = gEnv p ws bud (d + 1) side (some (nD m)) (some (.own pl)) (some (.int rem)) x8 x9 x10 x11 ∧ st = [(p, b'), (pl, .lst (ts.map trD))]) ?_ ?_ _ _ _ ⟨0, [], bud, b', none, none, none, none, rfl, rfl, Nat.zero_le _, by simp, hb', rfl, rfl⟩
    · rintro K x r e st ⟨i, ts, rem, b1, x8, x9, x10, x11, hr, hts, him, htok, hb1, rfl, rfl⟩ hK
      by_cases hlt : i < m
      · rw [range_drop hlt] at hr
        obtain ⟨rfl, rfl⟩ := List.cons.inj hr
        have r3 : ∀ (v : Int) (s : Nat) (b1 : OB) (F : DEnds), F.nx = K → s < 2 → HandB b1 → gB3 (S_grown d) (S_leaves d) F (gEnv p ws bud (d + 1) side (some (nD m)) (some (.own pl)) (some (.int rem)) (some (nD i)) (some (.int v)) (some (nD s)) x11) [(p, b1), (pl, .lst (ts.map trD))] := by
          intro v s b1 F hF hs hb1
          unfold gB3
          repeat walk_at "sx"
          rw [show ((d + 1 : Nat) : Int) - 1 = ((d : Nat) : Int) by omega]
          refine ⟨[0], [(p, b1)], rfl, by decide, n, ws, v, s, p, b1, hw0, hw1, hwn, hs, hb1, rfl, rfl, fun t b2 ht hb2 => ⟨rfl, ?_⟩⟩
          repeat walk_at "sx"
          refine ⟨1, pl, _, _, rfl, rfl, rfl, by rw [List.length_map]; omega, ?_⟩
          repeat walk_at "sx"
          refine c_pur (r := .int (cntI d t)) ⟨n, t, ht, rfl, rfl⟩ ?_
          repeat walk_at "sx"
          show F.nx _ _
          rw [hF]
          refine hK _ _ ⟨i + 1, ts ++ [t], _, b2, _, _, _, _, rfl, ?_, hlt, ?_, hb2, rfl, ?_⟩
          · rw [List.length_append, hts]; rfl
          · intro y hy
            rcases List.mem_append.mp hy with hy | hy
            · exact htok y hy
            · rw [List.mem_singleton.mp hy]; exact ht
          · rw [List.map_append]; rfl
        obtain ⟨R, hR⟩ : ∃ R : WS, R = gB2 (S_grown d) (S_leaves d) := ⟨_, rfl⟩
        have r2 : ∀ (v : Int) (b1 : OB) (F : DEnds), F.nx = K → HandB b1 → R F (gEnv p ws bud (d + 1) side (some (nD m)) (some (.own pl)) (some (.int rem)) (some (nD i)) (some (.int v)) x10 x11) [(p, b1), (pl, .lst (ts.map trD))] := by
          intro v b1 F hF hb1
          rw [hR]
          unfold gB2
          repeat walk_at "sx"
          refine c_take 0 rfl (by decide) (by decide) hb1 fun j b2 hj hb2 => ?_
          repeat walk_at "sx"
          refine if_any (b := decide ((j : Int) = 0)) (fun _ => ?_) (fun _ => ?_)
          · exact ⟨nD side, rfl, r3 v side b2 _ hF hsd hb2⟩
          · have e : (1 : Int) - (side : Int) = ((1 - side : Nat) : Int) := by omega
            rw [e]
            exact r3 v (1 - side) b2 _ hF (by omega) hb2
        show gwName _ _ _ _ (fun e1 st1 => wSeq _ (wSeq _ (gB2 (S_grown d) (S_leaves d))) _ e1 st1)
        rw [← hR]
        repeat walk_at "sx"
        refine p_div (by show _; unfold CDiv; omega) ?_
        repeat walk_at "sx"
        refine if_any (b := decide ((i : Int) < (m : Int) - 1)) (fun _ => ?_) (fun _ => r2 _ b1 _ (by rfl) hb1)
        repeat walk_at "sx"
        refine c_take 0 rfl (by decide) (by decide) hb1 fun j b2 hj hb2 => ?_
        repeat walk_at "sx"
        refine if_any (b := decide ((j : Int) = 0)) (fun _ => ?_) (fun _ => ?_)
        · repeat walk_at "sx"
          refine r2 _ b2 ?_ ?_ hb2
          rotate_left
          rfl
        · refine r2 _ b2 ?_ ?_ hb2
          rotate_left
          rfl
      · rw [List.drop_eq_nil_of_le (by rw [List.length_range]; omega)] at hr
        cases hr
    · rintro e st ⟨i, ts, rem, b1, x8, x9, x10, x11, hr, hts, him, htok, hb1, rfl, rfl⟩
      have him : i = m := by
        by_cases hlt : i < m
        · rw [range_drop hlt] at hr; cases hr
        · omega
      subst him
      have hsd' : atI [D.str "joins", D.str "meets"] (side : Int) = some (sgD (decide (side = 0))) := by
        match side, hsd with
        | 0, _ => rfl
        | 1, _ => rfl
      repeat walk_at "sx"
      refine p_ixT hsd' ?_
      repeat walk_at "sx"
      refine .keep [0] _ (by decide) rfl ?_
      have k := k (.nd (decide (side = 0)) ts) b1 ⟨by omega, by omega, htok⟩ hb1
      rw [trD_nd] at k
      exact k
  show wSeq _ (wSeq _ (gRest (S_grown d) (S_leaves d))) _ _ _
  rw [← hR]
  repeat walk_at "sx"
  refine c_take (many := 3) 0 rfl (by decide) (by decide) hb' fun j b' hj hb' => ?_
  refine p_add ?_
  have e : (1 : Int) + (j : Int) = ((1 + j : Nat) : Int) := by omega
  rw [e]
  repeat walk_at "sx"
  cases h1 : decide (((1 + j : Nat) : Int) = 1) with
  | false => exact rest (1 + j) _ (by omega) (by omega) hb'
  | true =>
    repeat walk_at "sx"
    refine c_take (many := 3) 0 rfl (by decide) (by decide) hb' fun j2 b2 hj2 hb2 => ?_
    repeat walk_at "sx"
    refine if_any (b := decide ((0 : Int) < (j2 : Int))) (fun _ => ?_) (fun _ => ?_)
    · repeat walk_at "sx"
      exact rest 2 _ (by omega) (by omega) hb2
    · exact rest (1 + j) _ (by omega) (by omega) hb2
end Cw

set_option Elab.async false
set_option linter.all false
set_option maxRecDepth 100000
set_option maxHeartbeats 0
namespace Cw
open PySem hiding Env
open L2 hiding St
open DL
/-- one step -/
local macro_rules | `(tactic| walk_at "sx") => `(tactic| first | (with_reducible refine i_varH ?_; refine ⟨_, rfl, ?_⟩) | (with_reducible first | refine i_seq ?_ | refine i_asg ?_ | refine i_name ?_ | refine i_bin ?_ | refine i_c ?_ | refine i_fld ?_ | refine i_cons ?_ | refine i_nil ?_ | refine i_if ?_ | refine i_tst ?_ | refine i_ret ?_ | refine i_call ?_ | refine i_meth ?_ | refine i_andT ?_ | refine i_orT ?_ | refine i_notT ?_ | refine i_chain ?_ | refine i_is ?_ | refine i_tup ?_ | refine i_lst ?_ | refine i_cb ?_ | refine i_for ?_ | refine i_next ?_ | refine i_drop ?_ | refine i_andV ?_ | refine i_orV ?_ | refine i_notV ?_ | refine i_ifE ?_ | refine i_lstO ?_ | refine i_setF ?_ | refine i_sub ?_ | refine i_app ?_ | refine i_gtup ?_ | refine i_gcons ?_ | refine i_gnil ?_ | refine i_ilst ?_ | refine i_itup ?_ | refine i_irg ?_ | refine i_irgO ?_ | refine i_irev ?_ | refine i_ienT ?_ | refine i_ienL ?_ | refine i_lRg ?_ | refine i_lc ?_ | refine i_lcO ?_ | refine i_yes ?_ | refine i_retN ?_ | refine i_prop ?_ | refine i_makeO ?_ | refine i_make ?_ | refine i_star ?_) | (with_reducible first | refine q_tst ?_ | refine q_ifT ?_ | refine q_ifF ?_ | refine q_nT ?_ | refine q_nF ?_ | refine q_obj ?_ | refine p_add ?_ | refine p_sub ?_ | refine p_lt ?_ | refine p_le ?_ | refine p_gt ?_ | refine p_leB ?_ | refine p_eqI ?_ | refine p_eqS ?_ | refine p_neI ?_ | refine p_isNy ?_ | refine p_notNy ?_ | refine p_isB ?_ | refine p_notB ?_ | refine p_lenT ?_ | refine p_lenL ?_ | refine p_int ?_ | refine p_tupL ?_ | refine p_lstL ?_ | refine p_lstT ?_) | refine ⟨_, _, .inl rfl, rfl, ?_⟩ | refine p_mul (.inr (by decide)) ?_ | refine p_div ⟨by decide, by decide⟩ ?_ | refine p_mod (by decide) ?_ | (with_reducible refine p_abs ?_) | (with_reducible refine p_max ?_) | (with_reducible refine p_min ?_) | refine q_len rfl ?_ | refine ⟨_, .inl rfl, ?_⟩ | refine ⟨_, rfl, ?_⟩ | refine p_ixL rfl ?_ | refine p_ixT rfl ?_ | refine p_ixO 0 rfl rfl ?_ | refine p_ixO 1 rfl rfl ?_ | refine p_ixO 2 rfl rfl ?_ | refine ⟨_, .inr ⟨_, rfl, rfl⟩, ?_⟩ | refine p_ixO 3 rfl rfl ?_ | refine p_ixO 4 rfl rfl ?_ | refine p_ixO 5 rfl rfl ?_ | refine ⟨_, _, .inr ⟨0, _, rfl, rfl⟩, rfl, ?_⟩ | refine ⟨⟨_, .inr ⟨0, _, rfl, rfl⟩⟩, ?_⟩ | refine ⟨⟨0, _, _, rfl, rfl⟩, ?_⟩ | refine p_lenO 0 rfl ?_ | refine p_tupO 0 rfl ?_ | refine ⟨_, _, .inr ⟨1, _, rfl, rfl⟩, rfl, ?_⟩ | refine ⟨⟨_, .inr ⟨1, _, rfl, rfl⟩⟩, ?_⟩ | refine ⟨⟨1, _, _, rfl, rfl⟩, ?_⟩ | refine p_lenO 1 rfl ?_ | refine p_tupO 1 rfl ?_ | refine ⟨_, _, .inr ⟨2, _, rfl, rfl⟩, rfl, ?_⟩ | refine ⟨⟨_, .inr ⟨2, _, rfl, rfl⟩⟩, ?_⟩ | refine ⟨⟨2, _, _, rfl, rfl⟩, ?_⟩ | refine p_lenO 2 rfl ?_ | refine p_tupO 2 rfl ?_ | refine ⟨_, _, .inr ⟨3, _, rfl, rfl⟩, rfl, ?_⟩ | refine ⟨⟨_, .inr ⟨3, _, rfl, rfl⟩⟩, ?_⟩ | refine ⟨⟨3, _, _, rfl, rfl⟩, ?_⟩ | refine p_lenO 3 rfl ?_ | refine p_tupO 3 rfl ?_ | refine ⟨_, _, .inr ⟨4, _, rfl, rfl⟩, rfl, ?_⟩ | refine ⟨⟨_, .inr ⟨4, _, rfl, rfl⟩⟩, ?_⟩ | refine ⟨⟨4, _, _, rfl, rfl⟩, ?_⟩ | refine p_lenO 4 rfl ?_ | refine p_tupO 4 rfl ?_ | refine ⟨_, _, .inr ⟨5, _, rfl, rfl⟩, rfl, ?_⟩ | refine ⟨⟨_, .inr ⟨5, _, rfl, rfl⟩⟩, ?_⟩ | refine ⟨⟨5, _, _, rfl, rfl⟩, ?_⟩ | refine p_lenO 5 rfl ?_ | refine p_tupO 5 rfl ?_)
local macro_rules | `(tactic| walk_at "sy") => `(tactic| first | walk_at "sx" | refine p_ixT (at_rowsT (by assumption)) ?_ | refine p_ixT (at_range (by assumption)) ?_ | refine p_ixL (at_rowsL (by assumption)) ?_ | refine p_ixL (at_range (by assumption)) ?_ | refine ⟨_, rfl, rfl, ?_⟩ | refine ⟨rfl, ?_⟩ | refine ⟨0, _, _, _, rfl, rfl, .inl ⟨rfl, rfl⟩, ?_⟩ | refine ⟨0, _, _, _, rfl, rfl, .inr ⟨lt_ok rfl, rfl⟩, ?_⟩ | refine ⟨1, _, _, _, rfl, rfl, .inl ⟨rfl, rfl⟩, ?_⟩ | refine ⟨1, _, _, _, rfl, rfl, .inr ⟨lt_ok rfl, rfl⟩, ?_⟩ | refine ⟨2, _, _, _, rfl, rfl, .inl ⟨rfl, rfl⟩, ?_⟩ | refine ⟨2, _, _, _, rfl, rfl, .inr ⟨lt_ok rfl, rfl⟩, ?_⟩ | refine ⟨3, _, _, _, rfl, rfl, .inl ⟨rfl, rfl⟩, ?_⟩ | refine ⟨3, _, _, _, rfl, rfl, .inr ⟨lt_ok rfl, rfl⟩, ?_⟩)
local macro_rules | `(tactic| walk_at "sw") => `(tactic| first | walk_at "sy" | refine i_forc ?_ | refine i_forn ?_ | refine i_lcc ?_ | refine i_lcn ?_ | refine ⟨0, _, _, _, rfl, rfl, rfl, lt_ok rfl, ?_⟩ | refine ⟨1, _, _, _, rfl, rfl, rfl, lt_ok rfl, ?_⟩ | refine ⟨2, _, _, _, rfl, rfl, rfl, lt_ok rfl, ?_⟩ | refine ⟨3, _, _, _, rfl, rfl, rfl, lt_ok rfl, ?_⟩)

/-! ### families of sets: a lattice -/
structure Fam (p : Nat) (ss : List (List Nat)) : Prop where
  lt : ∀ s ∈ ss, ∀ x ∈ s, x < p
  ln : ∀ s ∈ ss, s.length ≤ p
  ne : ss ≠ []
  nd : ss.Pairwise fun s t => ¬ ∀ x, x ∈ s ↔ x ∈ t
  un : ∀ s ∈ ss, ∀ t ∈ ss, ∃ u ∈ ss, ∀ x, x ∈ u ↔ x ∈ s ∨ x ∈ t
  it : ∀ s ∈ ss, ∀ t ∈ ss, ∃ u ∈ ss, ∀ x, x ∈ u ↔ x ∈ s ∧ x ∈ t
abbrev gs (ss : List (List Nat)) (i : Nat) : List Nat := ss.getD i []
def leF (ss : List (List Nat)) (i j : Nat) : Bool := decide (∀ x ∈ gs ss i, x ∈ gs ss j)
theorem gs_mem {ss : List (List Nat)} {i : Nat} (h : i < ss.length) : gs ss i ∈ ss := by
  have : gs ss i = ss[i] := by simp [gs, List.getD, h]
  rw [this]
  exact List.getElem_mem h
theorem gs_of {ss : List (List Nat)} {s : List Nat} (h : s ∈ ss) : ∃ i, i < ss.length ∧ gs ss i = s := by
  obtain ⟨i, hi, e⟩ := List.mem_iff_getElem.mp h
  exact ⟨i, hi, by simp [gs, List.getD, hi, e]⟩
theorem leF_iff {ss : List (List Nat)} {i j : Nat} : leF ss i j = true ↔ ∀ x ∈ gs ss i, x ∈ gs ss j := by unfold leF; exact decide_eq_true_iff
theorem pick2 {C : Nat → Nat → Prop} {P : Nat → Nat → Nat → Prop} (h : ∀ i j, C i j → ∃ k, P i j k) : ∃ f : Nat → Nat → Nat, ∀ i j, C i j → P i j (f i j) := by
  refine ⟨fun i j => @dite _ (C i j) (Classical.propDecidable _) (fun c => Classical.choose (h i j c)) fun _ => 0, fun i j c => ?_⟩
  show P i j (@dite _ (C i j) (Classical.propDecidable _) _ _)
  rw [dif_pos c]
  exact Classical.choose_spec (h i j c)
section
variable {p : Nat} {ss : List (List Nat)}
theorem Fam.uni (F : Fam p ss) : ∃ f : Nat → Nat → Nat, ∀ i j, i < ss.length ∧ j < ss.length → f i j < ss.length ∧ ∀ x, x ∈ gs ss (f i j) ↔ x ∈ gs ss i ∨ x ∈ gs ss j :=
  pick2 (C := fun i j => i < ss.length ∧ j < ss.length) (P := fun i j k => k < ss.length ∧ ∀ x, x ∈ gs ss k ↔ x ∈ gs ss i ∨ x ∈ gs ss j) fun i j h => by
    obtain ⟨u, hu, e⟩ := F.un _ (gs_mem h.1) _ (gs_mem h.2)
    obtain ⟨k, hk, rfl⟩ := gs_of hu
    exact ⟨k, hk, e⟩
theorem Fam.int (F : Fam p ss) : ∃ f : Nat → Nat → Nat, ∀ i j, i < ss.length ∧ j < ss.length → f i j < ss.length ∧ ∀ x, x ∈ gs ss (f i j) ↔ x ∈ gs ss i ∧ x ∈ gs ss j :=
  pick2 (C := fun i j => i < ss.length ∧ j < ss.length) (P := fun i j k => k < ss.length ∧ ∀ x, x ∈ gs ss k ↔ x ∈ gs ss i ∧ x ∈ gs ss j) fun i j h => by
    obtain ⟨u, hu, e⟩ := F.it _ (gs_mem h.1) _ (gs_mem h.2)
    obtain ⟨k, hk, rfl⟩ := gs_of hu
    exact ⟨k, hk, e⟩
theorem Fam.top (F : Fam p ss) : ∃ t, t < ss.length ∧ ∀ i, i < ss.length → leF ss i t = true := by
  have gen : ∀ l : List (List Nat), (∀ s ∈ l, s ∈ ss) → ∃ u ∈ ss, ∀ s ∈ l, ∀ x ∈ s, x ∈ u := by
    intro l
    induction l with
    | nil =>
      intro _
      obtain ⟨s, hs⟩ := List.exists_mem_of_ne_nil ss F.ne
      exact ⟨s, hs, by simp⟩
    | cons a l ih =>
      intro h
      obtain ⟨u, hu, h1⟩ := ih fun s m => h s (List.mem_cons_of_mem _ m)
      obtain ⟨v, hv, h2⟩ := F.un a (h a List.mem_cons_self) u hu
      refine ⟨v, hv, fun s hs x hx => ?_⟩
      rcases List.mem_cons.mp hs with rfl | hs
      · exact (h2 x).mpr (.inl hx)
      · exact (h2 x).mpr (.inr (h1 s hs x hx))
  obtain ⟨u, hu, h⟩ := gen ss fun _ h => h
  obtain ⟨t, ht, rfl⟩ := gs_of hu
  exact ⟨t, ht, fun i hi => leF_iff.mpr (h _ (gs_mem hi))⟩
theorem Fam.bot (F : Fam p ss) : ∃ t, t < ss.length ∧ ∀ i, i < ss.length → leF ss t i = true := by
  have gen : ∀ l : List (List Nat), (∀ s ∈ l, s ∈ ss) → ∃ u ∈ ss, ∀ s ∈ l, ∀ x ∈ u, x ∈ s := by
    intro l
    induction l with
    | nil =>
      intro _
      obtain ⟨s, hs⟩ := List.exists_mem_of_ne_nil ss F.ne
      exact ⟨s, hs, by simp⟩
    | cons a l ih =>
      intro h
      obtain ⟨u, hu, h1⟩ := ih fun s m => h s (List.mem_cons_of_mem _ m)
      obtain ⟨v, hv, h2⟩ := F.it a (h a List.mem_cons_self) u hu
      refine ⟨v, hv, fun s hs x hx => ?_⟩
      rcases List.mem_cons.mp hs with rfl | hs
      · exact ((h2 x).mp hx).1
      · exact h1 s hs x ((h2 x).mp hx).2
  obtain ⟨u, hu, h⟩ := gen ss fun _ h => h
  obtain ⟨t, ht, rfl⟩ := gs_of hu
  exact ⟨t, ht, fun i hi => leF_iff.mpr (h _ (gs_mem hi))⟩
theorem Fam.lat (F : Fam p ss) (few : ss.length ≤ 16) : ∃ L : Lat, L.Ord ∧ L.n = ss.length ∧ L.le = leF ss := by
  obtain ⟨f, hf⟩ := F.uni
  obtain ⟨g, hg⟩ := F.int
  obtain ⟨t, ht, h1⟩ := F.top
  obtain ⟨b, hb, h2⟩ := F.bot
  refine ⟨⟨ss.length, leF ss, f, g, b, t⟩, ?_, rfl, rfl⟩
  exact {
    pos := List.length_pos_iff.mpr F.ne
    few := few
    jlt := fun i j hi hj => (hf i j ⟨hi, hj⟩).1
    mlt := fun i j hi hj => (hg i j ⟨hi, hj⟩).1
    btl := hb
    tpl := ht
    refl := fun i hi => leF_iff.mpr fun _ h => h
    anti := fun i j hi hj h1 h2 => by
      have h1 := leF_iff.mp h1
      have h2 := leF_iff.mp h2
      have nd := List.pairwise_iff_getElem.mp F.nd
      have e1 : gs ss i = ss[i] := by have : i < ss.length := hi; simp [gs, List.getD, this]
      have e2 : gs ss j = ss[j] := by have : j < ss.length := hj; simp [gs, List.getD, this]
      rw [e1, e2] at h1 h2
      rcases Nat.lt_trichotomy i j with h | h | h
      · exact absurd (fun x => ⟨h1 x, h2 x⟩) (nd i j hi hj h)
      · exact h
      · exact absurd (fun x => ⟨h2 x, h1 x⟩) (nd j i hj hi h)
    trans := fun i j k _ _ _ h1 h2 => leF_iff.mpr fun x hx => leF_iff.mp h2 x (leF_iff.mp h1 x hx)
    ju1 := fun i j hi hj => leF_iff.mpr fun x hx => ((hf i j ⟨hi, hj⟩).2 x).mpr (.inl hx)
    ju2 := fun i j hi hj => leF_iff.mpr fun x hx => ((hf i j ⟨hi, hj⟩).2 x).mpr (.inr hx)
    jl := fun i j k hi hj hk h1 h2 => leF_iff.mpr fun x hx => (((hf i j ⟨hi, hj⟩).2 x).mp hx).elim (leF_iff.mp h1 x) (leF_iff.mp h2 x)
    ml1 := fun i j hi hj => leF_iff.mpr fun x hx => (((hg i j ⟨hi, hj⟩).2 x).mp hx).1
    ml2 := fun i j hi hj => leF_iff.mpr fun x hx => (((hg i j ⟨hi, hj⟩).2 x).mp hx).2
    mg := fun i j k hi hj hk h1 h2 => leF_iff.mpr fun x hx => ((hg i j ⟨hi, hj⟩).2 x).mpr ⟨leF_iff.mp h1 x hx, leF_iff.mp h2 x hx⟩
    bm := h2
    tm := h1 }
theorem Fam.perm {ts : List (List Nat)} (F : Fam p ss) (h : ts.Perm ss) : Fam p ts where
  lt := fun s hs => F.lt s (h.mem_iff.mp hs)
  ln := fun s hs => F.ln s (h.mem_iff.mp hs)
  ne := fun e => F.ne (by subst e; exact h.nil_eq.symm)
  nd := (h.pairwise_iff (fun {a b} hab hba => hab fun x => (hba x).symm)).mpr F.nd
  un := fun s hs t ht => by
    obtain ⟨u, hu, e⟩ := F.un s (h.mem_iff.mp hs) t (h.mem_iff.mp ht)
    exact ⟨u, h.mem_iff.mpr hu, e⟩
  it := fun s hs t ht => by
    obtain ⟨u, hu, e⟩ := F.it s (h.mem_iff.mp hs) t (h.mem_iff.mp ht)
    exact ⟨u, h.mem_iff.mpr hu, e⟩
end
/-! ### lower sets, point by point -/
def okS (bel : List Nat) (s : List Nat) : Bool := decide (∀ q ∈ bel, q ∈ s)
def lowF (below : List (List Nat)) : Nat → List (List Nat)
  | 0 => [[]]
  | p + 1 => lowF below p ++ ((lowF below p).filter (okS (below.getD p []))).map (· ++ [p])
theorem low_len (below : List (List Nat)) : ∀ p, (lowF below p).length ≤ 2 ^ p
  | 0 => Nat.le_refl _
  | p + 1 => by
    have ih := low_len below p
    have h := List.length_filter_le (okS (below.getD p [])) (lowF below p)
    rw [lowF, List.length_append, List.length_map, Nat.pow_succ]
    omega
theorem low_fam (below : List (List Nat)) : ∀ p, Fam p (lowF below p)
  | 0 => {
    lt := by simp [lowF]
    ln := by simp [lowF]
    ne := by simp [lowF]
    nd := by simp [lowF]
    un := fun s hs t ht => ⟨[], by simp [lowF], by simp [lowF] at hs ht; subst hs ht; simp⟩
    it := fun s hs t ht => ⟨[], by simp [lowF], by simp [lowF] at hs ht; subst hs ht; simp⟩ }
  | p + 1 => by
    have F := low_fam below p
    have mem : ∀ s, s ∈ lowF below (p + 1) ↔ s ∈ lowF below p ∨ ∃ t ∈ lowF below p, okS (below.getD p []) t = true ∧ s = t ++ [p] := fun s => by
      rw [lowF, List.mem_append, List.mem_map]
      constructor
      · rintro (h | ⟨t, ht, e⟩)
        · exact .inl h
        · obtain ⟨h1, h2⟩ := List.mem_filter.mp ht
          exact .inr ⟨t, h1, h2, e.symm⟩
      · rintro (h | ⟨t, h1, h2, e⟩)
        · exact .inl h
        · exact .inr ⟨t, List.mem_filter.mpr ⟨h1, h2⟩, e.symm⟩
    have ok : ∀ t, okS (below.getD p []) t = true ↔ ∀ q ∈ below.getD p [], q ∈ t := fun t => decide_eq_true_iff
    have np : ∀ t ∈ lowF below p, p ∉ t := fun t ht h => Nat.lt_irrefl _ (F.lt t ht p h)
    have ma : ∀ (t : List Nat) (x : Nat), x ∈ t ++ [p] ↔ x ∈ t ∨ x = p := fun t x => by rw [List.mem_append, List.mem_singleton]
    refine { lt := fun s hs x hx => ?_, ln := fun s hs => ?_, ne := ?_, nd := ?_, un := fun s hs t ht => ?_, it := fun s hs t ht => ?_ }
    · rcases (mem s).mp hs with h | ⟨t, h1, h2, rfl⟩
      · have := F.lt s h x hx; omega
      · rcases (ma t x).mp hx with hx | rfl
        · have := F.lt t h1 x hx; omega
        · omega
    · rcases (mem s).mp hs with h | ⟨t, h1, h2, rfl⟩
      · have := F.ln s h; omega
      · have := F.ln t h1
        rw [List.length_append]; simp; omega
    · rw [lowF]
      intro e
      exact F.ne (List.append_eq_nil_iff.mp e).1
    · rw [lowF, List.pairwise_append]
      refine ⟨F.nd, ?_, fun s hs t ht e => ?_⟩
      · rw [List.pairwise_map]
        refine (F.nd.filter _).imp_of_mem fun {a b} ha hb h e => h fun x => ?_
        have ha := np a (List.mem_filter.mp ha).1
        have hb := np b (List.mem_filter.mp hb).1
        have e := e x
        rw [ma, ma] at e
        constructor
        · intro hx
          rcases e.mp (.inl hx) with z | z
          · exact z
          · subst z; exact absurd hx ha
        · intro hx
          rcases e.mpr (.inl hx) with z | z
          · exact z
          · subst z; exact absurd hx hb
      · obtain ⟨u, hu, rfl⟩ := List.mem_map.mp ht
        exact np s hs ((e p).mpr ((ma u p).mpr (.inr rfl)))
    · rcases (mem s).mp hs with h | ⟨s', h1, h2, rfl⟩
      · rcases (mem t).mp ht with g | ⟨t', g1, g2, rfl⟩
        · obtain ⟨u, hu, e⟩ := F.un s h t g
          exact ⟨u, (mem u).mpr (.inl hu), e⟩
        · obtain ⟨u, hu, e⟩ := F.un s h t' g1
          refine ⟨u ++ [p], (mem _).mpr (.inr ⟨u, hu, (ok u).mpr fun q hq => (e q).mpr (.inr ((ok t').mp g2 q hq)), rfl⟩), fun x => ?_⟩
          rw [ma, ma, e x, or_assoc]
      · rcases (mem t).mp ht with g | ⟨t', g1, g2, rfl⟩
        · obtain ⟨u, hu, e⟩ := F.un s' h1 t g
          refine ⟨u ++ [p], (mem _).mpr (.inr ⟨u, hu, (ok u).mpr fun q hq => (e q).mpr (.inl ((ok s').mp h2 q hq)), rfl⟩), fun x => ?_⟩
          rw [ma, ma, e x]
          constructor
          · rintro ((a | a) | a)
            · exact .inl (.inl a)
            · exact .inr a
            · exact .inl (.inr a)
          · rintro ((a | a) | a)
            · exact .inl (.inl a)
            · exact .inr a
            · exact .inl (.inr a)
        · obtain ⟨u, hu, e⟩ := F.un s' h1 t' g1
          refine ⟨u ++ [p], (mem _).mpr (.inr ⟨u, hu, (ok u).mpr fun q hq => (e q).mpr (.inl ((ok s').mp h2 q hq)), rfl⟩), fun x => ?_⟩
          rw [ma, ma, ma, e x]
          constructor
          · rintro ((a | a) | a)
            · exact .inl (.inl a)
            · exact .inr (.inl a)
            · exact .inl (.inr a)
          · rintro ((a | a) | (a | a))
            · exact .inl (.inl a)
            · exact .inr a
            · exact .inl (.inr a)
            · exact .inr a
    · rcases (mem s).mp hs with h | ⟨s', h1, h2, rfl⟩
      · rcases (mem t).mp ht with g | ⟨t', g1, g2, rfl⟩
        · obtain ⟨u, hu, e⟩ := F.it s h t g
          exact ⟨u, (mem u).mpr (.inl hu), e⟩
        · obtain ⟨u, hu, e⟩ := F.it s h t' g1
          refine ⟨u, (mem _).mpr (.inl hu), fun x => ?_⟩
          rw [ma, e x]
          constructor
          · exact fun a => ⟨a.1, .inl a.2⟩
          · rintro ⟨a, b | b⟩
            · exact ⟨a, b⟩
            · subst b; exact absurd a (np s h)
      · rcases (mem t).mp ht with g | ⟨t', g1, g2, rfl⟩
        · obtain ⟨u, hu, e⟩ := F.it s' h1 t g
          refine ⟨u, (mem _).mpr (.inl hu), fun x => ?_⟩
          rw [ma, e x]
          constructor
          · exact fun a => ⟨.inl a.1, a.2⟩
          · rintro ⟨b | b, a⟩
            · exact ⟨b, a⟩
            · subst b; exact absurd a (np t g)
        · obtain ⟨u, hu, e⟩ := F.it s' h1 t' g1
          refine ⟨u ++ [p], (mem _).mpr (.inr ⟨u, hu, (ok u).mpr fun q hq => (e q).mpr ⟨(ok s').mp h2 q hq, (ok t').mp g2 q hq⟩, rfl⟩), fun x => ?_⟩
          rw [ma, ma, ma, e x]
          constructor
          · rintro (a | a)
            · exact ⟨.inl a.1, .inl a.2⟩
            · exact ⟨.inr a, .inr a⟩
          · rintro ⟨a | a, b | b⟩
            · exact .inl ⟨a, b⟩
            · exact .inr b
            · exact .inr a
            · exact .inr a
end Cw

set_option Elab.async false
set_option linter.all false
set_option maxRecDepth 100000
set_option maxHeartbeats 0
namespace Cw
open PySem hiding Env
open L2 hiding St
open DL
/-- one step -/
local macro_rules | `(tactic| walk_at "sx") => `(tactic| first | (with_reducible refine i_varH ?_; refine ⟨_, rfl, ?_⟩) | (with_reducible first | refine i_seq ?_ | refine i_asg ?_ | refine i_name ?_ | refine i_bin ?_ | refine i_c ?_ | refine i_fld ?_ | refine i_cons ?_ | refine i_nil ?_ | refine i_if ?_ | refine i_tst ?_ | refine i_ret ?_ | refine i_call ?_ | refine i_meth ?_ | refine i_andT ?_ | refine i_orT ?_ | refine i_notT ?_ | refine i_chain ?_ | refine i_is ?_ | refine i_tup ?_ | refine i_lst ?_ | refine i_cb ?_ | refine i_for ?_ | refine i_next ?_ | refine i_drop ?_ | refine i_andV ?_ | refine i_orV ?_ | refine i_notV ?_ | refine i_ifE ?_ | refine i_lstO ?_ | refine i_setF ?_ | refine i_sub ?_ | refine i_app ?_ | refine i_gtup ?_ | refine i_gcons ?_ | refine i_gnil ?_ | refine i_ilst ?_ | refine i_itup ?_ | refine i_irg ?_ | refine i_irgO ?_ | refine i_irev ?_ | refine i_ienT ?_ | refine i_ienL ?_ | refine i_lRg ?_ | refine i_lc ?_ | refine i_lcO ?_ | refine i_yes ?_ | refine i_retN ?_ | refine i_prop ?_ | refine i_makeO ?_ | refine i_make ?_ | refine i_star ?_) | (with_reducible first | refine q_tst ?_ | refine q_ifT ?_ | refine q_ifF ?_ | refine q_nT ?_ | refine q_nF ?_ | refine q_obj ?_ | refine p_add ?_ | refine p_sub ?_ | refine p_lt ?_ | refine p_le ?_ | refine p_gt ?_ | refine p_leB ?_ | refine p_eqI ?_ | refine p_eqS ?_ | refine p_neI ?_ | refine p_isNy ?_ | refine p_notNy ?_ | refine p_isB ?_ | refine p_notB ?_ | refine p_lenT ?_ | refine p_lenL ?_ | refine p_int ?_ | refine p_tupL ?_ | refine p_lstL ?_ | refine p_lstT ?_) | refine ⟨_, _, .inl rfl, rfl, ?_⟩ | refine p_mul (.inr (by decide)) ?_ | refine p_div ⟨by decide, by decide⟩ ?_ | refine p_mod (by decide) ?_ | (with_reducible refine p_abs ?_) | (with_reducible refine p_max ?_) | (with_reducible refine p_min ?_) | refine q_len rfl ?_ | refine ⟨_, .inl rfl, ?_⟩ | refine ⟨_, rfl, ?_⟩ | refine p_ixL rfl ?_ | refine p_ixT rfl ?_ | refine p_ixO 0 rfl rfl ?_ | refine p_ixO 1 rfl rfl ?_ | refine p_ixO 2 rfl rfl ?_ | refine ⟨_, .inr ⟨_, rfl, rfl⟩, ?_⟩ | refine p_ixO 3 rfl rfl ?_ | refine p_ixO 4 rfl rfl ?_ | refine p_ixO 5 rfl rfl ?_ | refine ⟨_, _, .inr ⟨0, _, rfl, rfl⟩, rfl, ?_⟩ | refine ⟨⟨_, .inr ⟨0, _, rfl, rfl⟩⟩, ?_⟩ | refine ⟨⟨0, _, _, rfl, rfl⟩, ?_⟩ | refine p_lenO 0 rfl ?_ | refine p_tupO 0 rfl ?_ | refine ⟨_, _, .inr ⟨1, _, rfl, rfl⟩, rfl, ?_⟩ | refine ⟨⟨_, .inr ⟨1, _, rfl, rfl⟩⟩, ?_⟩ | refine ⟨⟨1, _, _, rfl, rfl⟩, ?_⟩ | refine p_lenO 1 rfl ?_ | refine p_tupO 1 rfl ?_ | refine ⟨_, _, .inr ⟨2, _, rfl, rfl⟩, rfl, ?_⟩ | refine ⟨⟨_, .inr ⟨2, _, rfl, rfl⟩⟩, ?_⟩ | refine ⟨⟨2, _, _, rfl, rfl⟩, ?_⟩ | refine p_lenO 2 rfl ?_ | refine p_tupO 2 rfl ?_ | refine ⟨_, _, .inr ⟨3, _, rfl, rfl⟩, rfl, ?_⟩ | refine ⟨⟨_, .inr ⟨3, _, rfl, rfl⟩⟩, ?_⟩ | refine ⟨⟨3, _, _, rfl, rfl⟩, ?_⟩ | refine p_lenO 3 rfl ?_ | refine p_tupO 3 rfl ?_ | refine ⟨_, _, .inr ⟨4, _, rfl, rfl⟩, rfl, ?_⟩ | refine ⟨⟨_, .inr ⟨4, _, rfl, rfl⟩⟩, ?_⟩ | refine ⟨⟨4, _, _, rfl, rfl⟩, ?_⟩ | refine p_lenO 4 rfl ?_ | refine p_tupO 4 rfl ?_ | refine ⟨_, _, .inr ⟨5, _, rfl, rfl⟩, rfl, ?_⟩ | refine ⟨⟨_, .inr ⟨5, _, rfl, rfl⟩⟩, ?_⟩ | refine ⟨⟨5, _, _, rfl, rfl⟩, ?_⟩ | refine p_lenO 5 rfl ?_ | refine p_tupO 5 rfl ?_)
local macro_rules | `(tactic| walk_at "sy") => `(tactic| first | walk_at "sx" | refine p_ixT (at_rowsT (by assumption)) ?_ | refine p_ixT (at_range (by assumption)) ?_ | refine p_ixL (at_rowsL (by assumption)) ?_ | refine p_ixL (at_range (by assumption)) ?_ | refine ⟨_, rfl, rfl, ?_⟩ | refine ⟨rfl, ?_⟩ | refine ⟨0, _, _, _, rfl, rfl, .inl ⟨rfl, rfl⟩, ?_⟩ | refine ⟨0, _, _, _, rfl, rfl, .inr ⟨lt_ok rfl, rfl⟩, ?_⟩ | refine ⟨1, _, _, _, rfl, rfl, .inl ⟨rfl, rfl⟩, ?_⟩ | refine ⟨1, _, _, _, rfl, rfl, .inr ⟨lt_ok rfl, rfl⟩, ?_⟩ | refine ⟨2, _, _, _, rfl, rfl, .inl ⟨rfl, rfl⟩, ?_⟩ | refine ⟨2, _, _, _, rfl, rfl, .inr ⟨lt_ok rfl, rfl⟩, ?_⟩ | refine ⟨3, _, _, _, rfl, rfl, .inl ⟨rfl, rfl⟩, ?_⟩ | refine ⟨3, _, _, _, rfl, rfl, .inr ⟨lt_ok rfl, rfl⟩, ?_⟩)
local macro_rules | `(tactic| walk_at "sw") => `(tactic| first | walk_at "sy" | refine i_forc ?_ | refine i_forn ?_ | refine i_lcc ?_ | refine i_lcn ?_ | refine ⟨0, _, _, _, rfl, rfl, rfl, lt_ok rfl, ?_⟩ | refine ⟨1, _, _, _, rfl, rfl, rfl, lt_ok rfl, ?_⟩ | refine ⟨2, _, _, _, rfl, rfl, rfl, lt_ok rfl, ?_⟩ | refine ⟨3, _, _, _, rfl, rfl, rfl, lt_ok rfl, ?_⟩)

/-! ### L_bound, L_lattice -/
theorem bnd_head {n : Nat} {F : Nat → Nat → Bool} {x y g : Nat} (an : Anti n F) (lub : Lub n F x y g) {ab : List Nat} (hab : ab = (List.range n).filter fun z => F x z && F y z) :
    (ab.filter fun z => decide ((((ab.filter fun w => F z w).map nD).length : Int) = ((ab.map nD).length : Int)))[0]? = some g := by
  have mem : ∀ z, z ∈ ab ↔ z < n ∧ F x z = true ∧ F y z = true := fun z => by
    rw [hab, List.mem_filter, List.mem_range, Bool.and_eq_true]
  refine head_filter ((mem g).mpr ⟨lub.lt, lub.u1, lub.u2⟩) ?_ fun z hz h => ?_
  · refine decide_eq_true ?_
    have e : ab.filter (fun w => F g w) = ab := List.filter_eq_self.mpr fun w hw => by
      obtain ⟨a, b, c⟩ := (mem w).mp hw
      exact lub.l w a b c
    rw [e]
  · have h := of_decide_eq_true h
    rw [List.length_map, List.length_map] at h
    have all := List.length_filter_eq_length_iff.mp (show (ab.filter fun w => F z w).length = ab.length by omega)
    obtain ⟨a, b, c⟩ := (mem z).mp hz
    exact an z g a lub.lt (all g ((mem g).mpr ⟨lub.lt, lub.u1, lub.u2⟩)) (lub.l z a b c)
def dirF (up : Bool) (f : Nat → Nat → Bool) : Nat → Nat → Bool := if up = true then f else fun i j => f j i
def S_bound : Spd := Pur fun ds r => ∃ (n : Nat) (f : Nat → Nat → Bool) (up : Bool) (x y g : Nat), n ≤ 16 ∧ Anti n (dirF up f) ∧ x < n ∧ y < n ∧ Lub n (dirF up f) x y g ∧ ds = [blL n f, nD n, nD x, nD y, .bl up] ∧ r = nD g
theorem pl_bound (ds : List D) (st : Sto) (Φ : D → Sto → Prop) (h : S_bound ds st Φ) : ds.length = 5 ∧ W_L_bound (endD Φ) (startD N_L_bound ds) st := by
  obtain ⟨rfl, r, ⟨n, f, up, x, y, g, hn, an, hx, hy, lub, rfl, rfl⟩, k⟩ := h
  refine ⟨rfl, ?_⟩
  show W_L_bound  _ [some _, some _, some _, some _, some _, none, none, none] _
  unfold W_L_bound
  repeat walk_at "sy"
  cases up
  · have an : Anti n fun i j => f j i := an
    have lub : Lub n (fun i j => f j i) x y g := lub
    repeat walk_at "sy"
    refine ⟨by omega, by omega, ?_⟩
    rw [intsD_nat]
    refine ⟨by rw [len_mr]; omega, lc_gen (List.range n) nD (fun z => f z x && f z y) nD (fun z hz Θ hΘ => ?_) (fun i hi _ Ψ hΨ => ?_) _ ?_⟩
    · have hz := List.mem_range.mp hz
      repeat walk_at "sy"
      cases h1 : f z x with
      | false => rw [h1] at hΘ; exact hΘ
      | true =>
        rw [h1] at hΘ
        repeat walk_at "sy"
        exact hΘ
    · repeat walk_at "sy"
      exact hΨ
    rw [List.nil_append]
    have hd := bnd_head an lub rfl
    generalize hA : (List.range n).filter (fun z => f z x && f z y) = ab at hd ⊢
    have mem : ∀ z, z ∈ ab → z < n := fun z => by
      rw [← hA, List.mem_filter, List.mem_range]
      exact fun h => h.1
    have hal : ab.length ≤ 16 := by
      rw [← hA]
      have := List.length_filter_le (fun z => f z x && f z y) (List.range n)
      rw [List.length_range] at this
      omega
    clear hA
    repeat walk_at "sy"
    refine ⟨by rw [List.length_map]; omega, lc_gen ab nD (fun z => decide ((((ab.filter fun w => f w z).map nD).length : Int) = ((ab.map nD).length : Int))) nD (fun z hz Θ hΘ => ?_) (fun i hi _ Ψ hΨ => ?_) _ ?_⟩
    · have hz := mem z hz
      repeat walk_at "sy"
      refine ⟨by rw [List.length_map]; omega, lc_gen ab nD (fun w => f w z) nD (fun w hw Θ' hΘ' => ?_) (fun i hi _ Ψ hΨ => ?_) _ ?_⟩
      · have hw := mem w hw
        repeat walk_at "sy"
        exact hΘ'
      · repeat walk_at "sy"
        exact hΨ
      rw [List.nil_append]
      repeat walk_at "sy"
      exact hΘ
    · repeat walk_at "sy"
      exact hΨ
    rw [List.nil_append]
    repeat walk_at "sy"
    refine p_ixL (at0 hd) ?_
    exact e_keep k
  · have an : Anti n f := an
    have lub : Lub n f x y g := lub
    repeat walk_at "sy"
    refine ⟨by omega, by omega, ?_⟩
    rw [intsD_nat]
    refine ⟨by rw [len_mr]; omega, lc_gen (List.range n) nD (fun z => f x z && f y z) nD (fun z hz Θ hΘ => ?_) (fun i hi _ Ψ hΨ => ?_) _ ?_⟩
    · have hz := List.mem_range.mp hz
      repeat walk_at "sy"
      cases h1 : f x z with
      | false => rw [h1] at hΘ; exact hΘ
      | true =>
        rw [h1] at hΘ
        repeat walk_at "sy"
        exact hΘ
    · repeat walk_at "sy"
      exact hΨ
    rw [List.nil_append]
    have hd := bnd_head an lub rfl
    generalize hA : (List.range n).filter (fun z => f x z && f y z) = ab at hd ⊢
    have mem : ∀ z, z ∈ ab → z < n := fun z => by
      rw [← hA, List.mem_filter, List.mem_range]
      exact fun h => h.1
    have hal : ab.length ≤ 16 := by
      rw [← hA]
      have := List.length_filter_le (fun z => f x z && f y z) (List.range n)
      rw [List.length_range] at this
      omega
    clear hA
    repeat walk_at "sy"
    refine ⟨by rw [List.length_map]; omega, lc_gen ab nD (fun z => decide ((((ab.filter fun w => f z w).map nD).length : Int) = ((ab.map nD).length : Int))) nD (fun z hz Θ hΘ => ?_) (fun i hi _ Ψ hΨ => ?_) _ ?_⟩
    · have hz := mem z hz
      repeat walk_at "sy"
      refine ⟨by rw [List.length_map]; omega, lc_gen ab nD (fun w => f z w) nD (fun w hw Θ' hΘ' => ?_) (fun i hi _ Ψ hΨ => ?_) _ ?_⟩
      · have hw := mem w hw
        repeat walk_at "sy"
        exact hΘ'
      · repeat walk_at "sy"
        exact hΨ
      rw [List.nil_append]
      repeat walk_at "sy"
      exact hΘ
    · repeat walk_at "sy"
      exact hΨ
    rw [List.nil_append]
    repeat walk_at "sy"
    refine p_ixL (at0 hd) ?_
    exact e_keep k
abbrev stD (s : List Nat) : D := .tup (s.map nD)
theorem map_gs {α : Type} (ss : List (List Nat)) (f : List Nat → α) : ss.map f = (List.range ss.length).map fun i => f (gs ss i) := by
  apply List.ext_getElem?
  intro i
  by_cases hi : i < ss.length
  · rw [List.getElem?_map, List.getElem?_map, List.getElem?_range hi, List.getElem?_eq_getElem hi]
    simp [gs, List.getD, hi]
  · rw [List.getElem?_eq_none (by rw [List.length_map]; omega), List.getElem?_eq_none (by rw [len_mr]; omega)]
theorem sub_len (s t : List Nat) : decide ((((s.filter fun (x : Nat) => !decide ((x : Int) ∈ t.map fun (n : Nat) => (n : Int))).map nD).length : Int) = 0) = decide (∀ x ∈ s, x ∈ t) := by
  have e : ∀ x : Nat, ((x : Int) ∈ t.map fun (n : Nat) => (n : Int)) ↔ x ∈ t := fun x => by
    rw [List.mem_map]
    constructor
    · rintro ⟨y, hy, h⟩
      have : y = x := by omega
      rw [← this]; exact hy
    · exact fun h => ⟨x, h, rfl⟩
  by_cases h : ∀ x ∈ s, x ∈ t
  · rw [decide_eq_true h]
    refine decide_eq_true ?_
    rw [List.length_map, List.filter_eq_nil_iff.mpr fun x hx => by rw [decide_eq_true ((e x).mpr (h x hx))]; decide]
    rfl
  · rw [decide_eq_false h]
    refine decide_eq_false fun hl => h fun x hx => ?_
    rw [List.length_map] at hl
    have hl : (s.filter fun (x : Nat) => !decide ((x : Int) ∈ t.map fun (n : Nat) => (n : Int))).length = 0 := by omega
    have := List.filter_eq_nil_iff.mp (List.length_eq_zero_iff.mp hl) x hx
    by_cases hm : x ∈ t
    · exact hm
    · rw [decide_eq_false fun z => hm ((e x).mp z)] at this
      exact absurd rfl this
theorem p_notInN {s : List Nat} {x : Nat} {st : Sto} {Υ : D → Prop} (h : Υ (.bl (!decide ((x : Int) ∈ s.map fun (n : Nat) => (n : Int))))) : ∃ d, PNotIn (nD x) (.tup (s.map nD)) st d ∧ Υ d := by
  refine ⟨_, .inl ⟨(x : Int), s.map fun (n : Nat) => (n : Int), rfl, .inr ?_, rfl⟩, h⟩
  rw [List.map_map]; rfl
def S_llat : Spd := Pur fun ds r => ∃ (ss : List (List Nat)) (L : Lat), L.Ord ∧ L.n = ss.length ∧ L.le = leF ss ∧ (∀ s ∈ ss, s.length ≤ 100) ∧ ds = [.lst (ss.map stD)] ∧ r = plD L
theorem pl_llat (ds : List D) (st : Sto) (Φ : D → Sto → Prop) (h : S_llat ds st Φ) : ds.length = 1 ∧ W_L_lattice S_bound (endD Φ) (startD N_L_lattice ds) st := by
  obtain ⟨rfl, r, ⟨ss, L, o, hLn, hle, hln, rfl, rfl⟩, k⟩ := h
  have hn := o.few
  have hg : ∀ i, i < L.n → (gs ss i).length ≤ 100 := fun i hi => hln _ (gs_mem (by omega))
  rw [map_gs, ← hLn]
  refine ⟨rfl, ?_⟩
  show W_L_lattice _ _ [some _, none, none, none, none, none, none, none, none, none, none] _
  unfold W_L_lattice
  repeat walk_at "sy"
  rw [len_mr]
  repeat walk_at "sy"
  intro pt
  repeat walk_at "sy"
  refine for_ind (fun r e st => ∃ (c : Nat) (x3 : Option D), r = ((List.range L.n).drop c).map (fun i => stD (gs ss i)) ∧ c ≤ L.n ∧ e = [some (.lst ((List.range L.n).map fun i => stD (gs ss i))), some (nD L.n), some (.own pt), x3, none, none, none, none, none, none, none] ∧
    st = [(pt, .lst ((List.range c).map fun i => .lst ((List.range L.n).map fun j => .bl (L.le i j))))]) ?_ ?_ _ _ _ ⟨0, none, rfl, Nat.zero_le _, rfl, rfl⟩
  · rintro K d r e st ⟨c, x3, hr, hc, rfl, rfl⟩ hK
    by_cases hlt : c < L.n
    · rw [range_drop hlt] at hr
      obtain ⟨rfl, rfl⟩ := List.cons.inj hr
      repeat walk_at "sy"
      refine ⟨by rw [len_mr]; omega, lc_gen (List.range L.n) (fun i => stD (gs ss i)) (fun _ => true) (fun j => .bl (L.le c j)) (fun _ _ _ h => h) (fun j hj _ Ψ hΨ => ?_) _ ?_⟩
      · have hj := List.mem_range.mp hj
        repeat walk_at "sy"
        refine ⟨by rw [List.length_map]; have := hg c hlt; omega, lc_gen (gs ss c) nD (fun (x : Nat) => !decide ((x : Int) ∈ (gs ss j).map fun (n : Nat) => (n : Int))) nD (fun x hx Θ hΘ => ?_) (fun x hx _ Ψ hΨ => ?_) _ ?_⟩
        · repeat walk_at "sy"
          refine p_notInN ?_
          repeat walk_at "sy"
          exact hΘ
        · repeat walk_at "sy"
          exact hΨ
        rw [List.nil_append]
        repeat walk_at "sy"
        rw [sub_len]
        have e : decide (∀ x ∈ gs ss c, x ∈ gs ss j) = L.le c j := by rw [hle]; rfl
        rw [e]
        exact hΨ
      rw [filter_true, List.nil_append]
      repeat walk_at "sy"
      refine ⟨0, _, _, _, rfl, rfl, rfl, by rw [len_mr]; omega, hK _ _ ⟨c + 1, _, rfl, hlt, rfl, ?_⟩⟩
      rw [List.range_succ, List.map_append]
      rfl
    · rw [range_drop_nil (by omega)] at hr
      cases hr
  rintro e st ⟨c, x3, hr, hc, rfl, rfl⟩
  have hcm : c = L.n := by
    by_cases hlt : c < L.n
    · rw [range_drop hlt] at hr; cases hr
    · omega
  subst hcm
  refine ⟨0, pt, _, rfl, rfl, ?_⟩
  show wSeq _ _ _ _ []
  have jn : ∀ (x y : Nat) (st : Sto) (Φ : D → Sto → Prop), x < L.n → y < L.n → Φ (nD (L.jn x y)) st → callD S_bound [blL L.n L.le, nD L.n, nD x, nD y, .bl true] st Φ := fun x y st Φ hx hy h =>
    c_pur (r := nD (L.jn x y)) ⟨L.n, L.le, true, x, y, L.jn x y, hn, o.anti, hx, hy, o.lubJ x y hx hy, rfl, rfl⟩ h
  have mt : ∀ (x y : Nat) (st : Sto) (Φ : D → Sto → Prop), x < L.n → y < L.n → Φ (nD (L.mt x y)) st → callD S_bound [blL L.n L.le, nD L.n, nD x, nD y, .bl false] st Φ := fun x y st Φ hx hy h =>
    c_pur (r := nD (L.mt x y)) ⟨L.n, L.le, false, x, y, L.mt x y, hn, fun i j hi hj h1 h2 => o.anti i j hi hj h2 h1, hx, hy, o.lubM x y hx hy, rfl, rfl⟩ h
  have hT : (D.lst ((List.range L.n).map fun i => D.lst ((List.range L.n).map fun j => D.bl (L.le i j)))) = blL L.n L.le := rfl
  rw [hT]
  repeat walk_at "sy"
  intro pj
  repeat walk_at "sy"
  intro pm
  repeat walk_at "sy"
  refine ⟨by omega, by omega, ?_⟩
  rw [intsD_nat]
  refine for_ind (fun r e st => ∃ (c : Nat) (x3 x4 : Option D), r = ((List.range L.n).drop c).map nD ∧ c ≤ L.n ∧ e = [some (.lst ((List.range L.n).map fun i => stD (gs ss i))), some (nD L.n), some (blL L.n L.le), x3, x4, some (.own pj), some (.own pm), none, none, none, none] ∧
    st = [(pj, .lst ((List.range c).map fun i => .lst ((List.range L.n).map fun j => nD (L.jn i j)))), (pm, .lst ((List.range c).map fun i => .lst ((List.range L.n).map fun j => nD (L.mt i j))))]) ?_ ?_ _ _ _ ⟨0, _, _, rfl, Nat.zero_le _, rfl, rfl⟩
  · rintro K d r e st ⟨c, x3, x4, hr, hc, rfl, rfl⟩ hK
    by_cases hlt : c < L.n
    · rw [range_drop hlt] at hr
      obtain ⟨rfl, rfl⟩ := List.cons.inj hr
      repeat walk_at "sy"
      refine ⟨by omega, by omega, ?_⟩
      rw [intsD_nat]
      refine ⟨by rw [len_mr]; omega, lc_gen (List.range L.n) nD (fun _ => true) (fun j => nD (L.jn c j)) (fun _ _ _ h => h) (fun j hj _ Ψ hΨ => ?_) _ ?_⟩
      · have hj := List.mem_range.mp hj
        repeat walk_at "sy"
        exact jn _ _ _ _ hlt hj hΨ
      rw [filter_true, List.nil_append]
      repeat walk_at "sy"
      refine ⟨0, _, _, _, rfl, rfl, rfl, by rw [len_mr]; omega, ?_⟩
      repeat walk_at "sy"
      refine ⟨by omega, by omega, ?_⟩
      rw [intsD_nat]
      refine ⟨by rw [len_mr]; omega, lc_gen (List.range L.n) nD (fun _ => true) (fun j => nD (L.mt c j)) (fun _ _ _ h => h) (fun j hj _ Ψ hΨ => ?_) _ ?_⟩
      · have hj := List.mem_range.mp hj
        repeat walk_at "sy"
        exact mt _ _ _ _ hlt hj hΨ
      rw [filter_true, List.nil_append]
      repeat walk_at "sy"
      refine ⟨1, _, _, _, rfl, rfl, rfl, by rw [len_mr]; omega, hK _ _ ⟨c + 1, _, _, rfl, hlt, rfl, ?_⟩⟩
      rw [List.range_succ, List.map_append, List.map_append]
      rfl
    · rw [range_drop_nil (by omega)] at hr
      cases hr
  rintro e st ⟨c, x3, x4, hr, hc, rfl, rfl⟩
  have hcm : c = L.n := by
    by_cases hlt : c < L.n
    · rw [range_drop hlt] at hr; cases hr
    · omega
  subst hcm
  refine ⟨0, pj, _, rfl, rfl, ?_⟩
  refine ⟨0, pm, _, rfl, rfl, ?_⟩
  have hJ : (D.lst ((List.range L.n).map fun i => D.lst ((List.range L.n).map fun j => nD (L.jn i j)))) = .lst (rowsL L.n fun i j => nD (L.jn i j)) := rfl
  have hM : (D.lst ((List.range L.n).map fun i => D.lst ((List.range L.n).map fun j => nD (L.mt i j)))) = .lst (rowsL L.n fun i j => nD (L.mt i j)) := rfl
  show wSeq _ _ _ _ []
  rw [hJ, hM]
  repeat walk_at "sy"
  refine ⟨by omega, by omega, ?_⟩
  rw [intsD_nat]
  refine ⟨by rw [len_mr]; omega, lc_gen (List.range L.n) nD (fun x => decide (((((List.range L.n).filter fun y => L.le x y).map nD).length : Int) = (L.n : Int))) nD (fun x hx Θ hΘ => ?_) (fun x hx _ Ψ hΨ => ?_) _ ?_⟩
  · have hx := List.mem_range.mp hx
    repeat walk_at "sy"
    refine ⟨by omega, by omega, ?_⟩
    rw [intsD_nat]
    refine ⟨by rw [len_mr]; omega, lc_gen (List.range L.n) nD (fun y => L.le x y) nD (fun y hy Θ' hΘ' => ?_) (fun y hy _ Ψ hΨ => ?_) _ ?_⟩
    · have hy := List.mem_range.mp hy
      repeat walk_at "sy"
      exact hΘ'
    · repeat walk_at "sy"
      exact hΨ
    rw [List.nil_append]
    repeat walk_at "sy"
    exact hΘ
  · repeat walk_at "sy"
    exact hΨ
  rw [List.nil_append]
  have all : ∀ (f : Nat → Bool), decide (((((List.range L.n).filter f).map nD).length : Int) = (L.n : Int)) = true ↔ ∀ y, y < L.n → f y = true := fun f => by
    rw [decide_eq_true_iff, List.length_map]
    constructor
    · intro h y hy
      exact List.length_filter_eq_length_iff.mp (show ((List.range L.n).filter f).length = (List.range L.n).length by rw [List.length_range]; omega) y (List.mem_range.mpr hy)
    · intro h
      rw [List.filter_eq_self.mpr fun y hy => h y (List.mem_range.mp hy), List.length_range]
  repeat walk_at "sy"
  refine p_ixL (at0 (head_filter (b := L.bt) (List.mem_range.mpr o.btl) ((all _).mpr fun y hy => o.bm y hy) fun x hx hx2 => ?_)) ?_
  · have hx := List.mem_range.mp hx
    exact o.anti _ _ hx o.btl ((all _).mp hx2 _ o.btl) (o.bm x hx)
  repeat walk_at "sy"
  refine ⟨by omega, by omega, ?_⟩
  rw [intsD_nat]
  refine ⟨by rw [len_mr]; omega, lc_gen (List.range L.n) nD (fun x => decide (((((List.range L.n).filter fun y => L.le y x).map nD).length : Int) = (L.n : Int))) nD (fun x hx Θ hΘ => ?_) (fun x hx _ Ψ hΨ => ?_) _ ?_⟩
  · have hx := List.mem_range.mp hx
    repeat walk_at "sy"
    refine ⟨by omega, by omega, ?_⟩
    rw [intsD_nat]
    refine ⟨by rw [len_mr]; omega, lc_gen (List.range L.n) nD (fun y => L.le y x) nD (fun y hy Θ' hΘ' => ?_) (fun y hy _ Ψ hΨ => ?_) _ ?_⟩
    · have hy := List.mem_range.mp hy
      repeat walk_at "sy"
      exact hΘ'
    · repeat walk_at "sy"
      exact hΨ
    rw [List.nil_append]
    repeat walk_at "sy"
    exact hΘ
  · repeat walk_at "sy"
    exact hΨ
  rw [List.nil_append]
  repeat walk_at "sy"
  refine p_ixL (at0 (head_filter (b := L.tp) (List.mem_range.mpr o.tpl) ((all _).mpr fun y hy => o.tm y hy) fun x hx hx2 => ?_)) ?_
  · have hx := List.mem_range.mp hx
    exact o.anti _ _ hx o.tpl (o.tm x hx) ((all _).mp hx2 _ o.tpl)
  repeat walk_at "sy"
  exact e_keep k
end Cw

set_option Elab.async false
set_option linter.all false
set_option maxRecDepth 100000
set_option maxHeartbeats 0
namespace Cw
open PySem hiding Env
open L2 hiding St
open DL
/-- one step -/
local macro_rules | `(tactic| walk_at "sx") => `(tactic| first | (with_reducible refine i_varH ?_; refine ⟨_, rfl, ?_⟩) | (with_reducible first | refine i_seq ?_ | refine i_asg ?_ | refine i_name ?_ | refine i_bin ?_ | refine i_c ?_ | refine i_fld ?_ | refine i_cons ?_ | refine i_nil ?_ | refine i_if ?_ | refine i_tst ?_ | refine i_ret ?_ | refine i_call ?_ | refine i_meth ?_ | refine i_andT ?_ | refine i_orT ?_ | refine i_notT ?_ | refine i_chain ?_ | refine i_is ?_ | refine i_tup ?_ | refine i_lst ?_ | refine i_cb ?_ | refine i_for ?_ | refine i_next ?_ | refine i_drop ?_ | refine i_andV ?_ | refine i_orV ?_ | refine i_notV ?_ | refine i_ifE ?_ | refine i_lstO ?_ | refine i_setF ?_ | refine i_sub ?_ | refine i_app ?_ | refine i_gtup ?_ | refine i_gcons ?_ | refine i_gnil ?_ | refine i_ilst ?_ | refine i_itup ?_ | refine i_irg ?_ | refine i_irgO ?_ | refine i_irev ?_ | refine i_ienT ?_ | refine i_ienL ?_ | refine i_lRg ?_ | refine i_lc ?_ | refine i_lcO ?_ | refine i_yes ?_ | refine i_retN ?_ | refine i_prop ?_ | refine i_makeO ?_ | refine i_make ?_ | refine i_star ?_) | (with_reducible first | refine q_tst ?_ | refine q_ifT ?_ | refine q_ifF ?_ | refine q_nT ?_ | refine q_nF ?_ | refine q_obj ?_ | refine p_add ?_ | refine p_sub ?_ | refine p_lt ?_ | refine p_le ?_ | refine p_gt ?_ | refine p_leB ?_ | refine p_eqI ?_ | refine p_eqS ?_ | refine p_neI ?_ | refine p_isNy ?_ | refine p_notNy ?_ | refine p_isB ?_ | refine p_notB ?_ | refine p_lenT ?_ | refine p_lenL ?_ | refine p_int ?_ | refine p_tupL ?_ | refine p_lstL ?_ | refine p_lstT ?_) | refine ⟨_, _, .inl rfl, rfl, ?_⟩ | refine p_mul (.inr (by decide)) ?_ | refine p_div ⟨by decide, by decide⟩ ?_ | refine p_mod (by decide) ?_ | (with_reducible refine p_abs ?_) | (with_reducible refine p_max ?_) | (with_reducible refine p_min ?_) | refine q_len rfl ?_ | refine ⟨_, .inl rfl, ?_⟩ | refine ⟨_, rfl, ?_⟩ | refine p_ixL rfl ?_ | refine p_ixT rfl ?_ | refine p_ixO 0 rfl rfl ?_ | refine p_ixO 1 rfl rfl ?_ | refine p_ixO 2 rfl rfl ?_ | refine ⟨_, .inr ⟨_, rfl, rfl⟩, ?_⟩ | refine p_ixO 3 rfl rfl ?_ | refine p_ixO 4 rfl rfl ?_ | refine p_ixO 5 rfl rfl ?_ | refine ⟨_, _, .inr ⟨0, _, rfl, rfl⟩, rfl, ?_⟩ | refine ⟨⟨_, .inr ⟨0, _, rfl, rfl⟩⟩, ?_⟩ | refine ⟨⟨0, _, _, rfl, rfl⟩, ?_⟩ | refine p_lenO 0 rfl ?_ | refine p_tupO 0 rfl ?_ | refine ⟨_, _, .inr ⟨1, _, rfl, rfl⟩, rfl, ?_⟩ | refine ⟨⟨_, .inr ⟨1, _, rfl, rfl⟩⟩, ?_⟩ | refine ⟨⟨1, _, _, rfl, rfl⟩, ?_⟩ | refine p_lenO 1 rfl ?_ | refine p_tupO 1 rfl ?_ | refine ⟨_, _, .inr ⟨2, _, rfl, rfl⟩, rfl, ?_⟩ | refine ⟨⟨_, .inr ⟨2, _, rfl, rfl⟩⟩, ?_⟩ | refine ⟨⟨2, _, _, rfl, rfl⟩, ?_⟩ | refine p_lenO 2 rfl ?_ | refine p_tupO 2 rfl ?_ | refine ⟨_, _, .inr ⟨3, _, rfl, rfl⟩, rfl, ?_⟩ | refine ⟨⟨_, .inr ⟨3, _, rfl, rfl⟩⟩, ?_⟩ | refine ⟨⟨3, _, _, rfl, rfl⟩, ?_⟩ | refine p_lenO 3 rfl ?_ | refine p_tupO 3 rfl ?_ | refine ⟨_, _, .inr ⟨4, _, rfl, rfl⟩, rfl, ?_⟩ | refine ⟨⟨_, .inr ⟨4, _, rfl, rfl⟩⟩, ?_⟩ | refine ⟨⟨4, _, _, rfl, rfl⟩, ?_⟩ | refine p_lenO 4 rfl ?_ | refine p_tupO 4 rfl ?_ | refine ⟨_, _, .inr ⟨5, _, rfl, rfl⟩, rfl, ?_⟩ | refine ⟨⟨_, .inr ⟨5, _, rfl, rfl⟩⟩, ?_⟩ | refine ⟨⟨5, _, _, rfl, rfl⟩, ?_⟩ | refine p_lenO 5 rfl ?_ | refine p_tupO 5 rfl ?_)
local macro_rules | `(tactic| walk_at "sy") => `(tactic| first | walk_at "sx" | refine p_ixT (at_rowsT (by assumption)) ?_ | refine p_ixT (at_range (by assumption)) ?_ | refine p_ixL (at_rowsL (by assumption)) ?_ | refine p_ixL (at_range (by assumption)) ?_ | refine ⟨_, rfl, rfl, ?_⟩ | refine ⟨rfl, ?_⟩ | refine ⟨0, _, _, _, rfl, rfl, .inl ⟨rfl, rfl⟩, ?_⟩ | refine ⟨0, _, _, _, rfl, rfl, .inr ⟨lt_ok rfl, rfl⟩, ?_⟩ | refine ⟨1, _, _, _, rfl, rfl, .inl ⟨rfl, rfl⟩, ?_⟩ | refine ⟨1, _, _, _, rfl, rfl, .inr ⟨lt_ok rfl, rfl⟩, ?_⟩ | refine ⟨2, _, _, _, rfl, rfl, .inl ⟨rfl, rfl⟩, ?_⟩ | refine ⟨2, _, _, _, rfl, rfl, .inr ⟨lt_ok rfl, rfl⟩, ?_⟩ | refine ⟨3, _, _, _, rfl, rfl, .inl ⟨rfl, rfl⟩, ?_⟩ | refine ⟨3, _, _, _, rfl, rfl, .inr ⟨lt_ok rfl, rfl⟩, ?_⟩)
local macro_rules | `(tactic| walk_at "sw") => `(tactic| first | walk_at "sy" | refine i_forc ?_ | refine i_forn ?_ | refine i_lcc ?_ | refine i_lcn ?_ | refine ⟨0, _, _, _, rfl, rfl, rfl, lt_ok rfl, ?_⟩ | refine ⟨1, _, _, _, rfl, rfl, rfl, lt_ok rfl, ?_⟩ | refine ⟨2, _, _, _, rfl, rfl, rfl, lt_ok rfl, ?_⟩ | refine ⟨3, _, _, _, rfl, rfl, rfl, lt_ok rfl, ?_⟩)

/-! ### L_lowers -/
theorem okS_len (bel s : List Nat) : decide ((((bel.filter fun (q : Nat) => !decide ((q : Int) ∈ s.map fun (n : Nat) => (n : Int))).map nD).length : Int) = 0) = okS bel s := sub_len bel s
abbrev lsD (s : List Nat) : D := .lst (s.map nD)
def S_lowers : Spd := Pur fun ds r => ∃ (n : Nat) (below : List (List Nat)), n ≤ 4 ∧ n ≤ below.length ∧ (∀ s ∈ below, s.length ≤ 100) ∧ ds = [nD n, .lst (below.map lsD)] ∧ r = .lst ((lowF below n).map stD)
theorem pl_lowers (ds : List D) (st : Sto) (Φ : D → Sto → Prop) (h : S_lowers ds st Φ) : ds.length = 2 ∧ W_L_lowers (endD Φ) (startD N_L_lowers ds) st := by
  obtain ⟨rfl, r, ⟨n, below, hn, hnb, hbl, rfl, rfl⟩, k⟩ := h
  have pow : ∀ c, c ≤ 4 → (lowF below c).length ≤ 16 := fun c hc => Nat.le_trans (low_len below c) (Nat.pow_le_pow_right (n := 2) (by decide) hc)
  refine ⟨rfl, ?_⟩
  show W_L_lowers  _ [some _, some _, none, none, none, none, none] _
  unfold W_L_lowers
  repeat walk_at "sy"
  refine ⟨by omega, by omega, ?_⟩
  rw [intsD_nat]
  refine for_ind (fun r e st => ∃ (c : Nat) (x3 x4 x5 : Option D), r = ((List.range n).drop c).map nD ∧ c ≤ n ∧ e = [some (nD n), some (.lst (below.map lsD)), some (.lst ((lowF below c).map stD)), x3, x4, x5, none] ∧ st = []) ?_ ?_ _ _ _ ⟨0, none, none, none, rfl, Nat.zero_le _, rfl, rfl⟩
  · rintro K d r e st ⟨c, x3, x4, x5, hr, hc, rfl, rfl⟩ hK
    by_cases hlt : c < n
    · rw [range_drop hlt] at hr
      obtain ⟨rfl, rfl⟩ := List.cons.inj hr
      repeat walk_at "sy"
      intro pm
      repeat walk_at "sy"
      have hF := pow c (by omega)
      have hlen : ∀ s ∈ lowF below c, s.length ≤ 4 := fun s hs => Nat.le_trans ((low_fam below c).ln s hs) (by omega)
      have hbc : below[c]? = some (below.getD c []) := by
        have : c < below.length := by omega
        simp [List.getD, this]
      have hbn : (below.getD c []).length ≤ 100 := hbl _ (List.mem_of_getElem? hbc)
      generalize hB : below.getD c [] = B at hbc hbn
      generalize hfo : lowF below c = fo at hF hlen
      refine for_ind (fun r e st => ∃ (rest acc : List (List Nat)) (x5 : Option D), r = rest.map stD ∧ (∀ s ∈ rest, s ∈ fo) ∧ acc ++ (rest.filter (okS B)).map (· ++ [c]) = (fo.filter (okS B)).map (· ++ [c]) ∧ e = [some (nD n), some (.lst (below.map lsD)), some (.lst (fo.map stD)), some (nD c), some (.own pm), x5, none] ∧ st = [(pm, .lst (acc.map stD))]) ?_ ?_ _ _ _ ⟨fo, [], x5, rfl, fun _ h => h, rfl, rfl, rfl⟩
      · rintro K2 d r e st ⟨rest, acc, x5, hr, hsub, hacc, rfl, rfl⟩ hK2
        cases rest with
        | nil => cases hr
        | cons s rest =>
          obtain ⟨rfl, rfl⟩ := List.cons.inj hr
          have hs := hlen s (hsub s List.mem_cons_self)
          have haccl : acc.length ≤ 16 := by
            have := congrArg List.length hacc
            simp only [List.length_append, List.length_map] at this
            have h2 := List.length_filter_le (okS B) fo
            omega
          repeat walk_at "sy"
          refine p_ixL (d := lsD B) (atI_nat (by rw [List.getElem?_map, hbc]; rfl)) ?_
          repeat walk_at "sy"
          refine ⟨by rw [List.length_map]; omega, lc_gen B nD (fun (q : Nat) => !decide ((q : Int) ∈ s.map fun (n : Nat) => (n : Int))) nD (fun q hq Θ hΘ => ?_) (fun q hq _ Ψ hΨ => ?_) _ ?_⟩
          · repeat walk_at "sy"
            refine p_notInN ?_
            repeat walk_at "sy"
            exact hΘ
          · repeat walk_at "sy"
            exact hΨ
          rw [List.nil_append]
          repeat walk_at "sy"
          rw [okS_len]
          cases hok : okS B s with
          | true =>
            repeat walk_at "sy"
            refine p_catT (by rw [List.length_map]; show s.length + 1 ≤ _; omega) ?_
            repeat walk_at "sy"
            refine ⟨0, _, _, _, rfl, rfl, rfl, by rw [List.length_map]; omega, hK2 _ _ ⟨rest, acc ++ [s ++ [c]], _, rfl, fun x m => hsub x (List.mem_cons_of_mem _ m), ?_, rfl, ?_⟩⟩
            · rw [← hacc, List.filter_cons_of_pos hok, List.map_cons, List.append_assoc]; rfl
            · show _ = [(pm, OB.lst ((acc ++ [s ++ [c]]).map stD))]
              rw [List.map_append, List.map_cons, List.map_nil]
              show _ = [(pm, OB.lst (acc.map stD ++ [.tup ((s ++ [c]).map nD)]))]
              rw [List.map_append]
              rfl
          | false =>
            refine hK2 _ _ ⟨rest, acc, _, rfl, fun x m => hsub x (List.mem_cons_of_mem _ m), ?_, rfl, rfl⟩
            rw [← hacc, List.filter_cons_of_neg (by rw [hok]; decide)]
      · rintro e st ⟨rest, acc, x5, hr, hsub, hacc, rfl, rfl⟩
        cases rest with
        | cons s rest => cases hr
        | nil =>
          rw [List.filter_nil, List.map_nil, List.append_nil] at hacc
          refine ⟨0, pm, _, rfl, rfl, ?_⟩
          repeat walk_at "sy"
          have hal : acc.length ≤ 16 := by
            rw [hacc, List.length_map]
            have h2 := List.length_filter_le (okS B) fo
            omega
          refine p_catL (by rw [List.length_map, List.length_map]; omega) ?_
          refine hK _ _ ⟨c + 1, some (nD c), some (.lst (acc.map stD)), x5, rfl, hlt, ?_, rfl⟩
          have e : lowF below (c + 1) = fo ++ acc := by rw [lowF, hB, hfo, hacc]
          rw [e, List.map_append]
          rfl
    · rw [range_drop_nil (by omega)] at hr
      cases hr
  · rintro e st ⟨c, x3, x4, x5, hr, hc, rfl, rfl⟩
    have hcm : c = n := by
      by_cases hlt : c < n
      · rw [range_drop hlt] at hr; cases hr
      · omega
    subst hcm
    repeat walk_at "sy"
    exact e_keep k
/-! ### L_drawn_lowers -/
def S_dlow : Spd := fun ds st Φ => ∃ (p : Addr) (b : OB), HandB b ∧ ds = [.own p, .int 4, .int 10] ∧ st = [(p, b)] ∧ ∀ ss b', (∃ m, m ≤ 4 ∧ Fam m ss) → ss.length ≤ 10 → HandB b' → Φ (.lst (ss.map stD)) [(p, b')]
theorem pl_dlow (ds : List D) (st : Sto) (Φ : D → Sto → Prop) (h : S_dlow ds st Φ) : ds.length = 3 ∧ W_L_drawn_lowers S_take S_lowers (endD Φ) (startD N_L_drawn_lowers ds) st := by
  obtain ⟨p, b, hb, rfl, rfl, k⟩ := h
  refine ⟨rfl, ?_⟩
  show W_L_drawn_lowers _ _ _ [some _, some _, some _, none, none, none, none, none, none] _
  unfold W_L_drawn_lowers
  repeat walk_at "sy"
  refine c_take (many := 5) 0 rfl (by decide) (by decide) hb fun n b1 hn hb1 => ?_
  repeat walk_at "sy"
  intro pb
  repeat walk_at "sy"
  refine ⟨by omega, by omega, ?_⟩
  rw [intsD_nat]
  refine for_ind (fun r e st => ∃ (c : Nat) (bel : List (List Nat)) (b2 : OB) (x5 : Option D), r = ((List.range n).drop c).map nD ∧ c ≤ n ∧ bel.length = c ∧ (∀ s ∈ bel, s.length ≤ 100) ∧ HandB b2 ∧ e = [some (.own p), some (.int 4), some (.int 10), some (nD n), some (.own pb), x5, none, none, none] ∧ st = [(p, b2), (pb, .lst (bel.map lsD))]) ?_ ?_ _ _ _ ⟨0, [], b1, none, rfl, Nat.zero_le _, rfl, by simp, hb1, rfl, rfl⟩
  · rintro K d r e st ⟨c, bel, b2, x5, hr, hc, hbc, hbl, hb2, rfl, rfl⟩ hK
    by_cases hlt : c < n
    · rw [range_drop hlt] at hr
      obtain ⟨rfl, rfl⟩ := List.cons.inj hr
      repeat walk_at "sy"
      refine ⟨by omega, by omega, ?_⟩
      rw [intsD_nat]
      refine ⟨by rw [len_mr]; omega, lc_ind (fun r acc st => ∃ (i : Nat) (s : List Nat) (b3 : OB), r = ((List.range c).drop i).map nD ∧ i ≤ c ∧ s.length ≤ i ∧ acc = s.map nD ∧ HandB b3 ∧ st = [(p, b3), (pb, .lst (bel.map lsD))]) ?_ ?_ _ _ _ ⟨0, [], b2, rfl, Nat.zero_le _, Nat.le_refl _, rfl, hb2, rfl⟩⟩
      · rintro K2 d r acc st ⟨i, s, b3, hr, hi, hs, rfl, hb3, rfl⟩ hK2
        by_cases hil : i < c
        · rw [range_drop hil] at hr
          obtain ⟨rfl, rfl⟩ := List.cons.inj hr
          repeat walk_at "sy"
          refine c_take (many := 3) 0 rfl (by decide) (by decide) hb3 fun j b4 hj hb4 => ?_
          repeat walk_at "sy"
          refine if_any (fun _ => ?_) (fun _ => ?_)
          · repeat walk_at "sy"
            refine hK2 _ _ ⟨i + 1, s ++ [i], b4, rfl, hil, ?_, ?_, hb4, rfl⟩
            · rw [List.length_append]; show s.length + 1 ≤ _; omega
            · rw [List.map_append]; rfl
          · exact hK2 _ _ ⟨i + 1, s, b4, rfl, hil, by omega, rfl, hb4, rfl⟩
        · rw [range_drop_nil (by omega)] at hr
          cases hr
      · rintro acc st ⟨i, s, b3, hr, hi, hs, rfl, hb3, rfl⟩
        repeat walk_at "sy"
        refine ⟨1, _, _, _, rfl, rfl, rfl, by rw [List.length_map]; omega, hK _ _ ⟨c + 1, bel ++ [s], b3, _, rfl, hlt, ?_, ?_, hb3, rfl, ?_⟩⟩
        · rw [List.length_append, hbc]; rfl
        · intro t ht
          rcases List.mem_append.mp ht with ht | ht
          · exact hbl t ht
          · rw [List.mem_singleton.mp ht]; omega
        · rw [List.map_append]; rfl
    · rw [range_drop_nil (by omega)] at hr
      cases hr
  rintro e st ⟨c, bel, b2, x5, hr, hc, hbc, hbl, hb2, rfl, rfl⟩
  have hcm : c = n := by
    by_cases hlt : c < n
    · rw [range_drop hlt] at hr; cases hr
    · omega
  subst hcm
  refine ⟨1, pb, _, rfl, rfl, ?_⟩
  repeat walk_at "sy"
  refine ⟨by omega, by omega, ?_⟩
  have e1 : (c : Int) + 1 = ((c + 1 : Nat) : Int) := by omega
  rw [e1, intsD_nat]
  refine for_ind (fun r e st => ∃ (i : Nat) (x6 x7 : Option D), r = ((List.range (c + 1)).drop i).map nD ∧ i ≤ c + 1 ∧ e = [some (.own p), some (.int 4), some (.int 10), some (.int ((c : Int) - (i : Int))), some (.lst (bel.map lsD)), x5, x6, x7, none] ∧ st = [(p, b2)]) ?_ ?_ _ _ _ ⟨0, none, none, rfl, Nat.zero_le _, by rw [show (c : Int) - ((0 : Nat) : Int) = (c : Int) by omega]; rfl, rfl⟩
  · rintro K d r e st ⟨i, x6, x7, hr, hi, rfl, rfl⟩ hK
    by_cases hlt : i < c + 1
    · rw [range_drop hlt] at hr
      obtain ⟨rfl, rfl⟩ := List.cons.inj hr
      have e2 : (c : Int) - (i : Int) = ((c - i : Nat) : Int) := by omega
      rw [e2]
      repeat walk_at "sy"
      refine c_pur (r := .lst ((lowF bel (c - i)).map stD)) ⟨c - i, bel, by omega, by omega, hbl, rfl, rfl⟩ ?_
      repeat walk_at "sy"
      refine if_any (fun hle => ?_) (fun _ => ?_)
      · have hle := of_decide_eq_true hle
        rw [List.length_map] at hle
        repeat walk_at "sy"
        refine .keep [0] _ (by decide) rfl (k _ b2 ⟨c - i, by omega, low_fam bel _⟩ (by omega) hb2)
      · repeat walk_at "sy"
        refine hK _ _ ⟨i + 1, some (nD i), some (.lst ((lowF bel (c - i)).map stD)), rfl, hlt, ?_, rfl⟩
        rw [show ((c - i : Nat) : Int) - 1 = (c : Int) - ((i + 1 : Nat) : Int) by omega]
        rfl
    · rw [range_drop_nil (by omega)] at hr
      cases hr
  · rintro e st ⟨i, x6, x7, hr, hi, rfl, rfl⟩
    repeat walk_at "sy"
    exact .keep [0] _ (by decide) rfl (k [[]] b2 ⟨0, by decide, low_fam [] 0⟩ (by decide) hb2)
end Cw

set_option Elab.async false
set_option linter.all false
set_option maxRecDepth 100000
set_option maxHeartbeats 0
namespace Cw
open PySem hiding Env
open L2 hiding St
open DL
/-- one step -/
local macro_rules | `(tactic| walk_at "sx") => `(tactic| first | (with_reducible refine i_varH ?_; refine ⟨_, rfl, ?_⟩) | (with_reducible first | refine i_seq ?_ | refine i_asg ?_ | refine i_name ?_ | refine i_bin ?_ | refine i_c ?_ | refine i_fld ?_ | refine i_cons ?_ | refine i_nil ?_ | refine i_if ?_ | refine i_tst ?_ | refine i_ret ?_ | refine i_call ?_ | refine i_meth ?_ | refine i_andT ?_ | refine i_orT ?_ | refine i_notT ?_ | refine i_chain ?_ | refine i_is ?_ | refine i_tup ?_ | refine i_lst ?_ | refine i_cb ?_ | refine i_for ?_ | refine i_next ?_ | refine i_drop ?_ | refine i_andV ?_ | refine i_orV ?_ | refine i_notV ?_ | refine i_ifE ?_ | refine i_lstO ?_ | refine i_setF ?_ | refine i_sub ?_ | refine i_app ?_ | refine i_gtup ?_ | refine i_gcons ?_ | refine i_gnil ?_ | refine i_ilst ?_ | refine i_itup ?_ | refine i_irg ?_ | refine i_irgO ?_ | refine i_irev ?_ | refine i_ienT ?_ | refine i_ienL ?_ | refine i_lRg ?_ | refine i_lc ?_ | refine i_lcO ?_ | refine i_yes ?_ | refine i_retN ?_ | refine i_prop ?_ | refine i_makeO ?_ | refine i_make ?_ | refine i_star ?_) | (with_reducible first | refine q_tst ?_ | refine q_ifT ?_ | refine q_ifF ?_ | refine q_nT ?_ | refine q_nF ?_ | refine q_obj ?_ | refine p_add ?_ | refine p_sub ?_ | refine p_lt ?_ | refine p_le ?_ | refine p_gt ?_ | refine p_leB ?_ | refine p_eqI ?_ | refine p_eqS ?_ | refine p_neI ?_ | refine p_isNy ?_ | refine p_notNy ?_ | refine p_isB ?_ | refine p_notB ?_ | refine p_lenT ?_ | refine p_lenL ?_ | refine p_int ?_ | refine p_tupL ?_ | refine p_lstL ?_ | refine p_lstT ?_) | refine ⟨_, _, .inl rfl, rfl, ?_⟩ | refine p_mul (.inr (by decide)) ?_ | refine p_div ⟨by decide, by decide⟩ ?_ | refine p_mod (by decide) ?_ | (with_reducible refine p_abs ?_) | (with_reducible refine p_max ?_) | (with_reducible refine p_min ?_) | refine q_len rfl ?_ | refine ⟨_, .inl rfl, ?_⟩ | refine ⟨_, rfl, ?_⟩ | refine p_ixL rfl ?_ | refine p_ixT rfl ?_ | refine p_ixO 0 rfl rfl ?_ | refine p_ixO 1 rfl rfl ?_ | refine p_ixO 2 rfl rfl ?_ | refine ⟨_, .inr ⟨_, rfl, rfl⟩, ?_⟩ | refine p_ixO 3 rfl rfl ?_ | refine p_ixO 4 rfl rfl ?_ | refine p_ixO 5 rfl rfl ?_ | refine ⟨_, _, .inr ⟨0, _, rfl, rfl⟩, rfl, ?_⟩ | refine ⟨⟨_, .inr ⟨0, _, rfl, rfl⟩⟩, ?_⟩ | refine ⟨⟨0, _, _, rfl, rfl⟩, ?_⟩ | refine p_lenO 0 rfl ?_ | refine p_tupO 0 rfl ?_ | refine ⟨_, _, .inr ⟨1, _, rfl, rfl⟩, rfl, ?_⟩ | refine ⟨⟨_, .inr ⟨1, _, rfl, rfl⟩⟩, ?_⟩ | refine ⟨⟨1, _, _, rfl, rfl⟩, ?_⟩ | refine p_lenO 1 rfl ?_ | refine p_tupO 1 rfl ?_ | refine ⟨_, _, .inr ⟨2, _, rfl, rfl⟩, rfl, ?_⟩ | refine ⟨⟨_, .inr ⟨2, _, rfl, rfl⟩⟩, ?_⟩ | refine ⟨⟨2, _, _, rfl, rfl⟩, ?_⟩ | refine p_lenO 2 rfl ?_ | refine p_tupO 2 rfl ?_ | refine ⟨_, _, .inr ⟨3, _, rfl, rfl⟩, rfl, ?_⟩ | refine ⟨⟨_, .inr ⟨3, _, rfl, rfl⟩⟩, ?_⟩ | refine ⟨⟨3, _, _, rfl, rfl⟩, ?_⟩ | refine p_lenO 3 rfl ?_ | refine p_tupO 3 rfl ?_ | refine ⟨_, _, .inr ⟨4, _, rfl, rfl⟩, rfl, ?_⟩ | refine ⟨⟨_, .inr ⟨4, _, rfl, rfl⟩⟩, ?_⟩ | refine ⟨⟨4, _, _, rfl, rfl⟩, ?_⟩ | refine p_lenO 4 rfl ?_ | refine p_tupO 4 rfl ?_ | refine ⟨_, _, .inr ⟨5, _, rfl, rfl⟩, rfl, ?_⟩ | refine ⟨⟨_, .inr ⟨5, _, rfl, rfl⟩⟩, ?_⟩ | refine ⟨⟨5, _, _, rfl, rfl⟩, ?_⟩ | refine p_lenO 5 rfl ?_ | refine p_tupO 5 rfl ?_)
local macro_rules | `(tactic| walk_at "sy") => `(tactic| first | walk_at "sx" | refine p_ixT (at_rowsT (by assumption)) ?_ | refine p_ixT (at_range (by assumption)) ?_ | refine p_ixL (at_rowsL (by assumption)) ?_ | refine p_ixL (at_range (by assumption)) ?_ | refine ⟨_, rfl, rfl, ?_⟩ | refine ⟨rfl, ?_⟩ | refine ⟨0, _, _, _, rfl, rfl, .inl ⟨rfl, rfl⟩, ?_⟩ | refine ⟨0, _, _, _, rfl, rfl, .inr ⟨lt_ok rfl, rfl⟩, ?_⟩ | refine ⟨1, _, _, _, rfl, rfl, .inl ⟨rfl, rfl⟩, ?_⟩ | refine ⟨1, _, _, _, rfl, rfl, .inr ⟨lt_ok rfl, rfl⟩, ?_⟩ | refine ⟨2, _, _, _, rfl, rfl, .inl ⟨rfl, rfl⟩, ?_⟩ | refine ⟨2, _, _, _, rfl, rfl, .inr ⟨lt_ok rfl, rfl⟩, ?_⟩ | refine ⟨3, _, _, _, rfl, rfl, .inl ⟨rfl, rfl⟩, ?_⟩ | refine ⟨3, _, _, _, rfl, rfl, .inr ⟨lt_ok rfl, rfl⟩, ?_⟩)
local macro_rules | `(tactic| walk_at "sw") => `(tactic| first | walk_at "sy" | refine i_forc ?_ | refine i_forn ?_ | refine i_lcc ?_ | refine i_lcn ?_ | refine ⟨0, _, _, _, rfl, rfl, rfl, lt_ok rfl, ?_⟩ | refine ⟨1, _, _, _, rfl, rfl, rfl, lt_ok rfl, ?_⟩ | refine ⟨2, _, _, _, rfl, rfl, rfl, lt_ok rfl, ?_⟩ | refine ⟨3, _, _, _, rfl, rfl, rfl, lt_ok rfl, ?_⟩)

/-! ### L_shuffled, L_dist_plain, L_drawn_tree -/
theorem erase_perm {α : Type} : ∀ (l : List α) (j : Nat) (h : j < l.length), (l[j] :: l.eraseIdx j).Perm l
  | a :: l, 0, h => List.Perm.refl _
  | a :: l, j + 1, h => by
    have h2 : j < l.length := by simpa using h
    have ih := erase_perm l j h2
    show (l[j] :: a :: l.eraseIdx j).Perm (a :: l)
    exact (List.Perm.swap a l[j] _).trans (List.Perm.cons a ih)
theorem map_erase {α β : Type} (f : α → β) : ∀ (l : List α) (j : Nat), (l.map f).eraseIdx j = (l.eraseIdx j).map f
  | [], j => by simp
  | a :: l, 0 => rfl
  | a :: l, j + 1 => by
    show f a :: (l.map f).eraseIdx j = f a :: (l.eraseIdx j).map f
    rw [map_erase f l j]
def S_shuf : Spd := fun ds st Φ => ∃ (p : Addr) (b : OB) (ss : List (List Nat)), HandB b ∧ ss.length ≤ 16 ∧ ds = [.own p, .lst (ss.map stD)] ∧ st = [(p, b)] ∧ ∀ (ts : List (List Nat)) b', ts.Perm ss → HandB b' → Φ (.lst (ts.map stD)) [(p, b')]
theorem pl_shuf (ds : List D) (st : Sto) (Φ : D → Sto → Prop) (h : S_shuf ds st Φ) : ds.length = 2 ∧ W_L_shuffled S_take (endD Φ) (startD N_L_shuffled ds) st := by
  obtain ⟨p, b, ss, hb, hl, rfl, rfl, k⟩ := h
  refine ⟨rfl, ?_⟩
  show W_L_shuffled _ _ [some _, some _, none, none, none] _
  unfold W_L_shuffled
  repeat walk_at "sy"
  refine ⟨_, _, rfl, .inl (.inl rfl), ?_⟩
  intro pl
  repeat walk_at "sy"
  intro pt
  repeat walk_at "sy"
  rw [List.length_map]
  refine ⟨by omega, by omega, ?_⟩
  rw [intsD_nat]
  refine for_ind (fun r e st => ∃ (c : Nat) (lf tl : List (List Nat)) (b2 : OB) (x4 : Option D), r = ((List.range ss.length).drop c).map nD ∧ c ≤ ss.length ∧ lf.length + c = ss.length ∧ tl.length = c ∧ (lf ++ tl).Perm ss ∧ HandB b2 ∧ e = [some (.own p), some (.lst (ss.map stD)), some (.own pl), some (.own pt), x4] ∧ st = [(p, b2), (pl, .lst (lf.map stD)), (pt, .lst (tl.map stD))]) ?_ ?_ _ _ _ ⟨0, ss, [], b, none, rfl, Nat.zero_le _, rfl, rfl, by rw [List.append_nil], hb, rfl, rfl⟩
  · rintro K d r e st ⟨c, lf, tl, b2, x4, hr, hc, hlf, htl, hp, hb2, rfl, rfl⟩ hK
    by_cases hlt : c < ss.length
    · rw [range_drop hlt] at hr
      obtain ⟨rfl, rfl⟩ := List.cons.inj hr
      repeat walk_at "sy"
      rw [List.length_map]
      refine c_take (many := lf.length) 0 rfl (by omega) (by omega) hb2 fun j b3 hj hb3 => ?_
      repeat walk_at "sy"
      refine ⟨1, pl, _, j, _, rfl, rfl, rfl, by omega, by rw [List.getElem?_map, List.getElem?_eq_getElem hj]; rfl, ?_⟩
      repeat walk_at "sy"
      refine ⟨2, _, _, _, rfl, rfl, rfl, by rw [List.length_map]; omega, hK _ _ ⟨c + 1, lf.eraseIdx j, tl ++ [lf[j]], b3, _, rfl, hlt, ?_, ?_, ?_, hb3, rfl, ?_⟩⟩
      · rw [List.length_eraseIdx, if_pos hj]; omega
      · rw [List.length_append, htl]; rfl
      · refine List.Perm.trans ?_ hp
        rw [← List.append_assoc]
        refine (List.perm_append_comm).trans ?_
        rw [← List.append_assoc]
        refine List.Perm.append_right _ ?_
        exact erase_perm lf j hj
      · show [(p, b3), (pl, OB.lst ((lf.map stD).eraseIdx j)), (pt, OB.lst (tl.map stD ++ [stD lf[j]]))] = _
        rw [map_erase, List.map_append]
        rfl
    · rw [range_drop_nil (by omega)] at hr
      cases hr
  · rintro e st ⟨c, lf, tl, b2, x4, hr, hc, hlf, htl, hp, hb2, rfl, rfl⟩
    have hcm : c = ss.length := by
      by_cases hlt : c < ss.length
      · rw [range_drop hlt] at hr; cases hr
      · omega
    have : lf = [] := List.length_eq_zero_iff.mp (by omega)
    subst this
    repeat walk_at "sy"
    refine .frz 2 _ rfl (.keep [0] _ (by decide) rfl (k tl b2 hp hb2))
theorem four_fam : Fam 2 [[], [0], [1], [0, 1]] := by
  have h := low_fam [[], []] 2
  exact h
def S_dist : Spd := fun ds st Φ => ∃ (p : Addr) (b : OB), HandB b ∧ ds = [.own p] ∧ st = [(p, b)] ∧ ∀ (L : Lat) b', L.Ord → HandB b' → Φ (plD L) [(p, b')]
theorem pl_dist (ds : List D) (st : Sto) (Φ : D → Sto → Prop) (h : S_dist ds st Φ) : ds.length = 1 ∧ W_L_dist_plain S_dlow S_take S_llat S_shuf (endD Φ) (startD N_L_dist_plain ds) st := by
  obtain ⟨p, b, hb, rfl, rfl, k⟩ := h
  refine ⟨rfl, ?_⟩
  show W_L_dist_plain _ _ _ _ _ [some _, none] _
  unfold W_L_dist_plain
  obtain ⟨R, hR⟩ : ∃ R : WS, R = wRet (wCall S_llat (wCons (wCall S_shuf (wCons (wVar 0) (wCons (wVar 1) wNil))) wNil)) := ⟨_, rfl⟩
  rw [← hR]
  have fin : ∀ (ss : List (List Nat)) (b' : OB) (m : Nat), m ≤ 4 → Fam m ss → ss.length ≤ 10 → HandB b' → R (endD Φ) [some (.own p), some (.lst (ss.map stD))] [(p, b')] := by
    intro ss b' m hm F hl hb'
    rw [hR]
    repeat walk_at "sy"
    refine ⟨[0], [(p, b')], rfl, by decide, p, b', ss, hb', by omega, rfl, rfl, fun ts b2 hp hb2 => ⟨rfl, ?_⟩⟩
    have F2 := F.perm hp
    have hl2 := hp.length_eq
    obtain ⟨L, o, h1, h2⟩ := F2.lat (by omega)
    repeat walk_at "sy"
    refine c_pur (r := plD L) ⟨ts, L, o, h1, h2, fun s hs => ?_, rfl, rfl⟩ ?_
    · have := F2.ln s hs
      omega
    exact .keep [0] _ (by decide) rfl (k L b2 o hb2)
  repeat walk_at "sy"
  refine ⟨[0], [(p, b)], rfl, by decide, p, b, hb, rfl, rfl, fun ss b2 hF hl hb2 => ⟨rfl, ?_⟩⟩
  obtain ⟨m, hm, F⟩ := hF
  repeat walk_at "sy"
  rw [List.length_map]
  refine if_any (fun h1 => ?_) (fun h1 => fin ss b2 m hm F hl hb2)
  repeat walk_at "sy"
  refine c_take (many := 6) 0 rfl (by decide) (by decide) hb2 fun j b3 hj hb3 => ?_
  repeat walk_at "sy"
  refine if_any (fun h1 => ?_) (fun h1 => fin ss b3 m hm F hl hb3)
  repeat walk_at "sy"
  exact fin [[], [0], [1], [0, 1]] b3 2 (by decide) four_fam (by decide) hb3
def S_dtree : Spd := fun ds st Φ => ∃ (p : Addr) (b : OB) (n : Nat), HandB b ∧ 0 < n ∧ n ≤ 16 ∧ ds = [.own p, nD n, .int 4, .int 2] ∧ st = [(p, b)] ∧ ∀ t b', TrOk n 2 t → HandB b' → Φ (trD t) [(p, b')]
theorem pl_dtree (ds : List D) (st : Sto) (Φ : D → Sto → Prop) (h : S_dtree ds st Φ) : ds.length = 4 ∧ W_L_drawn_tree S_take (S_grown 2) (endD Φ) (startD N_L_drawn_tree ds) st := by
  obtain ⟨p, b, n, hb, hn0, hn, rfl, rfl, k⟩ := h
  refine ⟨rfl, ?_⟩
  show W_L_drawn_tree _ _ _ [some _, some _, some _, some _, none, none] _
  unfold W_L_drawn_tree
  obtain ⟨R, hR⟩ : ∃ R : WS, R = wRet (wCall (S_grown 2) (wCons (wVar 0) (wCons (wVar 4) (wCons (wVar 2) (wCons (wVar 3) (wCons (wCall S_take (wCons (wVar 0) (wCons (wC (.int 2)) wNil))) wNil)))))) := ⟨_, rfl⟩
  rw [← hR]
  have fin : ∀ (ws : List Nat) (b' : OB), 0 < ws.length → ws.length ≤ 1000 → (∀ w ∈ ws, w < n) → HandB b' → R (endD Φ) [some (.own p), some (nD n), some (.int 4), some (.int 2), some (.lst (ws.map nD)), none] [(p, b')] := by
    intro ws b' h0 h1 h2 hb'
    rw [hR]
    repeat walk_at "sy"
    refine c_take (many := 2) 0 rfl (by decide) (by decide) hb' fun j b3 hj hb3 => ?_
    refine ⟨[0], [(p, b3)], rfl, by decide, n, ws, 4, j, p, b3, h0, h1, h2, hj, hb3, rfl, rfl, fun t b4 ht hb4 => ⟨rfl, ?_⟩⟩
    exact .keep [0] _ (by decide) rfl (k t b4 ht hb4)
  repeat walk_at "sy"
  refine ⟨by omega, by omega, ?_⟩
  rw [intsD_nat]
  repeat walk_at "sy"
  refine c_take (many := 2) 0 rfl (by decide) (by decide) hb fun j b2 hj hb2 => ?_
  repeat walk_at "sy"
  refine if_any (fun h1 => ?_) (fun h1 => fin (List.range n) b2 (by rw [List.length_range]; exact hn0) (by rw [List.length_range]; omega) (fun w hw => List.mem_range.mp hw) hb2)
  repeat walk_at "sy"
  refine ⟨by decide, by decide, by decide, lc_ind (fun r acc st => ∃ (ws : List Nat) (b3 : OB), r.length + ws.length = 3 ∧ acc = ws.map nD ∧ (∀ w ∈ ws, w < n) ∧ HandB b3 ∧ st = [(p, b3)]) ?_ ?_ (intsD 3) _ _ ⟨[], b2, rfl, rfl, by simp, hb2, rfl⟩⟩
  · rintro K d r acc st ⟨ws, b3, hr, rfl, hw, hb3, rfl⟩ hK
    repeat walk_at "sy"
    refine c_take (many := n) 0 rfl hn0 (by omega) hb3 fun i b4 hi hb4 => ?_
    refine hK _ _ ⟨ws ++ [i], b4, ?_, ?_, ?_, hb4, rfl⟩
    · rw [List.length_append]; simp at hr ⊢; omega
    · rw [List.map_append]; rfl
    · intro w hw'
      rcases List.mem_append.mp hw' with h | h
      · exact hw w h
      · rw [List.mem_singleton.mp h]; exact hi
  · rintro acc st ⟨ws, b3, hr, rfl, hw, hb3, rfl⟩
    have hr : ws.length = 3 := by simpa using hr
    repeat walk_at "sy"
    exact fin ws b3 (by omega) (by omega) hw hb3
end Cw

set_option Elab.async false
set_option linter.all false
set_option maxRecDepth 100000
set_option maxHeartbeats 0
namespace Cw
open PySem hiding Env
open L2 hiding St
open DL
/-- one step -/
local macro_rules | `(tactic| walk_at "sx") => `(tactic| first | (with_reducible refine i_varH ?_; refine ⟨_, rfl, ?_⟩) | (with_reducible first | refine i_seq ?_ | refine i_asg ?_ | refine i_name ?_ | refine i_bin ?_ | refine i_c ?_ | refine i_fld ?_ | refine i_cons ?_ | refine i_nil ?_ | refine i_if ?_ | refine i_tst ?_ | refine i_ret ?_ | refine i_call ?_ | refine i_meth ?_ | refine i_andT ?_ | refine i_orT ?_ | refine i_notT ?_ | refine i_chain ?_ | refine i_is ?_ | refine i_tup ?_ | refine i_lst ?_ | refine i_cb ?_ | refine i_for ?_ | refine i_next ?_ | refine i_drop ?_ | refine i_andV ?_ | refine i_orV ?_ | refine i_notV ?_ | refine i_ifE ?_ | refine i_lstO ?_ | refine i_setF ?_ | refine i_sub ?_ | refine i_app ?_ | refine i_gtup ?_ | refine i_gcons ?_ | refine i_gnil ?_ | refine i_ilst ?_ | refine i_itup ?_ | refine i_irg ?_ | refine i_irgO ?_ | refine i_irev ?_ | refine i_ienT ?_ | refine i_ienL ?_ | refine i_lRg ?_ | refine i_lc ?_ | refine i_lcO ?_ | refine i_yes ?_ | refine i_retN ?_ | refine i_prop ?_ | refine i_makeO ?_ | refine i_make ?_ | refine i_star ?_) | (with_reducible first | refine q_tst ?_ | refine q_ifT ?_ | refine q_ifF ?_ | refine q_nT ?_ | refine q_nF ?_ | refine q_obj ?_ | refine p_add ?_ | refine p_sub ?_ | refine p_lt ?_ | refine p_le ?_ | refine p_gt ?_ | refine p_leB ?_ | refine p_eqI ?_ | refine p_eqS ?_ | refine p_neI ?_ | refine p_isNy ?_ | refine p_notNy ?_ | refine p_isB ?_ | refine p_notB ?_ | refine p_lenT ?_ | refine p_lenL ?_ | refine p_int ?_ | refine p_tupL ?_ | refine p_lstL ?_ | refine p_lstT ?_) | refine ⟨_, _, .inl rfl, rfl, ?_⟩ | refine p_mul (.inr (by decide)) ?_ | refine p_div ⟨by decide, by decide⟩ ?_ | refine p_mod (by decide) ?_ | (with_reducible refine p_abs ?_) | (with_reducible refine p_max ?_) | (with_reducible refine p_min ?_) | refine q_len rfl ?_ | refine ⟨_, .inl rfl, ?_⟩ | refine ⟨_, rfl, ?_⟩ | refine p_ixL rfl ?_ | refine p_ixT rfl ?_ | refine p_ixO 0 rfl rfl ?_ | refine p_ixO 1 rfl rfl ?_ | refine p_ixO 2 rfl rfl ?_ | refine ⟨_, .inr ⟨_, rfl, rfl⟩, ?_⟩ | refine p_ixO 3 rfl rfl ?_ | refine p_ixO 4 rfl rfl ?_ | refine p_ixO 5 rfl rfl ?_ | refine ⟨_, _, .inr ⟨0, _, rfl, rfl⟩, rfl, ?_⟩ | refine ⟨⟨_, .inr ⟨0, _, rfl, rfl⟩⟩, ?_⟩ | refine ⟨⟨0, _, _, rfl, rfl⟩, ?_⟩ | refine p_lenO 0 rfl ?_ | refine p_tupO 0 rfl ?_ | refine ⟨_, _, .inr ⟨1, _, rfl, rfl⟩, rfl, ?_⟩ | refine ⟨⟨_, .inr ⟨1, _, rfl, rfl⟩⟩, ?_⟩ | refine ⟨⟨1, _, _, rfl, rfl⟩, ?_⟩ | refine p_lenO 1 rfl ?_ | refine p_tupO 1 rfl ?_ | refine ⟨_, _, .inr ⟨2, _, rfl, rfl⟩, rfl, ?_⟩ | refine ⟨⟨_, .inr ⟨2, _, rfl, rfl⟩⟩, ?_⟩ | refine ⟨⟨2, _, _, rfl, rfl⟩, ?_⟩ | refine p_lenO 2 rfl ?_ | refine p_tupO 2 rfl ?_ | refine ⟨_, _, .inr ⟨3, _, rfl, rfl⟩, rfl, ?_⟩ | refine ⟨⟨_, .inr ⟨3, _, rfl, rfl⟩⟩, ?_⟩ | refine ⟨⟨3, _, _, rfl, rfl⟩, ?_⟩ | refine p_lenO 3 rfl ?_ | refine p_tupO 3 rfl ?_ | refine ⟨_, _, .inr ⟨4, _, rfl, rfl⟩, rfl, ?_⟩ | refine ⟨⟨_, .inr ⟨4, _, rfl, rfl⟩⟩, ?_⟩ | refine ⟨⟨4, _, _, rfl, rfl⟩, ?_⟩ | refine p_lenO 4 rfl ?_ | refine p_tupO 4 rfl ?_ | refine ⟨_, _, .inr ⟨5, _, rfl, rfl⟩, rfl, ?_⟩ | refine ⟨⟨_, .inr ⟨5, _, rfl, rfl⟩⟩, ?_⟩ | refine ⟨⟨5, _, _, rfl, rfl⟩, ?_⟩ | refine p_lenO 5 rfl ?_ | refine p_tupO 5 rfl ?_)
local macro_rules | `(tactic| walk_at "sy") => `(tactic| first | walk_at "sx" | refine p_ixT (at_rowsT (by assumption)) ?_ | refine p_ixT (at_range (by assumption)) ?_ | refine p_ixL (at_rowsL (by assumption)) ?_ | refine p_ixL (at_range (by assumption)) ?_ | refine ⟨_, rfl, rfl, ?_⟩ | refine ⟨rfl, ?_⟩ | refine ⟨0, _, _, _, rfl, rfl, .inl ⟨rfl, rfl⟩, ?_⟩ | refine ⟨0, _, _, _, rfl, rfl, .inr ⟨lt_ok rfl, rfl⟩, ?_⟩ | refine ⟨1, _, _, _, rfl, rfl, .inl ⟨rfl, rfl⟩, ?_⟩ | refine ⟨1, _, _, _, rfl, rfl, .inr ⟨lt_ok rfl, rfl⟩, ?_⟩ | refine ⟨2, _, _, _, rfl, rfl, .inl ⟨rfl, rfl⟩, ?_⟩ | refine ⟨2, _, _, _, rfl, rfl, .inr ⟨lt_ok rfl, rfl⟩, ?_⟩ | refine ⟨3, _, _, _, rfl, rfl, .inl ⟨rfl, rfl⟩, ?_⟩ | refine ⟨3, _, _, _, rfl, rfl, .inr ⟨lt_ok rfl, rfl⟩, ?_⟩)
local macro_rules | `(tactic| walk_at "sw") => `(tactic| first | walk_at "sy" | refine i_forc ?_ | refine i_forn ?_ | refine i_lcc ?_ | refine i_lcn ?_ | refine ⟨0, _, _, _, rfl, rfl, rfl, lt_ok rfl, ?_⟩ | refine ⟨1, _, _, _, rfl, rfl, rfl, lt_ok rfl, ?_⟩ | refine ⟨2, _, _, _, rfl, rfl, rfl, lt_ok rfl, ?_⟩ | refine ⟨3, _, _, _, rfl, rfl, rfl, lt_ok rfl, ?_⟩)

/-! ### the order of a sign -/
def leB (L : Lat) (b : Bool) (x y : Nat) : Bool := if b = true then L.le x y else L.le y x
section
variable {L : Lat} {b : Bool}
theorem leB_refl (o : L.Ord) {x : Nat} (hx : x < L.n) : leB L b x x = true := by
  cases b <;> exact o.refl x hx
theorem leB_trans (o : L.Ord) {x y z : Nat} (hx : x < L.n) (hy : y < L.n) (hz : z < L.n) (h : leB L b x y = true) (g : leB L b y z = true) : leB L b x z = true := by
  cases b
  · exact o.trans z y x hz hy hx g h
  · exact o.trans x y z hx hy hz h g
theorem leB_anti (o : L.Ord) {x y : Nat} (hx : x < L.n) (hy : y < L.n) (h : leB L b x y = true) (g : leB L b y x = true) : x = y := by
  cases b
  · exact o.anti x y hx hy g h
  · exact o.anti x y hx hy h g
theorem leB_id (o : L.Ord) {x : Nat} (hx : x < L.n) : leB L b (idL L b) x = true := by
  cases b
  · exact o.tm x hx
  · exact o.bm x hx
theorem op_ub (o : L.Ord) {x y z : Nat} (hx : x < L.n) (hy : y < L.n) (hz : z < L.n) : leB L b (opL L b x y) z = true ↔ leB L b x z = true ∧ leB L b y z = true := by
  have hxy := opL_lt (b := b) o.toOk hx hy
  have u1 : leB L b x (opL L b x y) = true := by
    cases b
    · exact o.ml1 x y hx hy
    · exact o.ju1 x y hx hy
  have u2 : leB L b y (opL L b x y) = true := by
    cases b
    · exact o.ml2 x y hx hy
    · exact o.ju2 x y hx hy
  constructor
  · exact fun h => ⟨leB_trans o hx hxy hz u1 h, leB_trans o hy hxy hz u2 h⟩
  · rintro ⟨h, g⟩
    cases b
    · exact o.mg x y z hx hy hz h g
    · exact o.jl x y z hx hy hz h g
theorem fold_eq (ws : List Nat) : fold L b ws = ws.foldl (opL L b) (idL L b) := by cases b <;> rfl
theorem foldl_ub (o : L.Ord) {z : Nat} (hz : z < L.n) : ∀ (ws : List Nat) (t : Nat), t < L.n → (∀ w ∈ ws, w < L.n) → (leB L b (ws.foldl (opL L b) t) z = true ↔ leB L b t z = true ∧ ∀ w ∈ ws, leB L b w z = true)
  | [], t, ht, hw => by simp
  | w :: ws, t, ht, hw => by
    have hwl := hw w List.mem_cons_self
    rw [List.foldl_cons, foldl_ub o hz ws _ (opL_lt o.toOk ht hwl) fun v m => hw v (List.mem_cons_of_mem _ m), op_ub o ht hwl hz]
    constructor
    · rintro ⟨⟨h1, h2⟩, h3⟩
      refine ⟨h1, fun v hv => ?_⟩
      rcases List.mem_cons.mp hv with rfl | hv
      · exact h2
      · exact h3 v hv
    · rintro ⟨h1, h2⟩
      exact ⟨⟨h1, h2 w List.mem_cons_self⟩, fun v hv => h2 v (List.mem_cons_of_mem _ hv)⟩
theorem fold_ub (o : L.Ord) {z : Nat} (hz : z < L.n) {ws : List Nat} (hw : ∀ w ∈ ws, w < L.n) : leB L b (fold L b ws) z = true ↔ ∀ w ∈ ws, leB L b w z = true := by
  rw [fold_eq, foldl_ub o hz ws _ (idL_lt o.toOk) hw]
  exact ⟨fun h => h.2, fun h => ⟨leB_id o hz, h⟩⟩
theorem getD_mem {l : List Nat} {j : Nat} (h : j < l.length) : l.getD j 0 ∈ l := by
  rw [List.getD_eq_getElem?_getD, List.getElem?_eq_getElem h]
  exact List.getElem_mem _
theorem fold_ubI (o : L.Ord) {z : Nat} (hz : z < L.n) {ws : List Nat} (hw : ∀ w ∈ ws, w < L.n) : leB L b (fold L b ws) z = true ↔ ∀ j, j < ws.length → leB L b (ws.getD j 0) z = true := by
  rw [fold_ub o hz hw]
  constructor
  · exact fun h j hj => h _ (getD_mem hj)
  · intro h w hm
    obtain ⟨j, hj, rfl⟩ := List.mem_iff_getElem.mp hm
    have := h j hj
    rwa [List.getD_eq_getElem?_getD, List.getElem?_eq_getElem hj] at this
/-! ### what is known of the leaves -/
theorem kbnd_at {kn : List (Option Nat)} {j : Nat} (hj : j < kn.length) : (kbnd L b kn).getD j 0 = (kn.getD j none).getD (idL L b) := by
  simp [kbnd, List.getD, hj]
theorem kbnd_lt (o : L.Ord) {kn : List (Option Nat)} (ok : KnOk L kn) : ∀ w ∈ kbnd L b kn, w < L.n := kget_lt ok (idL_lt o.toOk)
theorem koth_ub (o : L.Ord) {kn : List (Option Nat)} (ok : KnOk L kn) {i z : Nat} (hi : i < kn.length) (hz : z < L.n) :
    leB L b ((koth L b kn).getD i 0) z = true ↔ ∀ j, j < kn.length → j ≠ i → leB L b ((kn.getD j none).getD (idL L b)) z = true := by
  have hbl : (kbnd L b kn).length = kn.length := List.length_map _
  have hlt := kbnd_lt (b := b) o ok
  have key := oth_fold (b := b) o hlt (by rw [hbl]; exact ok.1) (i := i) (by rw [hbl]; exact hi)
  have e : (koth L b kn).getD i 0 = (oth L b (kbnd L b kn)).getD i 0 := rfl
  rw [e, ← key, fold_ub o hz]
  · rw [hbl]
    constructor
    · intro h j hj hji
      rw [← kbnd_at hj]
      refine h _ (List.mem_map.mpr ⟨j, List.mem_filter.mpr ⟨List.mem_range.mpr hj, ?_⟩, rfl⟩)
      rw [decide_eq_false (by omega)]; rfl
    · intro h w hm
      obtain ⟨j, hj, rfl⟩ := List.mem_map.mp hm
      obtain ⟨h1, h2⟩ := List.mem_filter.mp hj
      have h1 := List.mem_range.mp h1
      rw [kbnd_at h1]
      refine h j h1 fun e => ?_
      subst e
      simp at h2
  · intro w hm
    obtain ⟨j, hj, rfl⟩ := List.mem_map.mp hm
    have h1 := List.mem_range.mp (List.mem_filter.mp hj).1
    exact hlt _ (getD_mem h1)
/-- a filling of what is known -/
def Fil (kn : List (Option Nat)) (l : List Nat) : Prop := l.length = kn.length ∧ ∀ j v, kn.getD j none = some v → l.getD j 0 = v
theorem koth_le (o : L.Ord) {kn : List (Option Nat)} (ok : KnOk L kn) {i : Nat} (hi : i < kn.length) {l : List Nat} (f : Fil kn l) (hl : ∀ w ∈ l, w < L.n) : leB L b ((koth L b kn).getD i 0) (fold L b l) = true := by
  have hf := fold_lt (b := b) o.toOk hl
  rw [koth_ub o ok hi hf]
  intro j hj _
  cases e : kn.getD j none with
  | none => exact leB_id o hf
  | some v =>
    show leB L b v (fold L b l) = true
    rw [← f.2 j v e]
    exact (fold_ubI o hf hl).mp (leB_refl o hf) j (by rw [f.1]; exact hj)
theorem hgs_no {s : Nat} (h : hgs L b s = false) : leB L b (idL L !b) s = true := by
  unfold hgs at h
  cases b
  · have h : (!L.le s L.bt) = false := h
    show L.le s L.bt = true
    simpa using h
  · have h : (!L.le L.tp s) = false := h
    show L.le L.tp s = true
    simpa using h
theorem leB_top (o : L.Ord) {x : Nat} (hx : x < L.n) : leB L b x (idL L !b) = true := by
  cases b
  · exact o.bm x hx
  · exact o.tm x hx
theorem idn_lt (o : L.Ord) : idL L (!b) < L.n := idL_lt o.toOk
theorem fold_done (o : L.Ord) {kn : List (Option Nat)} (ok : KnOk L kn) (hd : hangL L b kn = []) {l l' : List Nat} (f : Fil kn l) (f' : Fil kn l') (hl : ∀ w ∈ l, w < L.n) (hl' : ∀ w ∈ l', w < L.n) : fold L b l = fold L b l' := by
  by_cases h : ∃ i, i < kn.length ∧ kn.getD i none = none
  · obtain ⟨i, hi, hn⟩ := h
    have hg : hgs L b ((koth L b kn).getD i 0) = false := by
      cases e : hgs L b ((koth L b kn).getD i 0) with
      | false => rfl
      | true =>
        have : i ∈ hangL L b kn := List.mem_filter.mpr ⟨List.mem_range.mpr hi, by rw [hn, e]; rfl⟩
        rw [hd] at this
        cases this
    have gen : ∀ l : List Nat, Fil kn l → (∀ w ∈ l, w < L.n) → fold L b l = idL L !b := fun l f hl => by
      have hf := fold_lt (b := b) o.toOk hl
      exact leB_anti (b := b) o hf (idn_lt o) (leB_top o hf) (leB_trans o (idn_lt o) (koth_lt o.toOk ok hi) hf (hgs_no hg) (koth_le o ok hi f hl))
    rw [gen l f hl, gen l' f' hl']
  · have e : l = l' := by
      apply List.ext_getElem?
      intro i
      by_cases hi : i < kn.length
      · cases e : kn.getD i none with
        | none => exact absurd ⟨i, hi, e⟩ h
        | some v =>
          have h1 := f.2 i v e
          have h2 := f'.2 i v e
          have i1 : i < l.length := by rw [f.1]; exact hi
          have i2 : i < l'.length := by rw [f'.1]; exact hi
          rw [List.getD_eq_getElem?_getD, List.getElem?_eq_getElem i1] at h1
          rw [List.getD_eq_getElem?_getD, List.getElem?_eq_getElem i2] at h2
          rw [List.getElem?_eq_getElem i1, List.getElem?_eq_getElem i2]
          exact congrArg some (h1.trans h2.symm)
      · rw [List.getElem?_eq_none (by rw [f.1]; omega), List.getElem?_eq_none (by rw [f'.1]; omega)]
    rw [e]
def fillK (kn : List (Option Nat)) (tr : List Nat) : List Nat := (List.range kn.length).map fun j => (kn.getD j none).getD (tr.getD j 0)
theorem fill_at {kn : List (Option Nat)} {tr : List Nat} {j : Nat} (hj : j < kn.length) : (fillK kn tr).getD j 0 = (kn.getD j none).getD (tr.getD j 0) := by
  simp [fillK, List.getD, hj]
theorem fill_len {kn : List (Option Nat)} {tr : List Nat} : (fillK kn tr).length = kn.length := by unfold fillK; rw [List.length_map, List.length_range]
theorem fill_lt {kn : List (Option Nat)} {tr : List Nat} (ok : KnOk L kn) (hl : tr.length = kn.length) (ht : ∀ w ∈ tr, w < L.n) : ∀ w ∈ fillK kn tr, w < L.n := fun w hw => by
  obtain ⟨j, hj, rfl⟩ := List.mem_map.mp hw
  have hj := List.mem_range.mp hj
  cases e : kn.getD j none with
  | none => exact ht _ (getD_mem (by omega))
  | some v =>
    refine ok.2 _ ?_ v rfl
    rw [← e, List.getD_eq_getElem?_getD, List.getElem?_eq_getElem hj]
    exact List.getElem_mem _
theorem fil_fill {kn : List (Option Nat)} {tr : List Nat} : Fil kn (fillK kn tr) := ⟨fill_len, fun j v e => by
  have hj : j < kn.length := by
    by_cases h : j < kn.length
    · exact h
    · rw [List.getD_eq_getElem?_getD, List.getElem?_eq_none (by omega)] at e; cases e
  rw [fill_at hj, e]; rfl⟩
theorem fil_map {kn : List (Option Nat)} (z : Nat) : Fil kn (kn.map (·.getD z)) := ⟨List.length_map _, fun j v e => by
  have hj : j < kn.length := by
    by_cases h : j < kn.length
    · exact h
    · rw [List.getD_eq_getElem?_getD, List.getElem?_eq_none (by omega)] at e; cases e
  rw [List.getD_eq_getElem?_getD, List.getElem?_eq_getElem hj] at e
  rw [List.getD_eq_getElem?_getD, List.getElem?_map, List.getElem?_eq_getElem hj]
  have e : kn[j] = some v := e
  rw [e]; rfl⟩
theorem set_at {kn : List (Option Nat)} {i j : Nat} {v : Option Nat} (hi : i < kn.length) : (kn.set i v).getD j none = if j = i then v else kn.getD j none := by
  by_cases e : j = i
  · subst e
    rw [if_pos rfl, List.getD_eq_getElem?_getD, List.getElem?_set_self hi]; rfl
  · rw [if_neg e, List.getD_eq_getElem?_getD, List.getElem?_set_ne (fun h => e h.symm), ← List.getD_eq_getElem?_getD]
/-- a worth that agrees under a stale context leaves the root's worth -/
theorem fold_give (o : L.Ord) {kn : List (Option Nat)} {tr : List Nat} (ok : KnOk L kn) (hl : tr.length = kn.length) (ht : ∀ w ∈ tr, w < L.n) {i v s : Nat} (hi : i < kn.length) (hno : kn.getD i none = none) (hv : v < L.n) (hs : s < L.n)
    (hle : leB L b s ((koth L b kn).getD i 0) = true) (hag : opL L b s v = opL L b s (tr.getD i 0)) : fold L b (fillK (kn.set i (some v)) tr) = fold L b (fillK kn tr) := by
  have hti : tr.getD i 0 < L.n := ht _ (getD_mem (by omega))
  have ok' := kn_put ok (i := i) hv
  have hl' : tr.length = (kn.set i (some v)).length := by rw [List.length_set]; exact hl
  have l1 := fill_lt ok hl ht
  have l2 := fill_lt ok' hl' ht
  have f1 := fold_lt (b := b) o.toOk l1
  have f2 := fold_lt (b := b) o.toOk l2
  have key : ∀ z, z < L.n → (leB L b (fold L b (fillK (kn.set i (some v)) tr)) z = true ↔ leB L b (fold L b (fillK kn tr)) z = true) := fun z hz => by
    rw [fold_ubI o hz l1, fold_ubI o hz l2, fill_len, fill_len, List.length_set]
    have oth : (∀ j, j < kn.length → j ≠ i → leB L b ((kn.getD j none).getD (tr.getD j 0)) z = true) → (leB L b v z = true ↔ leB L b (tr.getD i 0) z = true) := fun h => by
      have hk : leB L b ((koth L b kn).getD i 0) z = true := by
        rw [koth_ub o ok hi hz]
        intro j hj hji
        have := h j hj hji
        cases e : kn.getD j none with
        | none => exact leB_id o hz
        | some x => rw [e] at this; exact this
      have hsz := leB_trans o hs (koth_lt o.toOk ok hi) hz hle hk
      have e1 := op_ub (b := b) o hs hv hz
      have e2 := op_ub (b := b) o hs hti hz
      rw [hag] at e1
      constructor
      · exact fun g => (e2.mp (e1.mpr ⟨hsz, g⟩)).2
      · exact fun g => (e1.mp (e2.mpr ⟨hsz, g⟩)).2
    constructor
    · intro h
      have h2 : ∀ j, j < kn.length → j ≠ i → leB L b ((kn.getD j none).getD (tr.getD j 0)) z = true := fun j hj hji => by
        have := h j hj
        rw [fill_at (by rw [List.length_set]; exact hj), set_at hi, if_neg hji] at this
        exact this
      intro j hj
      rw [fill_at hj]
      by_cases e : j = i
      · subst e
        rw [hno]
        have := h j hj
        rw [fill_at (by rw [List.length_set]; exact hj), set_at hi, if_pos rfl] at this
        exact (oth h2).mp this
      · exact h2 j hj e
    · intro h
      have h2 : ∀ j, j < kn.length → j ≠ i → leB L b ((kn.getD j none).getD (tr.getD j 0)) z = true := fun j hj hji => by
        have := h j hj
        rw [fill_at hj] at this
        exact this
      intro j hj
      rw [fill_at (by rw [List.length_set]; exact hj), set_at hi]
      by_cases e : j = i
      · subst e
        rw [if_pos rfl]
        have := h j hj
        rw [fill_at hj, hno] at this
        exact (oth h2).mpr this
      · rw [if_neg e]
        exact h2 j hj e
  exact leB_anti o f2 f1 ((key _ f1).mpr (leB_refl o f1)) ((key _ f2).mp (leB_refl o f2))
/-- contexts only narrow -/
theorem koth_up (o : L.Ord) {kn : List (Option Nat)} (ok : KnOk L kn) {i j v : Nat} (hi : i < kn.length) (hj : j < kn.length) (hno : kn.getD j none = none) (hv : v < L.n) : leB L b ((koth L b kn).getD i 0) ((koth L b (kn.set j (some v))).getD i 0) = true := by
  have ok' := kn_put ok (i := j) hv
  have hi' : i < (kn.set j (some v)).length := by rw [List.length_set]; exact hi
  have hz := koth_lt (b := b) o.toOk ok' hi'
  rw [koth_ub o ok hi hz]
  intro q hq hqi
  have := (koth_ub (b := b) o ok' hi' hz).mp (leB_refl o hz) q (by rw [List.length_set]; exact hq) hqi
  rw [set_at hj] at this
  by_cases e : q = j
  · subst e
    rw [hno]
    exact leB_id o hz
  · rw [if_neg e] at this
    exact this
theorem val_ctx (o : L.Ord) {s v : Nat} (hs : s < L.n) (hv : v < L.n) : valC L (ctxP L b s).1 (ctxP L b s).2 v = opL L b s v := by
  cases b
  · show L.jn L.bt (L.mt s v) = L.mt s v
    exact jn_bt o (o.mlt s v hs hv)
  · show L.jn s (L.mt L.tp v) = L.jn s v
    rw [mt_tp o hv]
end
end Cw

set_option Elab.async false
set_option linter.all false
set_option maxRecDepth 100000
set_option maxHeartbeats 0
namespace Cw
open PySem hiding Env
open L2 hiding St
open DL
/-- one step -/
local macro_rules | `(tactic| walk_at "sx") => `(tactic| first | (with_reducible refine i_varH ?_; refine ⟨_, rfl, ?_⟩) | (with_reducible first | refine i_seq ?_ | refine i_asg ?_ | refine i_name ?_ | refine i_bin ?_ | refine i_c ?_ | refine i_fld ?_ | refine i_cons ?_ | refine i_nil ?_ | refine i_if ?_ | refine i_tst ?_ | refine i_ret ?_ | refine i_call ?_ | refine i_meth ?_ | refine i_andT ?_ | refine i_orT ?_ | refine i_notT ?_ | refine i_chain ?_ | refine i_is ?_ | refine i_tup ?_ | refine i_lst ?_ | refine i_cb ?_ | refine i_for ?_ | refine i_next ?_ | refine i_drop ?_ | refine i_andV ?_ | refine i_orV ?_ | refine i_notV ?_ | refine i_ifE ?_ | refine i_lstO ?_ | refine i_setF ?_ | refine i_sub ?_ | refine i_app ?_ | refine i_gtup ?_ | refine i_gcons ?_ | refine i_gnil ?_ | refine i_ilst ?_ | refine i_itup ?_ | refine i_irg ?_ | refine i_irgO ?_ | refine i_irev ?_ | refine i_ienT ?_ | refine i_ienL ?_ | refine i_lRg ?_ | refine i_lc ?_ | refine i_lcO ?_ | refine i_yes ?_ | refine i_retN ?_ | refine i_prop ?_ | refine i_makeO ?_ | refine i_make ?_ | refine i_star ?_) | (with_reducible first | refine q_tst ?_ | refine q_ifT ?_ | refine q_ifF ?_ | refine q_nT ?_ | refine q_nF ?_ | refine q_obj ?_ | refine p_add ?_ | refine p_sub ?_ | refine p_lt ?_ | refine p_le ?_ | refine p_gt ?_ | refine p_leB ?_ | refine p_eqI ?_ | refine p_eqS ?_ | refine p_neI ?_ | refine p_isNy ?_ | refine p_notNy ?_ | refine p_isB ?_ | refine p_notB ?_ | refine p_lenT ?_ | refine p_lenL ?_ | refine p_int ?_ | refine p_tupL ?_ | refine p_lstL ?_ | refine p_lstT ?_) | refine ⟨_, _, .inl rfl, rfl, ?_⟩ | refine p_mul (.inr (by decide)) ?_ | refine p_div ⟨by decide, by decide⟩ ?_ | refine p_mod (by decide) ?_ | (with_reducible refine p_abs ?_) | (with_reducible refine p_max ?_) | (with_reducible refine p_min ?_) | refine q_len rfl ?_ | refine ⟨_, .inl rfl, ?_⟩ | refine ⟨_, rfl, ?_⟩ | refine p_ixL rfl ?_ | refine p_ixT rfl ?_ | refine p_ixO 0 rfl rfl ?_ | refine p_ixO 1 rfl rfl ?_ | refine p_ixO 2 rfl rfl ?_ | refine ⟨_, .inr ⟨_, rfl, rfl⟩, ?_⟩ | refine p_ixO 3 rfl rfl ?_ | refine p_ixO 4 rfl rfl ?_ | refine p_ixO 5 rfl rfl ?_ | refine ⟨_, _, .inr ⟨0, _, rfl, rfl⟩, rfl, ?_⟩ | refine ⟨⟨_, .inr ⟨0, _, rfl, rfl⟩⟩, ?_⟩ | refine ⟨⟨0, _, _, rfl, rfl⟩, ?_⟩ | refine p_lenO 0 rfl ?_ | refine p_tupO 0 rfl ?_ | refine ⟨_, _, .inr ⟨1, _, rfl, rfl⟩, rfl, ?_⟩ | refine ⟨⟨_, .inr ⟨1, _, rfl, rfl⟩⟩, ?_⟩ | refine ⟨⟨1, _, _, rfl, rfl⟩, ?_⟩ | refine p_lenO 1 rfl ?_ | refine p_tupO 1 rfl ?_ | refine ⟨_, _, .inr ⟨2, _, rfl, rfl⟩, rfl, ?_⟩ | refine ⟨⟨_, .inr ⟨2, _, rfl, rfl⟩⟩, ?_⟩ | refine ⟨⟨2, _, _, rfl, rfl⟩, ?_⟩ | refine p_lenO 2 rfl ?_ | refine p_tupO 2 rfl ?_ | refine ⟨_, _, .inr ⟨3, _, rfl, rfl⟩, rfl, ?_⟩ | refine ⟨⟨_, .inr ⟨3, _, rfl, rfl⟩⟩, ?_⟩ | refine ⟨⟨3, _, _, rfl, rfl⟩, ?_⟩ | refine p_lenO 3 rfl ?_ | refine p_tupO 3 rfl ?_ | refine ⟨_, _, .inr ⟨4, _, rfl, rfl⟩, rfl, ?_⟩ | refine ⟨⟨_, .inr ⟨4, _, rfl, rfl⟩⟩, ?_⟩ | refine ⟨⟨4, _, _, rfl, rfl⟩, ?_⟩ | refine p_lenO 4 rfl ?_ | refine p_tupO 4 rfl ?_ | refine ⟨_, _, .inr ⟨5, _, rfl, rfl⟩, rfl, ?_⟩ | refine ⟨⟨_, .inr ⟨5, _, rfl, rfl⟩⟩, ?_⟩ | refine ⟨⟨5, _, _, rfl, rfl⟩, ?_⟩ | refine p_lenO 5 rfl ?_ | refine p_tupO 5 rfl ?_)
local macro_rules | `(tactic| walk_at "sy") => `(tactic| first | walk_at "sx" | refine p_ixT (at_rowsT (by assumption)) ?_ | refine p_ixT (at_range (by assumption)) ?_ | refine p_ixL (at_rowsL (by assumption)) ?_ | refine p_ixL (at_range (by assumption)) ?_ | refine ⟨_, rfl, rfl, ?_⟩ | refine ⟨rfl, ?_⟩ | refine ⟨0, _, _, _, rfl, rfl, .inl ⟨rfl, rfl⟩, ?_⟩ | refine ⟨0, _, _, _, rfl, rfl, .inr ⟨lt_ok rfl, rfl⟩, ?_⟩ | refine ⟨1, _, _, _, rfl, rfl, .inl ⟨rfl, rfl⟩, ?_⟩ | refine ⟨1, _, _, _, rfl, rfl, .inr ⟨lt_ok rfl, rfl⟩, ?_⟩ | refine ⟨2, _, _, _, rfl, rfl, .inl ⟨rfl, rfl⟩, ?_⟩ | refine ⟨2, _, _, _, rfl, rfl, .inr ⟨lt_ok rfl, rfl⟩, ?_⟩ | refine ⟨3, _, _, _, rfl, rfl, .inl ⟨rfl, rfl⟩, ?_⟩ | refine ⟨3, _, _, _, rfl, rfl, .inr ⟨lt_ok rfl, rfl⟩, ?_⟩)
local macro_rules | `(tactic| walk_at "sw") => `(tactic| first | walk_at "sy" | refine i_forc ?_ | refine i_forn ?_ | refine i_lcc ?_ | refine i_lcn ?_ | refine ⟨0, _, _, _, rfl, rfl, rfl, lt_ok rfl, ?_⟩ | refine ⟨1, _, _, _, rfl, rfl, rfl, lt_ok rfl, ?_⟩ | refine ⟨2, _, _, _, rfl, rfl, rfl, lt_ok rfl, ?_⟩ | refine ⟨3, _, _, _, rfl, rfl, rfl, lt_ok rfl, ?_⟩)

/-! ### the weaving: states, steps -/
structure Hd where
  num : Nat
  i : Nat
  s : Nat
structure Sw where
  kn : List (Option Nat)
  hs : List (Option Hd)
  jobs : List Jb
abbrev Sw.at (S : Sw) (w : Nat) : Option Hd := S.hs.getD w none
structure Inv (L : Lat) (b : Bool) (tr : List Nat) (S : Sw) : Prop where
  ok : KnOk L S.kn
  len : tr.length = S.kn.length
  h2 : S.hs.length = 2
  hj : ∀ w h, S.at w = some h → S.jobs[h.num]? = some ⟨w, h.i, (ctxP L b h.s).1, (ctxP L b h.s).2, true⟩
  jh : ∀ (q : Nat) (j : Jb), S.jobs[q]? = some j → j.out = true → ∃ h, S.at j.h = some h ∧ h.num = q ∧ h.i = j.i
  hi : ∀ w h, S.at w = some h → h.i < S.kn.length ∧ S.kn.getD h.i none = none ∧ h.s < L.n ∧ leB L b h.s ((koth L b S.kn).getD h.i 0) = true
  ap : ∀ w v h g, S.at w = some h → S.at v = some g → h.i = g.i → w = v
  wo : fold L b (fillK S.kn tr) = fold L b tr
def Sw.given (S : Sw) (w : Nat) (h : Hd) (j : Jb) (v : Nat) : Sw := ⟨S.kn.set h.i (some v), S.hs.set w none, S.jobs.set h.num { j with out := false }⟩
def Sw.took (S : Sw) (L : Lat) (b : Bool) (w i : Nat) : Sw := ⟨S.kn, S.hs.set w (some ⟨S.jobs.length, i, (koth L b S.kn).getD i 0⟩), S.jobs ++ [⟨w, i, (ctxP L b ((koth L b S.kn).getD i 0)).1, (ctxP L b ((koth L b S.kn).getD i 0)).2, true⟩]⟩
section
variable {L : Lat} {b : Bool} {tr : List Nat} {S : Sw}
theorem hs_set {hs : List (Option Hd)} {w v : Nat} {x : Option Hd} (hw : w < hs.length) : (hs.set w x).getD v none = if v = w then x else hs.getD v none := by
  by_cases e : v = w
  · subst e
    rw [if_pos rfl, List.getD_eq_getElem?_getD, List.getElem?_set_self hw]; rfl
  · rw [if_neg e, List.getD_eq_getElem?_getD, List.getElem?_set_ne (fun h => e h.symm), ← List.getD_eq_getElem?_getD]
theorem at_lt (I : Inv L b tr S) {w : Nat} {h : Hd} (hw : S.at w = some h) : w < 2 := by
  by_cases e : w < 2
  · exact e
  · have : S.at w = none := by
      show S.hs.getD w none = none
      rw [List.getD_eq_getElem?_getD, List.getElem?_eq_none (by rw [I.h2]; omega)]; rfl
    rw [this] at hw; cases hw
theorem inv_give (o : L.Ord) (ht : ∀ w ∈ tr, w < L.n) (I : Inv L b tr S) {w v : Nat} {h : Hd} {j : Jb} (hw : S.at w = some h) (hjb : S.jobs[h.num]? = some j) (hv : v < L.n) (hag : opL L b h.s v = opL L b h.s (tr.getD h.i 0)) : Inv L b tr (S.given w h j v) := by
  obtain ⟨hi, hno, hs, hle⟩ := I.hi w h hw
  have w2 := at_lt I hw
  have wl : w < S.hs.length := by rw [I.h2]; exact w2
  have hq := (List.getElem?_eq_some_iff.mp hjb).1
  have at' : ∀ x g, (S.given w h j v).at x = some g → x ≠ w ∧ S.at x = some g := fun x g e => by
    have e : (S.hs.set w none).getD x none = some g := e
    rw [hs_set wl] at e
    by_cases c : x = w
    · rw [if_pos c] at e; cases e
    · rw [if_neg c] at e; exact ⟨c, e⟩
  refine { ok := kn_put I.ok hv, len := ?_, h2 := ?_, hj := fun x g e => ?_, jh := fun q jj e out => ?_, hi := fun x g e => ?_, ap := fun x y g g' e e' c => ?_, wo := ?_ }
  · show tr.length = (S.kn.set h.i (some v)).length
    rw [List.length_set]; exact I.len
  · show (S.hs.set w none).length = 2
    rw [List.length_set]; exact I.h2
  · obtain ⟨c, e⟩ := at' x g e
    have h1 := I.hj x g e
    have hne : g.num ≠ h.num := fun z => by
      have h2 := I.hj w h hw
      rw [z, h2] at h1
      have := congrArg Jb.h (Option.some.inj h1)
      exact c this.symm
    show (S.jobs.set h.num { j with out := false })[g.num]? = _
    rw [List.getElem?_set_ne fun z => hne z.symm]
    exact h1
  · have e : (S.jobs.set h.num { j with out := false })[q]? = some jj := e
    by_cases c : h.num = q
    · subst c
      rw [List.getElem?_set_self hq] at e
      cases e
      cases out
    · rw [List.getElem?_set_ne c] at e
      obtain ⟨g, g1, g2, g3⟩ := I.jh q jj e out
      refine ⟨g, ?_, g2, g3⟩
      show (S.hs.set w none).getD jj.h none = some g
      rw [hs_set wl, if_neg]
      · exact g1
      · intro z
        rw [z] at g1
        have : g = h := by
          have g1 : S.at w = some g := g1
          rw [hw] at g1
          exact (Option.some.inj g1).symm
        rw [this] at g2
        exact c g2
  · obtain ⟨c, e⟩ := at' x g e
    obtain ⟨g1, g2, g3, g4⟩ := I.hi x g e
    have hne : g.i ≠ h.i := fun z => c (I.ap x w g h e hw z)
    refine ⟨?_, ?_, g3, ?_⟩
    · show g.i < (S.kn.set h.i (some v)).length
      rw [List.length_set]; exact g1
    · show (S.kn.set h.i (some v)).getD g.i none = none
      rw [set_at hi, if_neg hne]; exact g2
    · refine leB_trans o g3 (koth_lt o.toOk I.ok g1) ?_ g4 (koth_up o I.ok g1 hi hno hv)
      exact koth_lt o.toOk (kn_put I.ok hv) (by rw [List.length_set]; exact g1)
  · obtain ⟨_, e⟩ := at' x g e
    obtain ⟨_, e'⟩ := at' y g' e'
    exact I.ap x y g g' e e' c
  · show fold L b (fillK (S.kn.set h.i (some v)) tr) = fold L b tr
    rw [fold_give o I.ok I.len ht hi hno hv hs hle hag]
    exact I.wo
theorem free_lt {kn : List (Option Nat)} {jobs : List Jb} {i : Nat} {is : List Nat} (h : freeI L b kn jobs = i :: is) : i < kn.length ∧ kn.getD i none = none ∧ ∀ j ∈ jobs, j.out = true → j.i ≠ i := by
  have hm : i ∈ freeI L b kn jobs := by rw [h]; exact List.mem_cons_self
  obtain ⟨h1, h2⟩ := List.mem_filter.mp hm
  obtain ⟨h3, h4, _⟩ := hangL_lt i h1
  refine ⟨h3, h4, fun j hj out e => ?_⟩
  have : ((heldBy jobs).map Jb.i).contains i = true := List.contains_iff_mem.mpr (List.mem_map.mpr ⟨j, List.mem_filter.mpr ⟨hj, out⟩, e⟩)
  rw [this] at h2
  cases h2
theorem inv_take (o : L.Ord) (I : Inv L b tr S) {w i : Nat} {is : List Nat} (w2 : w < 2) (hw : S.at w = none) (hf : freeI L b S.kn S.jobs = i :: is) : Inv L b tr (S.took L b w i) := by
  obtain ⟨hi, hno, hfr⟩ := free_lt hf
  have wl : w < S.hs.length := by rw [I.h2]; exact w2
  have at' : ∀ x g, (S.took L b w i).at x = some g → (x = w ∧ g = ⟨S.jobs.length, i, (koth L b S.kn).getD i 0⟩) ∨ (x ≠ w ∧ S.at x = some g) := fun x g e => by
    have e : (S.hs.set w (some ⟨S.jobs.length, i, (koth L b S.kn).getD i 0⟩)).getD x none = some g := e
    rw [hs_set wl] at e
    by_cases c : x = w
    · rw [if_pos c] at e; exact .inl ⟨c, (Option.some.inj e).symm⟩
    · rw [if_neg c] at e; exact .inr ⟨c, e⟩
  have old : ∀ x g, S.at x = some g → g.i ≠ i := fun x g e => hfr _ (List.mem_of_getElem? (I.hj x g e)) rfl
  refine { ok := I.ok, len := I.len, h2 := ?_, hj := fun x g e => ?_, jh := fun q jj e out => ?_, hi := fun x g e => ?_, ap := fun x y g g' e e' c => ?_, wo := I.wo }
  · show (S.hs.set w _).length = 2
    rw [List.length_set]; exact I.h2
  · rcases at' x g e with ⟨rfl, rfl⟩ | ⟨c, e⟩
    · show (S.jobs ++ [_])[S.jobs.length]? = _
      rw [List.getElem?_append_right (Nat.le_refl _), Nat.sub_self]
      rfl
    · have h1 := I.hj x g e
      show (S.jobs ++ [_])[g.num]? = _
      rw [List.getElem?_append_left (List.getElem?_eq_some_iff.mp h1).1]
      exact h1
  · have e : (S.jobs ++ [_])[q]? = some jj := e
    by_cases c : q < S.jobs.length
    · rw [List.getElem?_append_left c] at e
      obtain ⟨g, g1, g2, g3⟩ := I.jh q jj e out
      refine ⟨g, ?_, g2, g3⟩
      show (S.hs.set w _).getD jj.h none = some g
      rw [hs_set wl, if_neg]
      · exact g1
      · intro z
        rw [z] at g1
        have g1 : S.at w = some g := g1
        rw [hw] at g1
        cases g1
    · rw [List.getElem?_append_right (by omega)] at e
      have e0 : q - S.jobs.length = 0 := by
        have := (List.getElem?_eq_some_iff.mp e).1
        simp at this
        omega
      rw [e0] at e
      have e := Option.some.inj e
      subst e
      refine ⟨⟨S.jobs.length, i, (koth L b S.kn).getD i 0⟩, ?_, by show S.jobs.length = q; omega, rfl⟩
      show (S.hs.set w _).getD w none = _
      rw [hs_set wl, if_pos rfl]
  · rcases at' x g e with ⟨rfl, rfl⟩ | ⟨c, e⟩
    · have hk := koth_lt (b := b) o.toOk I.ok hi
      exact ⟨hi, hno, hk, leB_refl o hk⟩
    · exact I.hi x g e
  · rcases at' x g e with ⟨rfl, rfl⟩ | ⟨d, e2⟩
    · rcases at' y g' e' with ⟨rfl, rfl⟩ | ⟨d', e3⟩
      · rfl
      · exact absurd c.symm (old y g' e3)
    · rcases at' y g' e' with ⟨rfl, rfl⟩ | ⟨d', e3⟩
      · exact absurd c (old x g e2)
      · exact I.ap x y g g' e2 e3 c
/-! ### how it ends -/
inductive StepW (L : Lat) (b : Bool) (w : Nat) (S : Sw) : Sw → Prop
  | give (h : Hd) (j : Jb) (v : Nat) (hw : S.at w = some h) : StepW L b w S (S.given w h j v)
  | take (i : Nat) (is : List Nat) (hw : S.at w = none) (hf : freeI L b S.kn S.jobs = i :: is) : StepW L b w S (S.took L b w i)
  | rest (hw : S.at w = none) (hf : freeI L b S.kn S.jobs = []) : StepW L b w S S
def Good (L : Lat) (b : Bool) (tr : List Nat) : List Nat → Sw → Prop
  | [], S => hangL L b S.kn = []
  | w :: r, S => w < 2 ∧ ∀ S', Inv L b tr S' → StepW L b w S S' → Good L b tr r S'
def unk (S : Sw) : Nat := S.kn.countP (·.isNone)
def hld (S : Sw) : Nat := S.hs.countP (·.isSome)
def Quiet (L : Lat) (b : Bool) (S : Sw) : Prop := (∀ w, S.at w = none) ∧ hangL L b S.kn = []
theorem cnt_give (I : Inv L b tr S) {w v : Nat} {h : Hd} {j : Jb} (hw : S.at w = some h) : unk (S.given w h j v) + 1 = unk S ∧ hld (S.given w h j v) + 1 = hld S := by
  obtain ⟨hi, hno, _, _⟩ := I.hi w h hw
  have w2 := at_lt I hw
  have wl : w < S.hs.length := by rw [I.h2]; exact w2
  have e1 : S.kn[h.i] = none := by
    rw [List.getD_eq_getElem?_getD, List.getElem?_eq_getElem hi] at hno; exact hno
  have e2 : S.hs[w] = some h := by
    have hw : S.hs.getD w none = some h := hw
    rw [List.getD_eq_getElem?_getD, List.getElem?_eq_getElem wl] at hw; exact hw
  have p1 : 0 < S.kn.countP (·.isNone) := List.countP_pos_iff.mpr ⟨_, List.getElem_mem hi, by rw [e1]; rfl⟩
  have p2 : 0 < S.hs.countP (·.isSome) := List.countP_pos_iff.mpr ⟨_, List.getElem_mem wl, by rw [e2]; rfl⟩
  constructor
  · show (S.kn.set h.i (some v)).countP (·.isNone) + 1 = S.kn.countP (·.isNone)
    rw [List.countP_set hi, e1]
    simp
    omega
  · show (S.hs.set w none).countP (·.isSome) + 1 = S.hs.countP (·.isSome)
    rw [List.countP_set wl, e2]
    simp
    omega
theorem cnt_take (I : Inv L b tr S) {w i : Nat} (w2 : w < 2) (hw : S.at w = none) : unk (S.took L b w i) = unk S ∧ hld (S.took L b w i) = hld S + 1 := by
  have wl : w < S.hs.length := by rw [I.h2]; exact w2
  have e2 : S.hs[w] = none := by
    have hw : S.hs.getD w none = none := hw
    rw [List.getD_eq_getElem?_getD, List.getElem?_eq_getElem wl] at hw; exact hw
  refine ⟨rfl, ?_⟩
  show (S.hs.set w _).countP (·.isSome) = S.hs.countP (·.isSome) + 1
  rw [List.countP_set wl, e2]
  simp
theorem no_unk (h : unk S = 0) : hangL L b S.kn = [] := by
  have := List.countP_eq_zero.mp h
  refine List.filter_eq_nil_iff.mpr fun i hi => ?_
  have hi := List.mem_range.mp hi
  have := this _ (List.getElem_mem hi)
  rw [List.getD_eq_getElem?_getD, List.getElem?_eq_getElem hi]
  show ¬ ((S.kn[i]).isNone && _) = true
  cases e : (S.kn[i]).isNone with
  | true => exact absurd e this
  | false => simp
theorem few_unk (I : Inv L b tr S) (h : 2 * unk S ≤ hld S) : unk S = 0 := by
  have hl : hld S ≤ 2 := by
    have := List.countP_le_length (p := fun x : Option Hd => x.isSome) (l := S.hs)
    rw [I.h2] at this; exact this
  by_cases z : unk S = 0
  · exact z
  · exfalso
    have u1 : unk S = 1 := by omega
    have h2 : hld S = 2 := by omega
    have all := List.countP_eq_length.mp (show S.hs.countP (·.isSome) = S.hs.length by rw [I.h2]; exact h2)
    have get : ∀ w, w < 2 → ∃ h, S.at w = some h := fun w hw => by
      have wl : w < S.hs.length := by rw [I.h2]; exact hw
      have := all _ (List.getElem_mem wl)
      cases e : S.hs[w] with
      | none => rw [e] at this; cases this
      | some h => exact ⟨h, by show S.hs.getD w none = _; rw [List.getD_eq_getElem?_getD, List.getElem?_eq_getElem wl]; exact e⟩
    obtain ⟨g, hg⟩ := get 0 (by decide)
    obtain ⟨f, hf⟩ := get 1 (by decide)
    obtain ⟨g1, g2, _, _⟩ := I.hi 0 g hg
    obtain ⟨f1, f2, _, _⟩ := I.hi 1 f hf
    have hne : f.i ≠ g.i := fun z => absurd (I.ap 1 0 f g hf hg z) (by decide)
    have e1 : S.kn[g.i] = none := by
      rw [List.getD_eq_getElem?_getD, List.getElem?_eq_getElem g1] at g2; exact g2
    have c1 : (S.kn.set g.i (some 0)).countP (·.isNone) = 0 := by
      rw [List.countP_set g1, e1]
      show S.kn.countP (·.isNone) - 1 + 0 = 0
      have : S.kn.countP (·.isNone) = 1 := u1
      omega
    have hl : f.i < (S.kn.set g.i (some 0)).length := by rw [List.length_set]; exact f1
    have c2 := List.countP_eq_zero.mp c1 _ (List.getElem_mem hl)
    have e2 : (S.kn.set g.i (some 0))[f.i] = none := by
      have := set_at (kn := S.kn) (j := f.i) (v := some 0) g1
      rw [if_neg hne, f2, List.getD_eq_getElem?_getD, List.getElem?_eq_getElem hl] at this
      exact this
    rw [e2] at c2
    exact c2 rfl
theorem free_nil (I : Inv L b tr S) (h : ∀ w, S.at w = none) : freeI L b S.kn S.jobs = hangL L b S.kn := by
  have e : heldBy S.jobs = [] := List.filter_eq_nil_iff.mpr fun j hj out => by
    obtain ⟨q, hq⟩ := List.mem_iff_getElem?.mp hj
    obtain ⟨g, g1, _⟩ := I.jh q j hq out
    rw [h] at g1; cases g1
  unfold freeI
  rw [e]
  exact List.filter_eq_self.mpr fun i _ => rfl
theorem good_quiet : ∀ (r : List Nat) (S : Sw), (∀ w ∈ r, w < 2) → Inv L b tr S → Quiet L b S → Good L b tr r S
  | [], S, _, _, q => q.2
  | w :: r, S, hr, I, q => by
    refine ⟨hr w List.mem_cons_self, fun S' I' st => ?_⟩
    cases st with
    | give h j v hw => rw [q.1] at hw; cases hw
    | take i is hw hf => rw [free_nil I q.1, q.2] at hf; cases hf
    | rest hw hf => exact good_quiet r S (fun w m => hr w (List.mem_cons_of_mem _ m)) I q
def pairs : Nat → List Nat
  | 0 => []
  | k + 1 => 1 :: 0 :: pairs k
theorem pairs_lt : ∀ k, ∀ w ∈ pairs k, w < 2
  | 0, w, h => by cases h
  | k + 1, w, h => by
    rcases List.mem_cons.mp h with rfl | h
    · decide
    · rcases List.mem_cons.mp h with rfl | h
      · decide
      · exact pairs_lt k w h
theorem step_le (I : Inv L b tr S) {w : Nat} {S' : Sw} {k : Nat} (w2 : w < 2) (st : StepW L b w S S') (h : 2 * unk S ≤ hld S + k) : 2 * unk S' ≤ hld S' + k := by
  cases st with
  | give h j v hw =>
    obtain ⟨a, c⟩ := cnt_give (j := j) (v := v) I hw
    omega
  | take i is hw hf =>
    obtain ⟨a, c⟩ := cnt_take (i := i) I w2 hw
    omega
  | rest hw hf => exact h
theorem none_two (I : Inv L b tr S) (h0 : S.at 0 = none) (h1 : S.at 1 = none) : ∀ w, S.at w = none := fun w => by
  match w with
  | 0 => exact h0
  | 1 => exact h1
  | w + 2 =>
    show S.hs.getD (w + 2) none = none
    rw [List.getD_eq_getElem?_getD, List.getElem?_eq_none (by rw [I.h2]; omega)]; rfl
theorem good_pairs : ∀ (k : Nat) (S : Sw), Inv L b tr S → 2 * unk S ≤ hld S + k → Good L b tr (pairs k) S
  | 0, S, I, h => no_unk (few_unk I h)
  | k + 1, S, I, h => by
    refine ⟨by decide, fun S1 I1 st1 => ⟨by decide, fun S2 I2 st2 => ?_⟩⟩
    cases st1 with
    | give h1 j v hw =>
      obtain ⟨a, c⟩ := cnt_give (j := j) (v := v) I hw
      exact good_pairs k S2 I2 (step_le I1 (by decide) st2 (by omega))
    | take i is hw hf =>
      obtain ⟨a, c⟩ := cnt_take (i := i) I (by decide) hw
      exact good_pairs k S2 I2 (step_le I1 (by decide) st2 (by omega))
    | rest hw hf =>
      cases st2 with
      | give h1 j v hw =>
        obtain ⟨a, c⟩ := cnt_give (j := j) (v := v) I hw
        exact good_pairs k _ I2 (by omega)
      | take i is hw hf' => rw [hf] at hf'; cases hf'
      | rest hw' hf' =>
        have q := none_two I hw' hw
        exact good_quiet _ _ (pairs_lt k) I ⟨q, by rw [← free_nil I q]; exact hf⟩
theorem good_bits : ∀ (bs : List Nat) (S : Sw), (∀ w ∈ bs, w < 2) → Inv L b tr S → 2 * unk S ≤ hld S + 5 → Good L b tr (bs ++ pairs 5) S
  | [], S, _, I, h => good_pairs 5 S I h
  | w :: bs, S, hb, I, h => by
    have w2 := hb w List.mem_cons_self
    exact ⟨w2, fun S1 I1 st => good_bits bs S1 (fun v m => hb v (List.mem_cons_of_mem _ m)) I1 (step_le I w2 st h)⟩
theorem good_all {bs : List Nat} (hb : ∀ w ∈ bs, w < 2) (I : Inv L b tr S) (h0 : ∀ w, S.at w = none) (hl : S.kn.length ≤ 3) : Good L b tr (0 :: (bs ++ pairs 5)) S := by
  refine ⟨by decide, fun S1 I1 st => ?_⟩
  have hu : unk S ≤ 3 := Nat.le_trans List.countP_le_length hl
  cases st with
  | give h j v hw => rw [h0] at hw; cases hw
  | take i is hw hf =>
    obtain ⟨a, c⟩ := cnt_take (i := i) I (by decide) hw
    exact good_bits bs _ hb I1 (by omega)
  | rest hw hf =>
    refine good_quiet _ _ (fun w hw => ?_) I1 ⟨h0, by rw [← free_nil I h0]; exact hf⟩
    rcases List.mem_append.mp hw with h | h
    · exact hb w h
    · exact pairs_lt 5 w h
theorem inv_start (hm : tr.length = 2 ∨ tr.length = 3) : Inv L b tr ⟨List.replicate tr.length none, [none, none], []⟩ := by
  have h0 : ∀ w, (⟨List.replicate tr.length none, [none, none], []⟩ : Sw).at w = none := fun w => by
    match w with
    | 0 => rfl
    | 1 => rfl
    | w + 2 => rfl
  refine { ok := kn_nil L hm, len := by show _ = (List.replicate tr.length none).length; rw [List.length_replicate], h2 := rfl, hj := fun w h e => ?_, jh := fun q j e => ?_, hi := fun w h e => ?_, ap := fun w v h g e => ?_, wo := ?_ }
  · rw [h0] at e; cases e
  · simp at e
  · rw [h0] at e; cases e
  · rw [h0] at e; cases e
  · have e : fillK (List.replicate tr.length none) tr = tr := by
      apply List.ext_getElem?
      intro i
      unfold fillK
      rw [List.length_replicate]
      by_cases hi : i < tr.length
      · rw [List.getElem?_map, List.getElem?_range hi, List.getElem?_eq_getElem hi]
        simp [List.getD, hi]
      · rw [List.getElem?_eq_none (by rw [len_mr]; omega), List.getElem?_eq_none (by omega)]
    show fold L b (fillK (List.replicate tr.length none) tr) = _
    rw [e]
end
end Cw

set_option Elab.async false
set_option linter.all false
set_option maxRecDepth 100000
set_option maxHeartbeats 0
namespace Cw
open PySem hiding Env
open L2 hiding St
open DL
/-- one step -/
local macro_rules | `(tactic| walk_at "sx") => `(tactic| first | (with_reducible refine i_varH ?_; refine ⟨_, rfl, ?_⟩) | (with_reducible first | refine i_seq ?_ | refine i_asg ?_ | refine i_name ?_ | refine i_bin ?_ | refine i_c ?_ | refine i_fld ?_ | refine i_cons ?_ | refine i_nil ?_ | refine i_if ?_ | refine i_tst ?_ | refine i_ret ?_ | refine i_call ?_ | refine i_meth ?_ | refine i_andT ?_ | refine i_orT ?_ | refine i_notT ?_ | refine i_chain ?_ | refine i_is ?_ | refine i_tup ?_ | refine i_lst ?_ | refine i_cb ?_ | refine i_for ?_ | refine i_next ?_ | refine i_drop ?_ | refine i_andV ?_ | refine i_orV ?_ | refine i_notV ?_ | refine i_ifE ?_ | refine i_lstO ?_ | refine i_setF ?_ | refine i_sub ?_ | refine i_app ?_ | refine i_gtup ?_ | refine i_gcons ?_ | refine i_gnil ?_ | refine i_ilst ?_ | refine i_itup ?_ | refine i_irg ?_ | refine i_irgO ?_ | refine i_irev ?_ | refine i_ienT ?_ | refine i_ienL ?_ | refine i_lRg ?_ | refine i_lc ?_ | refine i_lcO ?_ | refine i_yes ?_ | refine i_retN ?_ | refine i_prop ?_ | refine i_makeO ?_ | refine i_make ?_ | refine i_star ?_) | (with_reducible first | refine q_tst ?_ | refine q_ifT ?_ | refine q_ifF ?_ | refine q_nT ?_ | refine q_nF ?_ | refine q_obj ?_ | refine p_add ?_ | refine p_sub ?_ | refine p_lt ?_ | refine p_le ?_ | refine p_gt ?_ | refine p_leB ?_ | refine p_eqI ?_ | refine p_eqS ?_ | refine p_neI ?_ | refine p_isNy ?_ | refine p_notNy ?_ | refine p_isB ?_ | refine p_notB ?_ | refine p_lenT ?_ | refine p_lenL ?_ | refine p_int ?_ | refine p_tupL ?_ | refine p_lstL ?_ | refine p_lstT ?_) | refine ⟨_, _, .inl rfl, rfl, ?_⟩ | refine p_mul (.inr (by decide)) ?_ | refine p_div ⟨by decide, by decide⟩ ?_ | refine p_mod (by decide) ?_ | (with_reducible refine p_abs ?_) | (with_reducible refine p_max ?_) | (with_reducible refine p_min ?_) | refine q_len rfl ?_ | refine ⟨_, .inl rfl, ?_⟩ | refine ⟨_, rfl, ?_⟩ | refine p_ixL rfl ?_ | refine p_ixT rfl ?_ | refine p_ixO 0 rfl rfl ?_ | refine p_ixO 1 rfl rfl ?_ | refine p_ixO 2 rfl rfl ?_ | refine ⟨_, .inr ⟨_, rfl, rfl⟩, ?_⟩ | refine p_ixO 3 rfl rfl ?_ | refine p_ixO 4 rfl rfl ?_ | refine p_ixO 5 rfl rfl ?_ | refine ⟨_, _, .inr ⟨0, _, rfl, rfl⟩, rfl, ?_⟩ | refine ⟨⟨_, .inr ⟨0, _, rfl, rfl⟩⟩, ?_⟩ | refine ⟨⟨0, _, _, rfl, rfl⟩, ?_⟩ | refine p_lenO 0 rfl ?_ | refine p_tupO 0 rfl ?_ | refine ⟨_, _, .inr ⟨1, _, rfl, rfl⟩, rfl, ?_⟩ | refine ⟨⟨_, .inr ⟨1, _, rfl, rfl⟩⟩, ?_⟩ | refine ⟨⟨1, _, _, rfl, rfl⟩, ?_⟩ | refine p_lenO 1 rfl ?_ | refine p_tupO 1 rfl ?_ | refine ⟨_, _, .inr ⟨2, _, rfl, rfl⟩, rfl, ?_⟩ | refine ⟨⟨_, .inr ⟨2, _, rfl, rfl⟩⟩, ?_⟩ | refine ⟨⟨2, _, _, rfl, rfl⟩, ?_⟩ | refine p_lenO 2 rfl ?_ | refine p_tupO 2 rfl ?_ | refine ⟨_, _, .inr ⟨3, _, rfl, rfl⟩, rfl, ?_⟩ | refine ⟨⟨_, .inr ⟨3, _, rfl, rfl⟩⟩, ?_⟩ | refine ⟨⟨3, _, _, rfl, rfl⟩, ?_⟩ | refine p_lenO 3 rfl ?_ | refine p_tupO 3 rfl ?_ | refine ⟨_, _, .inr ⟨4, _, rfl, rfl⟩, rfl, ?_⟩ | refine ⟨⟨_, .inr ⟨4, _, rfl, rfl⟩⟩, ?_⟩ | refine ⟨⟨4, _, _, rfl, rfl⟩, ?_⟩ | refine p_lenO 4 rfl ?_ | refine p_tupO 4 rfl ?_ | refine ⟨_, _, .inr ⟨5, _, rfl, rfl⟩, rfl, ?_⟩ | refine ⟨⟨_, .inr ⟨5, _, rfl, rfl⟩⟩, ?_⟩ | refine ⟨⟨5, _, _, rfl, rfl⟩, ?_⟩ | refine p_lenO 5 rfl ?_ | refine p_tupO 5 rfl ?_)
local macro_rules | `(tactic| walk_at "sy") => `(tactic| first | walk_at "sx" | refine p_ixT (at_rowsT (by assumption)) ?_ | refine p_ixT (at_range (by assumption)) ?_ | refine p_ixL (at_rowsL (by assumption)) ?_ | refine p_ixL (at_range (by assumption)) ?_ | refine ⟨_, rfl, rfl, ?_⟩ | refine ⟨rfl, ?_⟩ | refine ⟨0, _, _, _, rfl, rfl, .inl ⟨rfl, rfl⟩, ?_⟩ | refine ⟨0, _, _, _, rfl, rfl, .inr ⟨lt_ok rfl, rfl⟩, ?_⟩ | refine ⟨1, _, _, _, rfl, rfl, .inl ⟨rfl, rfl⟩, ?_⟩ | refine ⟨1, _, _, _, rfl, rfl, .inr ⟨lt_ok rfl, rfl⟩, ?_⟩ | refine ⟨2, _, _, _, rfl, rfl, .inl ⟨rfl, rfl⟩, ?_⟩ | refine ⟨2, _, _, _, rfl, rfl, .inr ⟨lt_ok rfl, rfl⟩, ?_⟩ | refine ⟨3, _, _, _, rfl, rfl, .inl ⟨rfl, rfl⟩, ?_⟩ | refine ⟨3, _, _, _, rfl, rfl, .inr ⟨lt_ok rfl, rfl⟩, ?_⟩)
local macro_rules | `(tactic| walk_at "sw") => `(tactic| first | walk_at "sy" | refine i_forc ?_ | refine i_forn ?_ | refine i_lcc ?_ | refine i_lcn ?_ | refine ⟨0, _, _, _, rfl, rfl, rfl, lt_ok rfl, ?_⟩ | refine ⟨1, _, _, _, rfl, rfl, rfl, lt_ok rfl, ?_⟩ | refine ⟨2, _, _, _, rfl, rfl, rfl, lt_ok rfl, ?_⟩ | refine ⟨3, _, _, _, rfl, rfl, rfl, lt_ok rfl, ?_⟩)

/-! ### the weaving, walked -/
def hdD (L : Lat) (b : Bool) : Option Hd → D
  | none => .non
  | some h => .lst [nD h.num, rdD h.i, cxD (ctxP L b h.s).1 (ctxP L b h.s).2]
def hdI : Option Hd → Nat
  | none => 0
  | some h => h.i
theorem lcC_gen {α : Type} {C : Sto → Prop} {j : Nat} {wt : WT} {we : WE} {e : Env} {st : Sto} {Ψ : List D → Sto → Prop} (hC : C st) (l : List α) (inj : α → D) (g : α → Bool) (f : α → D) (ht : ∀ a ∈ l, ∀ Θ : Bool → Sto → Prop, Θ (g a) st → wt (e.set j (some (inj a))) st Θ)
    (he : ∀ a ∈ l, g a = true → ∀ Φ : D → Sto → Prop, Φ (f a) st → we (e.set j (some (inj a))) st Φ) : ∀ (acc : List D), Ψ (acc ++ (l.filter g).map f) st → lcgoC C j wt we e Ψ (l.map inj) acc st := by
  induction l with
  | nil =>
    intro acc h
    show Ψ acc st
    simpa using h
  | cons a l ih =>
    intro acc h
    refine ht a List.mem_cons_self _ ?_
    have ih' := ih (fun b m => ht b (List.mem_cons_of_mem _ m)) (fun b m => he b (List.mem_cons_of_mem _ m))
    cases hg : g a with
    | true =>
      rw [if_pos rfl]
      refine he a List.mem_cons_self hg _ ⟨hC, ih' _ ?_⟩
      rw [List.filter_cons_of_pos hg, List.map_cons] at h
      simpa using h
    | false =>
      rw [if_neg (by decide)]
      refine ⟨hC, ih' _ ?_⟩
      rwa [List.filter_cons_of_neg (by rw [hg]; decide)] at h
theorem free_eq {L : Lat} {b : Bool} {tr : List Nat} {S : Sw} (I : Inv L b tr S) : (hangL L b S.kn).filter (fun i => !((S.hs.filter (·.isSome)).map hdI).contains i) = freeI L b S.kn S.jobs := by
  unfold freeI
  refine List.filter_congr fun i _ => ?_
  congr 1
  rw [Bool.eq_iff_iff, List.contains_iff_mem, List.contains_iff_mem, List.mem_map, List.mem_map]
  constructor
  · rintro ⟨o, ho, rfl⟩
    obtain ⟨h1, h2⟩ := List.mem_filter.mp ho
    cases o with
    | none => cases h2
    | some h =>
      obtain ⟨w, hw⟩ := List.mem_iff_getElem?.mp h1
      have hat : S.at w = some h := by
        show S.hs.getD w none = some h
        rw [List.getD_eq_getElem?_getD, hw]; rfl
      exact ⟨_, List.mem_filter.mpr ⟨List.mem_of_getElem? (I.hj w h hat), rfl⟩, rfl⟩
  · rintro ⟨j, hj, rfl⟩
    obtain ⟨h1, h2⟩ := List.mem_filter.mp hj
    obtain ⟨q, hq⟩ := List.mem_iff_getElem?.mp h1
    obtain ⟨h, g1, _, g3⟩ := I.jh q j hq h2
    refine ⟨some h, List.mem_filter.mpr ⟨?_, rfl⟩, g3⟩
    have g1 : S.hs.getD j.h none = some h := g1
    rw [List.getD_eq_getElem?_getD] at g1
    cases e : S.hs[j.h]? with
    | none => rw [e] at g1; cases g1
    | some o =>
      rw [e] at g1
      have g1 : o = some h := g1
      rw [g1] at e
      exact List.mem_of_getElem? e
abbrev wvS (hp dt : Addr) (hb : OB) (tv : List (List Key × D)) (L : Lat) (pr tF : List D) (b : Bool) (wl : List D) (S : Sw) (asked : List D) (kvs : List (Key × D)) (p a dq ph pk : Addr) (es : List (Nat × Nat)) : Sto :=
  [(hp, hb), (dt, .dt tv), (p, .ins .pool (poF L pr tF b wl S.kn S.jobs a)), (a, .ins .ask (askF L pr b wl asked dq S.kn)), (dq, .dk kvs), (ph, .lst (S.hs.map (hdD L b))), (pk, .dt (ktD es))]
section
variable {hp dt p a dq ph pk : Addr} {hb : OB} {tv : List (List Key × D)} {L : Lat} {pr tF : List D} {b : Bool} {wl asked : List D} {S : Sw} {kvs : List (Key × D)} {es : List (Nat × Nat)} {Φ : D → Sto → Prop} {tr : List Nat}
theorem cw_take (o : L.Ord) (I : Inv L b tr S) (dk : DK kvs S.kn) (hj : S.jobs.length < 100) {w : Nat} (w2 : w < 2) (hw : S.at w = none)
    (k : (freeI L b S.kn S.jobs = [] ∧ Φ .non (wvS hp dt hb tv L pr tF b wl S asked kvs p a dq ph pk es)) ∨ ∃ i is, freeI L b S.kn S.jobs = i :: is ∧
      Φ (.obj .job [nD S.jobs.length, nD w, rdD i, cxD (ctxP L b ((koth L b S.kn).getD i 0)).1 (ctxP L b ((koth L b S.kn).getD i 0)).2]) (wvS hp dt hb tv L pr tF b wl { S with jobs := S.jobs ++ [⟨w, i, (ctxP L b ((koth L b S.kn).getD i 0)).1, (ctxP L b ((koth L b S.kn).getD i 0)).2, true⟩] } asked kvs p a dq ph pk es)) :
    callD S_take_job [.own p, nD w] (wvS hp dt hb tv L pr tF b wl S asked kvs p a dq ph pk es) Φ := by
  refine ⟨[2, 3, 4], [_, _, _], rfl, by decide, L, pr, tF, b, wl, S.kn, S.jobs, asked, kvs, p, a, dq, w, o, I.ok, dk, hj, by omega, fun j hj out e => ?_, rfl, rfl, ?_⟩
  · obtain ⟨q, hq⟩ := List.mem_iff_getElem?.mp hj
    obtain ⟨h, h1, _⟩ := I.jh q j hq out
    rw [e, hw] at h1; cases h1
  · rcases k with ⟨hf, k⟩ | ⟨i, is, hf, k⟩
    · exact .inl ⟨hf, rfl, k⟩
    · refine .inr ⟨i, is, hf, fun lo hi e => ⟨rfl, ?_⟩⟩
      rw [ctxD_P] at e
      have e1 : lo = (ctxP L b ((koth L b S.kn).getD i 0)).1 := by
        injection e with e
        injection e with e1 e2
        injection e1 with e1
        omega
      have e2 : hi = (ctxP L b ((koth L b S.kn).getD i 0)).2 := by
        injection e with e
        injection e with e1 e2
        injection e2 with e2 e3
        injection e2 with e2
        omega
      rw [e1, e2]
      exact k
theorem cw_give (o : L.Ord) (I : Inv L b tr S) (dk : DK kvs S.kn) (hkl : kvs.length < 100) (hal : asked.length < 100) {w v : Nat} {h : Hd} (hw : S.at w = some h) (hv : v < L.n)
    (k : Φ (.bl true) [(hp, hb), (dt, .dt tv), (p, .ins .pool (poF L pr tF b wl (S.kn.set h.i (some v)) (S.jobs.set h.num ⟨w, h.i, (ctxP L b h.s).1, (ctxP L b h.s).2, false⟩) a)), (a, .ins .ask (askF L pr b wl (asked ++ [nD h.i]) dq (S.kn.set h.i (some v)))), (dq, .dk (putD kvs (.inl (h.i : Int)) (nD v))), (ph, .lst (S.hs.map (hdD L b))), (pk, .dt (ktD es))]) :
    callD S_give_job [.own p, nD h.num, nD v] (wvS hp dt hb tv L pr tF b wl S asked kvs p a dq ph pk es) Φ := by
  obtain ⟨hi, hno, _, _⟩ := I.hi w h hw
  exact ⟨[2, 3, 4], [_, _, _], rfl, by decide, L, pr, tF, b, wl, S.kn, S.jobs, asked, kvs, p, a, dq, h.num, ⟨w, h.i, (ctxP L b h.s).1, (ctxP L b h.s).2, true⟩, v, o, I.ok, dk, hkl, hal, I.hj w h hw, rfl, hi, hno, hv, rfl, rfl, rfl, k⟩
theorem cw_hang (o : L.Ord) (I : Inv L b tr S) (d2 : DT2 es S.kn) (k : Φ (.lst ((hangL L b S.kn).map rdD)) (wvS hp dt hb tv L pr tF b wl S asked kvs p a dq ph pk es)) :
    callD S_lhg [plD L, trD (upT b tr.length), .own pk, .lst ((List.range tr.length).map rdD)] (wvS hp dt hb tv L pr tF b wl S asked kvs p a dq ph pk es) Φ :=
  ⟨[6], [_], rfl, by decide, L, b, es, S.kn, pk, o, I.ok, d2, by rw [I.len], rfl, rfl, k⟩
theorem cw_ctx (o : L.Ord) {kn : List (Option Nat)} (ok : KnOk L kn) (hl : tr.length = kn.length) (d2 : DT2 es kn) {i : Nat} (hi : i < kn.length) {q0 q1 q2 q3 q4 q5 : Addr × OB} (k : Φ (cxD (ctxP L b ((koth L b kn).getD i 0)).1 (ctxP L b ((koth L b kn).getD i 0)).2) [q0, q1, q2, q3, q4, q5, (pk, .dt (ktD es))]) :
    callD S_lsp [plD L, trD (upT b tr.length), .own pk, rdD i] [q0, q1, q2, q3, q4, q5, (pk, .dt (ktD es))] Φ := by
  refine ⟨[6], [_], rfl, by decide, L, b, i, es, kn, pk, o, ok, d2, hi, by rw [hl], rfl, rfl, ?_⟩
  rw [ctxD_P]
  exact k
end
theorem kt_val (es : List (Nat × Nat)) (i v : Nat) (h : valD (ktD es) [.inl (i : Int)] = none) : putD (ktD es) [.inl (i : Int)] (nD v) = ktD (es ++ [(i, v)]) := by
  unfold putD
  rw [if_neg]
  · show _ = (es ++ [(i, v)]).map fun p : Nat × Nat => (([.inl (p.1 : Int)] : List Key), nD p.2)
    rw [List.map_append]
    rfl
  · intro z
    obtain ⟨kv, h1, h2⟩ := List.any_eq_true.mp z
    have h3 : (ktD es).find? (fun kv => decide (kv.1 = [.inl (i : Int)])) = none := by
      unfold valD at h
      exact Option.map_eq_none_iff.mp h
    have := List.find?_eq_none.mp h3 kv h1
    exact this h2
theorem d2_put {es : List (Nat × Nat)} {kn : List (Option Nat)} (d2 : DT2 es kn) {i v : Nat} (hi : i < kn.length) (hno : kn.getD i none = none) : putD (ktD es) [.inl (i : Int)] (nD v) = ktD (es ++ [(i, v)]) ∧ DT2 (es ++ [(i, v)]) (kn.set i (some v)) := by
  have e := kt_val es i v (by rw [d2 i hi, hno]; rfl)
  refine ⟨e, fun j hj => ?_⟩
  rw [List.length_set] at hj
  rw [← e, val_put, set_at hi]
  by_cases c : j = i
  · subst c
    rw [if_pos rfl, if_pos rfl]; rfl
  · rw [if_neg c, if_neg fun z => c (by injection z with z _; injection z with z; omega), d2 j hj]
theorem ens_nil (m : Nat) : ens (List.replicate m none) = [] := List.map_eq_nil_iff.mp (knD_nil m)
def S_weave : Spd := fun ds st Φ => ∃ (L : Lat) (pr wl : List D) (b : Bool) (cs : List Tr) (tv : List (List Key × D)) (hp dt : Addr) (hb : OB) (bs : List Nat), L.Ord ∧ (cs.length = 2 ∨ cs.length = 3) ∧ (∀ c ∈ cs, TrOk L.n 2 c) ∧ HandB hb ∧ (∀ i, i < cs.length → valD tv [.inl (i : Int)] = some (nD ((cs.map (val L 2)).getD i 0))) ∧
  (∀ w ∈ bs, w < 2) ∧ bs.length = 5 ∧ ds = [.own hp, plD L, laD L pr, .obj .tre (treF (.nd b cs) wl), trD (upT b cs.length), .own dt, .lst ((0 :: (bs ++ pairs 5)).map nD)] ∧ st = [(hp, hb), (dt, .dt tv)] ∧ ∀ hb', HandB hb' → Φ (.bl true) [(hp, hb'), (dt, .dt tv)]
theorem nums_len : ∀ (cs : List Tr) (k : Nat), (numsF k cs).length = cs.length
  | [], k => by rw [numsF_nil]; rfl
  | c :: cs, k => by rw [numsF_cons, List.length_cons, nums_len cs, List.length_cons]
theorem pl_weave (ds : List D) (st : Sto) (Φ : D → Sto → Prop) (h : S_weave ds st Φ) : ds.length = 7 ∧ W_L_weave S_ends1 S_pool_init S_gro_init S_lhg S_take_job S_lsp S_agreeing S_take S_give_job (S_plain 3) S_is_done S_spot_bounds (endD Φ) (startD N_L_weave ds) st := by
  obtain ⟨L, pr, wl, b, cs, tv, hp, dt, hb, bs, o, hm, hcs, hhb, htv, hbs, hbl, rfl, rfl, k⟩ := h
  obtain ⟨tr, htr⟩ : ∃ tr, tr = cs.map (val L 2) := ⟨_, rfl⟩
  have htl : tr.length = cs.length := by rw [htr, List.length_map]
  have htn : ∀ w ∈ tr, w < L.n := fun w hw => by
    rw [htr] at hw
    obtain ⟨c, hc, rfl⟩ := List.mem_map.mp hw
    exact val_lt o.toOk 2 c (hcs c hc)
  rw [← htr, ← htl] at htv
  have hm' : tr.length = 2 ∨ tr.length = 3 := by rw [htl]; exact hm
  obtain ⟨nums, sh, pa, le, rest, hT, hnl, hsh⟩ : ∃ nums sh pa le rest, treF (.nd b cs) wl = rootF (sgD b) nums sh pa le (.tup wl) rest ∧ nums.length = tr.length ∧ sh = trD (.nd b cs) := by
    refine ⟨numsF 1 cs, trD (.nd b cs), .tup (.non :: parsF 0 (.nd b cs)), .tup (leavF 0 (.nd b cs)), nodesFs 1 cs, ?_, ?_, rfl⟩
    · show [trD (.nd b cs), .tup (nodesF 0 (.nd b cs)), _, _, _] = _
      rw [nodesF_nd]
    · rw [nums_len, htl]
  rw [hT, ← htl]
  obtain ⟨turns, htu⟩ : ∃ t, t = 0 :: (bs ++ pairs 5) := ⟨_, rfl⟩
  rw [← htu]
  refine ⟨rfl, ?_⟩
  show W_L_weave _ _ _ _ _ _ _ _ _ _ _ _ _ [some _, some _, some _, some _, some _, some _, some _, none, none, none, none, none, none, none, none, none, none, none, none, none, none, none] _
  unfold W_L_weave
  repeat walk_at "sw"
  refine c_pur (r := .lst ((List.range tr.length).map rdD)) ⟨b, tr.length, by omega, rfl, rfl⟩ ?_
  repeat walk_at "sw"
  intro pg
  refine ⟨[2], [(pg, .ins .gro [])], rfl, by decide, pg, _, rfl, rfl, rfl, rfl, 2, _, rfl, ?_⟩
  show wCons _ _ _ [(hp, hb), (dt, .dt tv)] _
  repeat walk_at "sw"
  intro pp
  refine ⟨[2], [(pp, .ins .pool [])], rfl, by decide, pp, L, pr, b, nums, sh, pa, le, .tup wl, rest, o, by rw [hnl]; exact hm', rfl, rfl, fun wl2 a dq => ⟨rfl, rfl, ?_⟩⟩
  rw [hnl]
  repeat walk_at "sw"
  intro ph
  repeat walk_at "sw"
  intro pk
  repeat walk_at "sw"
  refine for_ind (fun r e st => ∃ (rs : List Nat) (S : Sw) (asked : List D) (kvs : List (Key × D)) (es : List (Nat × Nat)) (hb' : OB) (x12 x13 x14 x15 x16 x17 x18 x19 x20 x21 : Option D), r = rs.map nD ∧ Inv L b tr S ∧ DK kvs S.kn ∧ DT2 es S.kn ∧ es.Perm (ens S.kn) ∧ HandB hb' ∧
    kvs.length + rs.length ≤ 16 ∧ asked.length + rs.length ≤ 16 ∧ S.jobs.length + rs.length ≤ 16 ∧ Good L b tr rs S ∧
    e = [some (.own hp), some (plD L), some (laD L pr), some (.obj .tre (rootF (sgD b) nums sh pa le (.tup wl) rest)), some (trD (upT b tr.length)), some (.own dt), some (.lst (turns.map nD)), some (.lst ((List.range tr.length).map rdD)), some (.own pp), some (.own ph), some (.own pk), some (nD S.jobs.length), x12, x13, x14, x15, x16, x17, x18, x19, x20, x21] ∧
    st = wvS hp dt hb' tv L pr (rootF (sgD b) nums sh pa le (.tup wl) rest) b wl2 S asked kvs pp a dq ph pk es) ?_ ?_ _ _ _ ?_
  · rintro K x r e st ⟨rs, S, asked, kvs, es, hb', x12, x13, x14, x15, x16, x17, x18, x19, x20, x21, hr, I, dk, d2, hpm, hhb', l1, l2, l3, G, rfl, rfl⟩ hK
    cases rs with
    | nil => cases hr
    | cons w rs =>
      obtain ⟨rfl, rfl⟩ := List.cons.inj hr
      obtain ⟨w2, G⟩ := G
      rw [List.length_cons] at l1 l2 l3
      have wl : w < S.hs.length := by rw [I.h2]; exact w2
      have hget : atI (S.hs.map (hdD L b)) (w : Int) = some (hdD L b (S.at w)) := atI_nat (by
        rw [List.getElem?_map, List.getElem?_eq_getElem wl]
        show _ = some (hdD L b (S.hs.getD w none))
        rw [List.getD_eq_getElem?_getD, List.getElem?_eq_getElem wl]; rfl)
      repeat walk_at "sy"
      refine p_ixO 5 rfl hget ?_
      repeat walk_at "sy"
      cases hw : S.at w with
      | none =>
        show ∃ d, PIsN false .non .non _ d ∧ _
        repeat walk_at "sy"
        refine cw_hang o I d2 ?_
        repeat walk_at "sy"
        refine ⟨5, ph, S.hs.map (hdD L b), rfl, rfl, by rw [List.length_map, I.h2]; omega, lcC_gen (by rfl) S.hs (hdD L b) (·.isSome) (fun x => rdD (hdI x)) (fun x hx Θ hΘ => ?_) (fun x hx hsm Ψ hΨ => ?_) _ ?_⟩
        · cases x with
          | none =>
            repeat walk_at "sy"
            refine p_notNy ?_
            repeat walk_at "sy"
            exact hΘ
          | some h =>
            repeat walk_at "sy"
            refine p_notNn (by intro z; cases z) ?_
            repeat walk_at "sy"
            exact hΘ
        · cases x with
          | none => cases hsm
          | some h =>
            repeat walk_at "sy"
            exact hΨ
        rw [List.nil_append]
        have hhl := hangL_len (b := b) I.ok
        repeat walk_at "sy"
        refine ⟨by rw [List.length_map]; omega, lc_gen (hangL L b S.kn) rdD (fun i => !((S.hs.filter (·.isSome)).map hdI).contains i) rdD (fun i hi Θ hΘ => ?_) (fun i hi _ Ψ hΨ => ?_) _ ?_⟩
        · repeat walk_at "sy"
          refine ⟨.bl (!((S.hs.filter (·.isSome)).map hdI).contains i), .inr ⟨_, .inl rfl, rfl, ?_, ((S.hs.filter (·.isSome)).map hdI).contains i, rfl, ?_⟩, ?_⟩
          · intro d hd
            obtain ⟨j, _, rfl⟩ := List.mem_map.mp hd
            rfl
          · rw [List.contains_iff_mem]
            constructor
            · intro hm
              obtain ⟨j, hj, e⟩ := List.mem_map.mp hm
              exact List.mem_map.mpr ⟨j, hj, by rw [e]⟩
            · intro hm
              obtain ⟨j, hj, e⟩ := List.mem_map.mp hm
              refine List.mem_map.mpr ⟨j, hj, ?_⟩
              simp [rdD, nD] at e
              omega
          refine ⟨_, rfl, ?_⟩
          exact hΘ
        · repeat walk_at "sy"
          exact hΨ
        rw [List.nil_append, free_eq I]
        repeat walk_at "sy"
        refine cw_take o I dk (by omega) w2 hw ?_
        cases hf : freeI L b S.kn S.jobs with
        | nil =>
          refine .inl ⟨rfl, ?_⟩
          repeat walk_at "sy"
          exact hK _ _ ⟨rs, S, asked, kvs, es, hb', _, _, _, _, _, _, _, _, _, _, rfl, I, dk, d2, hpm, hhb', by omega, by omega, by omega, G S I (.rest hw hf), rfl, rfl⟩
        | cons i is =>
          have hi := (free_lt hf).1
          refine .inr ⟨i, is, rfl, ?_⟩
          repeat walk_at "sy"
          refine p_ixL (d := rdD i) at_root ?_
          repeat walk_at "sy"
          refine cw_ctx o I.ok I.len d2 hi ?_
          repeat walk_at "sy"
          refine p_isNn (by intro z; cases z) ?_
          repeat walk_at "sy"
          refine p_ixL (d := rdD i) at_root ?_
          repeat walk_at "sy"
          refine ⟨.bl false, .inr ⟨rfl, rfl, false, rfl, ⟨fun z => Bool.noConfusion z, fun z => absurd rfl z⟩⟩, ?_⟩
          repeat walk_at "sy"
          refine p_ixL (d := rdD i) at_root ?_
          repeat walk_at "sy"
          refine ⟨5, ph, _, w, rfl, rfl, rfl, by rw [List.length_map]; exact wl, ?_⟩
          repeat walk_at "sy"
          have e1 : D.int ((S.jobs.length : Int) + 1) = nD (S.took L b w i).jobs.length := by
            show D.int _ = D.int (((S.jobs ++ [_]).length : Nat) : Int)
            rw [List.length_append]; rfl
          rw [e1]
          have I' := inv_take o I w2 hw hf
          refine hK _ _ ⟨rs, S.took L b w i, asked, kvs, es, hb', _, _, _, _, _, _, _, _, _, _, rfl, I', dk, d2, hpm, hhb', by omega, by omega, ?_, G _ I' (.take i is hw hf), rfl, ?_⟩
          · show (S.jobs ++ [_]).length + _ ≤ _
            rw [List.length_append]
            show S.jobs.length + 1 + rs.length ≤ 16
            omega
          · have e2 : (S.hs.map (hdD L b)).set w (.lst [nD S.jobs.length, rdD i, cxD (ctxP L b ((koth L b S.kn).getD i 0)).1 (ctxP L b ((koth L b S.kn).getD i 0)).2]) = (S.took L b w i).hs.map (hdD L b) := by
              show _ = (S.hs.set w _).map (hdD L b)
              rw [List.map_set]; rfl
            show [(hp, hb'), (dt, .dt tv), (pp, _), (a, _), (dq, .dk kvs), (ph, .lst ((S.hs.map (hdD L b)).set w _)), (pk, .dt (ktD es))] = _
            rw [e2]
            rfl
      | some h =>
        obtain ⟨hi, hno, hsn, hle⟩ := I.hi w h hw
        obtain ⟨hc1, hc2⟩ := ctxP_lt o.toOk (b := b) hsn
        have hti : h.i < tr.length := by rw [I.len]; exact hi
        have htn2 : tr.getD h.i 0 < L.n := htn _ (getD_mem hti)
        have hon := o.few
        refine p_isNn (by intro z; cases z) ?_
        rw [hw] at hget
        repeat walk_at "sy"
        refine p_ixO 5 rfl hget ?_
        refine i_gunl ⟨_, .inl rfl, rfl, ?_⟩
        repeat walk_at "sy"
        refine ⟨nD (tr.getD h.i 0), ⟨1, dt, rfl, .inr ⟨tv, [.inl (h.i : Int)], rfl, rfl, (htv h.i hti).symm⟩⟩, ?_⟩
        repeat walk_at "sy"
        obtain ⟨ch, hch⟩ : ∃ ch, ch = (List.range L.n).filter fun v => decide (valC L (ctxP L b h.s).1 (ctxP L b h.s).2 v = valC L (ctxP L b h.s).1 (ctxP L b h.s).2 (tr.getD h.i 0)) := ⟨_, rfl⟩
        have chm : ∀ v, v ∈ ch ↔ v < L.n ∧ valC L (ctxP L b h.s).1 (ctxP L b h.s).2 v = valC L (ctxP L b h.s).1 (ctxP L b h.s).2 (tr.getD h.i 0) := fun v => by
          rw [hch, List.mem_filter, List.mem_range, decide_eq_true_iff]
        have chl : ch.length ≤ 16 := by
          rw [hch]
          refine Nat.le_trans (List.length_filter_le _ _) ?_
          rw [List.length_range]; exact hon
        have chp : 0 < ch.length := List.length_pos_of_mem ((chm _).mpr ⟨htn2, rfl⟩)
        refine c_pur (r := .lst (ch.map nD)) ⟨L, _, _, _, o.toOk, hc1, hc2, htn2, rfl, by rw [hch]⟩ ?_
        repeat walk_at "sy"
        rw [List.length_map]
        refine c_take (many := ch.length) 0 rfl chp (by omega) hhb' fun q hb2 hq hhb2 => ?_
        refine p_ixL (d := nD ch[q]) (atI_nat (by rw [List.getElem?_map, List.getElem?_eq_getElem hq]; rfl)) ?_
        obtain ⟨hv, hvv⟩ := (chm ch[q]).mp (List.getElem_mem hq)
        generalize ch[q] = v at hv hvv ⊢
        rw [val_ctx o hsn hv, val_ctx o hsn htn2] at hvv
        repeat walk_at "sy"
        refine cw_give o I dk (by omega) (by omega) hw hv ?_
        repeat walk_at "sy"
        have hel : es.length ≤ 3 := by
          rw [hpm.length_eq]
          have := List.length_filterMap_le (fun i => (S.kn.getD i none).map fun w => (i, w)) (List.range S.kn.length)
          rw [List.length_range] at this
          have := I.ok.1
          unfold ens
          omega
        obtain ⟨e1, d2'⟩ := d2_put (v := v) d2 hi hno
        refine ⟨_, ⟨6, pk, rfl, .inr ⟨ktD es, [.inl (h.i : Int)], rfl, rfl, by rw [List.length_map]; omega, rfl⟩⟩, ?_⟩
        rw [e1]
        repeat walk_at "sy"
        refine ⟨5, ph, _, w, rfl, rfl, rfl, by rw [List.length_map]; exact wl, ?_⟩
        have I' := inv_give o htn I hw (I.hj w h hw) hv hvv
        have e3 : (S.given w h ⟨w, h.i, (ctxP L b h.s).1, (ctxP L b h.s).2, true⟩ v).jobs.length = S.jobs.length := List.length_set
        have e4 : (S.hs.map (hdD L b)).set w .non = (S.given w h ⟨w, h.i, (ctxP L b h.s).1, (ctxP L b h.s).2, true⟩ v).hs.map (hdD L b) := by
          show _ = (S.hs.set w none).map (hdD L b)
          rw [List.map_set]; rfl
        show K _ [(hp, hb2), (dt, .dt tv), (pp, _), (a, _), (dq, _), (ph, .lst ((S.hs.map (hdD L b)).set w .non)), (pk, .dt (ktD (es ++ [(h.i, v)])))]
        rw [e4, ← e3]
        refine hK _ _ ⟨rs, S.given w h ⟨w, h.i, (ctxP L b h.s).1, (ctxP L b h.s).2, true⟩ v, asked ++ [nD h.i], putD kvs (.inl (h.i : Int)) (nD v), es ++ [(h.i, v)], hb2, _, _, _, _, _, _, _, _, _, _, rfl, I', dk_put dk (by omega) hi, d2', (hpm.append_right _).trans (ens_put hi hno), hhb2, ?_, ?_, by rw [e3]; omega, G _ I' (.give h _ v hw), rfl, rfl⟩
        · have := put_len kvs (.inl (h.i : Int)) (nD v)
          omega
        · rw [List.length_append]; show asked.length + 1 + rs.length ≤ 16; omega
  · rintro e st ⟨rs, S, asked, kvs, es, hb', x12, x13, x14, x15, x16, x17, x18, x19, x20, x21, hr, I, dk, d2, hpm, hhb', l1, l2, l3, G, rfl, rfl⟩
    cases rs with
    | cons w rs => cases hr
    | nil =>
      have G : hangL L b S.kn = [] := G
      have f1 : fold L b (klo L S.kn) = fold L b tr := (fold_done o I.ok G (fil_map L.bt) fil_fill (kget_lt I.ok o.btl) (fill_lt I.ok I.len htn)).trans I.wo
      have f2 : fold L b (khi L S.kn) = fold L b tr := (fold_done o I.ok G (fil_map L.tp) fil_fill (kget_lt I.ok o.tpl) (fill_lt I.ok I.len htn)).trans I.wo
      repeat walk_at "sy"
      refine c_pur (r := nD (fold L b tr)) ⟨L, .nd b cs, o.toOk, ⟨by omega, by omega, hcs⟩, by rw [hsh], by rw [htr]; rfl⟩ ?_
      repeat walk_at "sy"
      refine ⟨[2, 3, 4], [_, _, _], rfl, by decide, L, pr, _, b, wl2, S.kn, S.jobs, asked, kvs, pp, a, dq, o, I.ok, dk, rfl, rfl, rfl, ?_⟩
      rw [G]
      repeat walk_at "sy"
      refine ⟨[2, 3, 4], [_, _, _], rfl, by decide, L, pr, _, b, wl2, S.kn, S.jobs, asked, kvs, pp, a, dq, I.ok, rfl, rfl, ?_⟩
      rw [f1, f2]
      repeat walk_at "sy"
      refine ⟨.bl true, .inr ⟨rfl, rfl, true, rfl, ⟨fun _ => rfl, fun _ => rfl⟩⟩, ?_⟩
      repeat walk_at "sy"
      refine ⟨6, pk, ktD es, rfl, rfl, ?_⟩
      have em : ((ktD es).map fun kv => D.tup [.tup (kv.1.map kD), kv.2]) = es.map entD := by
        rw [List.map_map]; rfl
      rw [em]
      repeat walk_at "sy"
      refine ⟨_, ⟨_, _, rfl, .inl rfl, sort_ok _, rfl⟩, ?_⟩
      rw [sort_ens hpm]
      repeat walk_at "sy"
      have okk : okI 8 (.tup ((ens S.kn).map entD)) = true := List.all_eq_true.mpr fun d hd => by
        obtain ⟨x, _, rfl⟩ := List.mem_map.mp hd
        rfl
      refine ⟨.bl true, .inr ⟨okk, okk, true, rfl, ⟨fun _ => rfl, fun _ => rfl⟩⟩, ?_⟩
      exact .keep [0, 1] _ (by decide) rfl (k hb' hhb')
  · have h0 : ∀ w, (⟨List.replicate tr.length none, [none, none], []⟩ : Sw).at w = none := fun w => by
      match w with
      | 0 => rfl
      | 1 => rfl
      | w + 2 => rfl
    have ht16 : turns.length = 16 := by rw [htu, List.length_cons, List.length_append, hbl]; rfl
    refine ⟨turns, ⟨List.replicate tr.length none, [none, none], []⟩, [], [], [], hb, none, none, none, none, none, none, none, none, none, none, rfl, inv_start hm', dk_nil _, ?_, ?_, hhb, ?_, ?_, ?_, ?_, rfl, rfl⟩
    · intro i hi
      show none = _
      have hi : i < (List.replicate tr.length (none : Option Nat)).length := hi
      rw [List.length_replicate] at hi
      have : (List.replicate tr.length (none : Option Nat)).getD i none = none := by simp [List.getD, hi]
      rw [this]; rfl
    · show [].Perm (ens (List.replicate tr.length none))
      rw [ens_nil]
    · show 0 + turns.length ≤ 16; omega
    · show 0 + turns.length ≤ 16; omega
    · show 0 + turns.length ≤ 16; omega
    · rw [htu]
      exact good_all hbs (inv_start hm') h0 (by show (List.replicate tr.length none).length ≤ 3; rw [List.length_replicate]; omega)
end Cw

set_option Elab.async false
set_option linter.all false
set_option maxRecDepth 100000
set_option maxHeartbeats 0
namespace Cw
open PySem hiding Env
open L2 hiding St
open DL
/-- one step -/
local macro_rules | `(tactic| walk_at "sx") => `(tactic| first | (with_reducible refine i_varH ?_; refine ⟨_, rfl, ?_⟩) | (with_reducible first | refine i_seq ?_ | refine i_asg ?_ | refine i_name ?_ | refine i_bin ?_ | refine i_c ?_ | refine i_fld ?_ | refine i_cons ?_ | refine i_nil ?_ | refine i_if ?_ | refine i_tst ?_ | refine i_ret ?_ | refine i_call ?_ | refine i_meth ?_ | refine i_andT ?_ | refine i_orT ?_ | refine i_notT ?_ | refine i_chain ?_ | refine i_is ?_ | refine i_tup ?_ | refine i_lst ?_ | refine i_cb ?_ | refine i_for ?_ | refine i_next ?_ | refine i_drop ?_ | refine i_andV ?_ | refine i_orV ?_ | refine i_notV ?_ | refine i_ifE ?_ | refine i_lstO ?_ | refine i_setF ?_ | refine i_sub ?_ | refine i_app ?_ | refine i_gtup ?_ | refine i_gcons ?_ | refine i_gnil ?_ | refine i_ilst ?_ | refine i_itup ?_ | refine i_irg ?_ | refine i_irgO ?_ | refine i_irev ?_ | refine i_ienT ?_ | refine i_ienL ?_ | refine i_lRg ?_ | refine i_lc ?_ | refine i_lcO ?_ | refine i_yes ?_ | refine i_retN ?_ | refine i_prop ?_ | refine i_makeO ?_ | refine i_make ?_ | refine i_star ?_) | (with_reducible first | refine q_tst ?_ | refine q_ifT ?_ | refine q_ifF ?_ | refine q_nT ?_ | refine q_nF ?_ | refine q_obj ?_ | refine p_add ?_ | refine p_sub ?_ | refine p_lt ?_ | refine p_le ?_ | refine p_gt ?_ | refine p_leB ?_ | refine p_eqI ?_ | refine p_eqS ?_ | refine p_neI ?_ | refine p_isNy ?_ | refine p_notNy ?_ | refine p_isB ?_ | refine p_notB ?_ | refine p_lenT ?_ | refine p_lenL ?_ | refine p_int ?_ | refine p_tupL ?_ | refine p_lstL ?_ | refine p_lstT ?_) | refine ⟨_, _, .inl rfl, rfl, ?_⟩ | refine p_mul (.inr (by decide)) ?_ | refine p_div ⟨by decide, by decide⟩ ?_ | refine p_mod (by decide) ?_ | (with_reducible refine p_abs ?_) | (with_reducible refine p_max ?_) | (with_reducible refine p_min ?_) | refine q_len rfl ?_ | refine ⟨_, .inl rfl, ?_⟩ | refine ⟨_, rfl, ?_⟩ | refine p_ixL rfl ?_ | refine p_ixT rfl ?_ | refine p_ixO 0 rfl rfl ?_ | refine p_ixO 1 rfl rfl ?_ | refine p_ixO 2 rfl rfl ?_ | refine ⟨_, .inr ⟨_, rfl, rfl⟩, ?_⟩ | refine p_ixO 3 rfl rfl ?_ | refine p_ixO 4 rfl rfl ?_ | refine p_ixO 5 rfl rfl ?_ | refine ⟨_, _, .inr ⟨0, _, rfl, rfl⟩, rfl, ?_⟩ | refine ⟨⟨_, .inr ⟨0, _, rfl, rfl⟩⟩, ?_⟩ | refine ⟨⟨0, _, _, rfl, rfl⟩, ?_⟩ | refine p_lenO 0 rfl ?_ | refine p_tupO 0 rfl ?_ | refine ⟨_, _, .inr ⟨1, _, rfl, rfl⟩, rfl, ?_⟩ | refine ⟨⟨_, .inr ⟨1, _, rfl, rfl⟩⟩, ?_⟩ | refine ⟨⟨1, _, _, rfl, rfl⟩, ?_⟩ | refine p_lenO 1 rfl ?_ | refine p_tupO 1 rfl ?_ | refine ⟨_, _, .inr ⟨2, _, rfl, rfl⟩, rfl, ?_⟩ | refine ⟨⟨_, .inr ⟨2, _, rfl, rfl⟩⟩, ?_⟩ | refine ⟨⟨2, _, _, rfl, rfl⟩, ?_⟩ | refine p_lenO 2 rfl ?_ | refine p_tupO 2 rfl ?_ | refine ⟨_, _, .inr ⟨3, _, rfl, rfl⟩, rfl, ?_⟩ | refine ⟨⟨_, .inr ⟨3, _, rfl, rfl⟩⟩, ?_⟩ | refine ⟨⟨3, _, _, rfl, rfl⟩, ?_⟩ | refine p_lenO 3 rfl ?_ | refine p_tupO 3 rfl ?_ | refine ⟨_, _, .inr ⟨4, _, rfl, rfl⟩, rfl, ?_⟩ | refine ⟨⟨_, .inr ⟨4, _, rfl, rfl⟩⟩, ?_⟩ | refine ⟨⟨4, _, _, rfl, rfl⟩, ?_⟩ | refine p_lenO 4 rfl ?_ | refine p_tupO 4 rfl ?_ | refine ⟨_, _, .inr ⟨5, _, rfl, rfl⟩, rfl, ?_⟩ | refine ⟨⟨_, .inr ⟨5, _, rfl, rfl⟩⟩, ?_⟩ | refine ⟨⟨5, _, _, rfl, rfl⟩, ?_⟩ | refine p_lenO 5 rfl ?_ | refine p_tupO 5 rfl ?_)
local macro_rules | `(tactic| walk_at "sy") => `(tactic| first | walk_at "sx" | refine p_ixT (at_rowsT (by assumption)) ?_ | refine p_ixT (at_range (by assumption)) ?_ | refine p_ixL (at_rowsL (by assumption)) ?_ | refine p_ixL (at_range (by assumption)) ?_ | refine ⟨_, rfl, rfl, ?_⟩ | refine ⟨rfl, ?_⟩ | refine ⟨0, _, _, _, rfl, rfl, .inl ⟨rfl, rfl⟩, ?_⟩ | refine ⟨0, _, _, _, rfl, rfl, .inr ⟨lt_ok rfl, rfl⟩, ?_⟩ | refine ⟨1, _, _, _, rfl, rfl, .inl ⟨rfl, rfl⟩, ?_⟩ | refine ⟨1, _, _, _, rfl, rfl, .inr ⟨lt_ok rfl, rfl⟩, ?_⟩ | refine ⟨2, _, _, _, rfl, rfl, .inl ⟨rfl, rfl⟩, ?_⟩ | refine ⟨2, _, _, _, rfl, rfl, .inr ⟨lt_ok rfl, rfl⟩, ?_⟩ | refine ⟨3, _, _, _, rfl, rfl, .inl ⟨rfl, rfl⟩, ?_⟩ | refine ⟨3, _, _, _, rfl, rfl, .inr ⟨lt_ok rfl, rfl⟩, ?_⟩)
local macro_rules | `(tactic| walk_at "sw") => `(tactic| first | walk_at "sy" | refine i_forc ?_ | refine i_forn ?_ | refine i_lcc ?_ | refine i_lcn ?_ | refine ⟨0, _, _, _, rfl, rfl, rfl, lt_ok rfl, ?_⟩ | refine ⟨1, _, _, _, rfl, rfl, rfl, lt_ok rfl, ?_⟩ | refine ⟨2, _, _, _, rfl, rfl, rfl, lt_ok rfl, ?_⟩ | refine ⟨3, _, _, _, rfl, rfl, rfl, lt_ok rfl, ?_⟩)

/-! ### the law -/
theorem TrOk.mono {n m : Nat} (h : n ≤ m) : ∀ (d : Nat) (t : Tr), TrOk n d t → TrOk m d t
  | d, .lf w, k => by
    have k := k.lt
    cases d <;> exact Nat.lt_of_lt_of_le k h
  | 0, .nd _ _, k => k.elim
  | d + 1, .nd _ cs, k => ⟨k.1, k.2.1, fun c hc => TrOk.mono h d c (k.2.2 c hc)⟩
def S_law : Spd := fun ds st Φ => ∃ ns : List Int, ds = [.scr ns] ∧ ns.length ≤ 1000 ∧ st = [] ∧ Φ (.bl true) []
theorem pl_law (ds : List D) (st : Sto) (Φ : D → Sto → Prop) (h : S_law ds st Φ) : ds.length = 1 ∧ W_law S_lhand S_dist S_made S_take S_dtree (S_tree_init 3) (S_plain 2) S_upper1 S_weave (endD Φ) (startD N_law ds) st := by
  obtain ⟨ns, rfl, hn, rfl, k⟩ := h
  refine ⟨rfl, ?_⟩
  show W_law _ _ _ _ _ _ _ _ _ _ [some _, none, none, none, none, none, none, none, none, none, none, none, none] _
  unfold W_law
  repeat walk_at "sy"
  refine ⟨[], [], rfl, List.nodup_nil, ns, rfl, hn, rfl, fun p b hb => ⟨rfl, ?_⟩⟩
  repeat walk_at "sy"
  refine ⟨[0], [(p, b)], rfl, by decide, p, b, hb, rfl, rfl, fun L b1 o hb1 => ⟨rfl, ?_⟩⟩
  repeat walk_at "sy"
  refine ⟨[], [], rfl, List.nodup_nil, L, o, rfl, rfl, fun pr => ⟨rfl, ?_⟩⟩
  repeat walk_at "sy"
  refine c_take (p := p) (b := b1) (many := 2) 0 rfl (by decide) (by decide) hb1 fun j b2 hj hb2 => ?_
  repeat walk_at "sy"
  have e1 : (2 : Int) + (j : Int) = ((2 + j : Nat) : Int) := by omega
  rw [e1]
  generalize hmm : 2 + j = m
  have hm : m = 2 ∨ m = 3 := by omega
  have h16 := o.few
  have h0 := o.pos
  refine ⟨by omega, by omega, ?_⟩
  rw [intsD_nat]
  refine ⟨by rw [len_mr]; omega, lc_ind (fun r acc st => ∃ (cs : List Tr) (b3 : OB), r.length + cs.length = m ∧ acc = cs.map trD ∧ (∀ c ∈ cs, TrOk L.n 2 c) ∧ HandB b3 ∧ st = [(p, b3)]) ?_ ?_ _ _ _ ⟨[], b2, by rw [len_mr]; rfl, rfl, by simp, hb2, rfl⟩⟩
  · rintro K d r acc st ⟨cs, b3, hr, rfl, hcs, hb3, rfl⟩ hK
    repeat walk_at "sy"
    refine ⟨[0], [(p, b3)], rfl, by decide, p, b3, L.n, hb3, h0, h16, rfl, rfl, fun t b4 ht hb4 => ⟨rfl, ?_⟩⟩
    refine hK _ _ ⟨cs ++ [t], b4, ?_, ?_, ?_, hb4, rfl⟩
    · rw [List.length_append]; simp at hr ⊢; omega
    · rw [List.map_append]; rfl
    · intro c hc
      rcases List.mem_append.mp hc with h | h
      · exact hcs c h
      · rw [List.mem_singleton.mp h]; exact ht
  rintro acc st ⟨cs, b3, hr, rfl, hcs, hb3, rfl⟩
  have hcl : cs.length = m := by simpa using hr
  rw [← hcl] at hm
  clear hr hcl hmm
  repeat walk_at "sy"
  refine c_take (p := p) (b := b3) (many := 2) 0 rfl (by decide) (by decide) hb3 fun j2 b4 hj2 hb4 => ?_
  have hsd' : atI [D.str "joins", D.str "meets"] (j2 : Int) = some (sgD (decide (j2 = 0))) := by
    match j2, hj2 with
    | 0, _ => rfl
    | 1, _ => rfl
  refine p_ixT hsd' ?_
  generalize decide (j2 = 0) = sg
  repeat walk_at "sy"
  have eT : D.tup [sgD sg, .tup (cs.map trD)] = trD (.nd sg cs) := (trD_nd sg cs).symm
  rw [eT]
  repeat walk_at "sy"
  intro pt
  have hok : TrOk 16 3 (.nd sg cs) := ⟨by omega, by omega, fun c hc => (hcs c hc).mono h16⟩
  refine ⟨[1], [(pt, .ins .tre [])], rfl, by decide, .nd sg cs, pt, hok, by decide, rfl, rfl, fun wl => ⟨rfl, rfl, 1, treF (.nd sg cs) wl, rfl, ?_⟩⟩
  show gwName 6 _ _ [(p, b4)] _
  repeat walk_at "sy"
  intro pd
  repeat walk_at "sy"
  rw [List.length_map]
  refine ⟨by omega, by omega, ?_⟩
  rw [intsD_nat]
  obtain ⟨U, hU⟩ : ∃ U, U = trD (.nd sg cs) := ⟨_, rfl⟩
  rw [← hU]
  refine for_ind (fun r e st => ∃ (c : Nat) (tv : List (List Key × D)) (x8 : Option D), r = ((List.range cs.length).drop c).map nD ∧ c ≤ cs.length ∧ tv.length ≤ c ∧ (∀ i, i < c → valD tv [.inl (i : Int)] = some (nD ((cs.map (val L 2)).getD i 0))) ∧
    e = [some (.scr ns), some (.own p), some (plD L), some (laD L pr), some (.lst (cs.map trD)), some U, some (.obj .tre (treF (.nd sg cs) wl)), some (.own pd), x8, none, none, none, none] ∧ st = [(p, b4), (pd, .dt tv)]) ?_ ?_ _ _ _ ⟨0, [], none, rfl, Nat.zero_le _, Nat.le_refl _, fun i hi => absurd hi (Nat.not_lt_zero i), rfl, rfl⟩
  · rintro K d r e st ⟨c, tv, x8, hr, hc, htl, htv, rfl, rfl⟩ hK
    by_cases hlt : c < cs.length
    · rw [range_drop hlt] at hr
      obtain ⟨rfl, rfl⟩ := List.cons.inj hr
      repeat walk_at "sy"
      refine p_ixL (d := trD cs[c]) (atI_nat (by rw [List.getElem?_map, List.getElem?_eq_getElem hlt]; rfl)) ?_
      repeat walk_at "sy"
      refine c_pur (r := nD (val L 2 cs[c])) ⟨L, cs[c], o.toOk, hcs _ (List.getElem_mem hlt), rfl, rfl⟩ ?_
      repeat walk_at "sy"
      refine ⟨_, ⟨1, pd, rfl, .inr ⟨tv, [.inl (c : Int)], rfl, rfl, by omega, rfl⟩⟩, ?_⟩
      refine hK _ _ ⟨c + 1, putD tv [.inl (c : Int)] (nD (val L 2 cs[c])), _, rfl, hlt, ?_, ?_, rfl, rfl⟩
      · have := put_len tv [.inl (c : Int)] (nD (val L 2 cs[c]))
        omega
      · intro i hi
        rw [val_put]
        by_cases e : c = i
        · subst e
          rw [if_pos rfl]
          simp [List.getD, hlt]
        · rw [if_neg fun z => e (by injection z with z _; injection z with z; omega)]
          exact htv i (by omega)
    · rw [range_drop_nil (by omega)] at hr
      cases hr
  rintro e st ⟨c, tv, x8, hr, hc, htl, htv, rfl, rfl⟩
  have hcm : c = cs.length := by
    by_cases hlt : c < cs.length
    · rw [range_drop hlt] at hr; cases hr
    · omega
  subst hcm
  repeat walk_at "sy"
  refine c_pur (r := trD (upT sg cs.length)) ⟨sg, cs, by omega, by rw [hU], rfl⟩ ?_
  repeat walk_at "sy"
  have e32 : intsD 32 = (List.range 32).map nD := rfl
  have e5 : intsD 5 = (List.range 5).map nD := rfl
  rw [e32]
  refine ⟨by decide, by decide, ?_⟩
  refine for_ind (fun r e st => ∃ (c : Nat) (b5 : OB) (x10 x11 : Option D), r = ((List.range 32).drop c).map nD ∧ HandB b5 ∧ e = [some (.scr ns), some (.own p), some (plD L), some (laD L pr), some (.lst (cs.map trD)), some U, some (.obj .tre (treF (.nd sg cs) wl)), some (.own pd), x8, some (trD (upT sg cs.length)), x10, x11, none] ∧ st = [(p, b5), (pd, .dt tv)]) ?_ ?_ _ _ _ ⟨0, b4, none, none, rfl, hb4, rfl, rfl⟩
  · rintro K d r e st ⟨c, b5, x10, x11, hr, hb5, rfl, rfl⟩ hK
    by_cases hlt : c < 32
    · rw [range_drop hlt] at hr
      obtain ⟨rfl, rfl⟩ := List.cons.inj hr
      repeat walk_at "sy"
      rw [e5]
      refine ⟨by decide, by decide, by rw [len_mr]; decide, lc_gen (List.range 5) nD (fun _ => true) (fun q => nD (c / 2 ^ q % 2)) (fun _ _ _ h => h) (fun q hq _ Ψ hΨ => ?_) _ ?_⟩
      · have hq := List.mem_range.mp hq
        have hpow : atI [D.int 1, D.int 2, D.int 4, D.int 8, D.int 16] (q : Int) = some (.int ((2 ^ q : Nat) : Int)) := by
          match q, hq with
          | 0, _ => rfl
          | 1, _ => rfl
          | 2, _ => rfl
          | 3, _ => rfl
          | 4, _ => rfl
        have hp0 : 0 < 2 ^ q := Nat.pos_of_ne_zero (by simp)
        have hp1 : 2 ^ q ≤ 2 ^ 5 := Nat.pow_le_pow_right (by decide) (by omega)
        have hp2 : (2 : Nat) ^ 5 = 32 := by decide
        repeat walk_at "sy"
        refine p_ixT hpow ?_
        refine p_div ⟨by omega, by omega⟩ ?_
        repeat walk_at "sy"
        have ev : ((c : Int) / ((2 ^ q : Nat) : Int)) % 2 = ((c / 2 ^ q % 2 : Nat) : Int) := by
          rw [Int.natCast_emod, Int.natCast_ediv]; rfl
        rw [ev]
        exact hΨ
      rw [filter_true, List.nil_append]
      refine p_catL (by rw [len_mr]; decide) ?_
      repeat walk_at "sy"
      refine ⟨_, .inr ⟨[nD 1, nD 0], 5, .inl rfl, rfl, by decide, by decide, by decide, rfl⟩, ?_⟩
      refine p_catL (by rw [List.length_append, len_mr]; decide) ?_
      obtain ⟨bs, hbs⟩ : ∃ bs, bs = (List.range 5).map fun q => c / 2 ^ q % 2 := ⟨_, rfl⟩
      have eL : [D.int 0] ++ ((List.range 5).map fun q => nD (c / 2 ^ q % 2)) ++ (List.replicate (Int.toNat 5) [nD 1, nD 0]).flatten = (0 :: (bs ++ pairs 5)).map nD := by
        rw [hbs]; rfl
      rw [eL]
      repeat walk_at "sy"
      refine ⟨[0, 1], [_, _], rfl, by decide, L, pr, wl, sg, cs, tv, p, pd, b5, bs, o, hm, hcs, hb5, htv, ?_, by rw [hbs]; rfl, rfl, rfl, fun b6 hb6 => ⟨rfl, ?_⟩⟩
      · intro w hw
        rw [hbs] at hw
        obtain ⟨q, _, rfl⟩ := List.mem_map.mp hw
        exact Nat.mod_lt _ (by decide)
      repeat walk_at "sy"
      exact hK _ _ ⟨c + 1, b6, _, _, rfl, hb6, rfl, rfl⟩
    · rw [range_drop_nil (by omega)] at hr
      cases hr
  · rintro e st ⟨c, b5, x10, x11, hr, hb5, rfl, rfl⟩
    repeat walk_at "sy"
    exact .keep [] _ (by decide) rfl k
end Cw

set_option Elab.async false
set_option linter.all false
set_option maxRecDepth 100000
set_option maxHeartbeats 0
namespace Cw
open PySem L2 L2.DX PyProof.Rows PySem.Spec DL
/-! ### the chain -/
def S_never : Spd := fun _ _ _ => False
section
variable {P : Program} {w : World} {K : PySem.W.Frag} {mg : Str → Option Value} {base : Heap} {ca : Cl → Addr} {fad : Str × Option Str → Addr}
theorem fn_never {k : Nat} {f : Addr} {fd : FuncData} {ps : List Str} : FnOk P w K mg base CX0 k f fd ps (SpOf K ca S_never) :=
  ⟨fun vs H Q E q => by obtain ⟨_, _, _, _, _, _, h, _⟩ := q; exact h.elim, fun A outer s H args us vs Q E _ _ _ _ q => by obtain ⟨_, _, _, _, _, _, h, _⟩ := q; exact h.elim⟩
theorem ok_never_lay_out {k : Nat} (T : Txt K mg ca fad) : C8.Cal P w K mg base k "lay_out" (SpOf K ca S_never) [] := by
  obtain ⟨fd, F⟩ := T.fn 15 (d := d_lay_out) rfl
  have b : Binds K fd ["thing", "road", "nodes", "parents", "leaves"] [] := F.bindsN fun _ _ _ _ _ _ us hl => match us, hl with | [_, _, _, _, _], _ => rfl
  exact ⟨_, fd, _, [], fn_never, T.gl 9 rfl, F.kp, b, .nil⟩
theorem ok_never_upper_shape {k : Nat} (T : Txt K mg ca fad) : C8.Cal P w K mg base k "upper_shape" (SpOf K ca S_never) [] := by
  obtain ⟨fd, F⟩ := T.fn 34 (d := d_upper_shape) rfl
  have b : Binds K fd ["ground", "node", "depth", "road", "roads"] [] := F.bindsN fun _ _ _ _ _ _ us hl => match us, hl with | [_, _, _, _, _], _ => rfl
  exact ⟨_, fd, _, [], fn_never, T.gl 16 rfl, F.kp, b, .nil⟩
theorem ok_never_L_leaves {k : Nat} (T : Txt K mg ca fad) : C8.Cal P w K mg base k "_law_leaves" (SpOf K ca S_never) [] := by
  obtain ⟨fd, F⟩ := T.fn 66 (d := d_L_leaves) rfl
  have b : Binds K fd ["_law_shape"] [] := F.bindsN fun _ _ _ _ _ _ us hl => match us, hl with | [_], _ => rfl
  exact ⟨_, fd, _, [], fn_never, T.gl 33 rfl, F.kp, b, .nil⟩
theorem ok_never_L_plain {k : Nat} (T : Txt K mg ca fad) : C8.Cal P w K mg base k "_law_plain" (SpOf K ca S_never) [] := by
  obtain ⟨fd, F⟩ := T.fn 67 (d := d_L_plain) rfl
  have b : Binds K fd ["_law_plain_here", "_law_shape"] [] := F.bindsN fun _ _ _ _ _ _ us hl => match us, hl with | [_, _], _ => rfl
  exact ⟨_, fd, _, [], fn_never, T.gl 34 rfl, F.kp, b, .nil⟩
theorem ok_never_L_upper {k : Nat} (T : Txt K mg ca fad) : C8.Cal P w K mg base k "_law_upper" (SpOf K ca S_never) [] := by
  obtain ⟨fd, F⟩ := T.fn 72 (d := d_L_upper) rfl
  have b : Binds K fd ["_law_shape", "_law_depth"] [] := F.bindsN fun _ _ _ _ _ _ us hl => match us, hl with | [_, _], _ => rfl
  exact ⟨_, fd, _, [], fn_never, T.gl 39 rfl, F.kp, b, .nil⟩
theorem ok_never_L_ends {k : Nat} (T : Txt K mg ca fad) : C8.Cal P w K mg base k "_law_ends" (SpOf K ca S_never) [] := by
  obtain ⟨fd, F⟩ := T.fn 70 (d := d_L_ends) rfl
  have b : Binds K fd ["_law_shape", "_law_road"] [] := F.bindsN fun _ _ _ _ _ _ us hl => match us, hl with | [_, _], _ => rfl
  exact ⟨_, fd, _, [], fn_never, T.gl 37 rfl, F.kp, b, .nil⟩
theorem ok_never_L_fold {k : Nat} (T : Txt K mg ca fad) : C8.Cal P w K mg base k "_law_fold" (SpOf K ca S_never) [] := by
  obtain ⟨fd, F⟩ := T.fn 73 (d := d_L_fold) rfl
  have b : Binds K fd ["_law_plain_here", "_law_upper_here", "_law_known", "_law_fill", "_law_road"] [] := F.bindsN fun _ _ _ _ _ _ us hl => match us, hl with | [_, _, _, _, _], _ => rfl
  exact ⟨_, fd, _, [], fn_never, T.gl 40 rfl, F.kp, b, .nil⟩
theorem ok_never_L_grown {k : Nat} (T : Txt K mg ca fad) : C8.Cal P w K mg base k "_law_grown" (SpOf K ca S_never) [] := by
  obtain ⟨fd, F⟩ := T.fn 65 (d := d_L_grown) rfl
  have b : Binds K fd ["_law_hand_here", "_law_pool", "_law_budget", "_law_deep", "_law_turn"] [] := F.bindsN fun _ _ _ _ _ _ us hl => match us, hl with | [_, _, _, _, _], _ => rfl
  exact ⟨_, fd, _, [], fn_never, T.gl 32 rfl, F.kp, b, .nil⟩
theorem ok_lhand {k : Nat} (T : Txt K mg ca fad) : C8.Cal P w K mg base (k + 2) "_law_hand" (SpOf K ca S_lhand) [] := wk_L_hand (k := k) T pl_lhand
theorem ok_mixed {k : Nat} (T : Txt K mg ca fad) : C8.Cal P w K mg base (k + 2) "_law_mixed" (SpOf K ca S_mixed) [] := wk_L_mixed (k := k) T pl_mixed
theorem ok_take {k : Nat} (T : Txt K mg ca fad) : C8.Cal P w K mg base (k + 4) "_law_take" (SpOf K ca S_take) [] := wk_L_take (k := k + 2) T (ok_mixed (k := k) T) pl_take
theorem ok_lowers {k : Nat} (T : Txt K mg ca fad) : C8.Cal P w K mg base (k + 2) "_law_lowers" (SpOf K ca S_lowers) [] := wk_L_lowers (k := k) T pl_lowers
theorem ok_dlow {k : Nat} (T : Txt K mg ca fad) : C8.Cal P w K mg base (k + 6) "_law_drawn_lowers" (SpOf K ca S_dlow) [] := wk_L_drawn_lowers (k := k + 4) T (ok_take (k := k) T) (ok_lowers (k := k + 2) T) pl_dlow
theorem ok_bound {k : Nat} (T : Txt K mg ca fad) : C8.Cal P w K mg base (k + 2) "_law_bound" (SpOf K ca S_bound) [] := wk_L_bound (k := k) T pl_bound
theorem ok_llat {k : Nat} (T : Txt K mg ca fad) : C8.Cal P w K mg base (k + 4) "_law_lattice" (SpOf K ca S_llat) [] := wk_L_lattice (k := k + 2) T (ok_bound (k := k) T) pl_llat
theorem ok_shuf {k : Nat} (T : Txt K mg ca fad) : C8.Cal P w K mg base (k + 6) "_law_shuffled" (SpOf K ca S_shuf) [] := wk_L_shuffled (k := k + 4) T (ok_take (k := k) T) pl_shuf
theorem ok_dist {k : Nat} (T : Txt K mg ca fad) : C8.Cal P w K mg base (k + 8) "_law_dist_plain" (SpOf K ca S_dist) [] := wk_L_dist_plain (k := k + 6) T (ok_dlow (k := k) T) (ok_take (k := k + 2) T) (ok_llat (k := k + 2) T) (ok_shuf (k := k) T) pl_dist
theorem ok_checked_rows {k : Nat} (T : Txt K mg ca fad) : C8.Cal P w K mg base (k + 2) "checked_rows" (SpOf K ca S_checked_rows) [] := wk_checked_rows (k := k) T pl_checked_rows
theorem ok_check_order {k : Nat} (T : Txt K mg ca fad) : C8.Cal P w K mg base (k + 2) "check_order" (SpOf K ca S_check_order) [] := wk_check_order (k := k) T pl_check_order
theorem ok_least_above {k : Nat} (T : Txt K mg ca fad) : C8.Cal P w K mg base (k + 2) "least_above" (SpOf K ca S_least_above) [] := wk_least_above (k := k) T pl_least_above
theorem ok_bound_rows {k : Nat} (T : Txt K mg ca fad) : C8.Cal P w K mg base (k + 4) "bound_rows" (SpOf K ca S_bound_rows) [] := wk_bound_rows (k := k + 2) T (ok_least_above (k := k) T) pl_bound_rows
theorem ok_turned {k : Nat} (T : Txt K mg ca fad) : C8.Cal P w K mg base (k + 2) "turned_rows" (SpOf K ca S_turned) [] := wk_turned_rows (k := k) T pl_turned
theorem ok_covers {k : Nat} (T : Txt K mg ca fad) : C8.Cal P w K mg base (k + 2) "lower_covers" (SpOf K ca S_covers) [] := wk_lower_covers (k := k) T pl_covers
theorem ok_lat_init {k : Nat} (T : Txt K mg ca fad) : C8.Mak P w K mg base (k + 6) "Lattice" (ca .lat) (SpOf K ca S_lat_init) [] := wk_Lattice_init (k := k + 4) T (ok_checked_rows (k := k + 2) T) (ok_check_order (k := k + 2) T) (ok_bound_rows (k := k) T) (ok_turned (k := k + 2) T) (ok_covers (k := k + 2) T) pl_lat_init
theorem ok_made {k : Nat} (T : Txt K mg ca fad) : C8.Cal P w K mg base (k + 8) "_law_made_lattice" (SpOf K ca S_made) [] := wk_L_made_lattice (k := k + 6) T (ok_lat_init (k := k) T) pl_made
theorem ok_whole {k : Nat} (T : Txt K mg ca fad) : C8.Cal P w K mg base (k + 2) "_law_whole" (SpOf K ca S_whole) [] := wk_L_whole (k := k) T pl_whole
theorem ok_leaves_0 {k : Nat} (T : Txt K mg ca fad) : C8.Cal P w K mg base (k + 4) "_law_leaves" (SpOf K ca (S_leaves 0)) [] := wk_L_leaves (k := k + 2) T (ok_whole (k := k) T) (ok_never_L_leaves (k := k + 2) T) (pl_leaves 0 S_never (fun e h => by cases h))
theorem ok_grown_0 {k : Nat} (T : Txt K mg ca fad) : C8.Cal P w K mg base (k + 6) "_law_grown" (SpOf K ca (S_grown 0)) [] := wk_L_grown (k := k + 4) T (ok_take (k := k) T) (ok_never_L_grown (k := k + 4) T) (ok_leaves_0 (k := k) T) (pl_grown0 S_never (S_leaves 0))
theorem ok_grown_1 {k : Nat} (T : Txt K mg ca fad) : C8.Cal P w K mg base (k + 8) "_law_grown" (SpOf K ca (S_grown 1)) [] := wk_L_grown (k := k + 6) T (ok_take (k := k + 2) T) (ok_grown_0 (k := k) T) (ok_leaves_0 (k := k + 2) T) (pl_grown1 0)
theorem ok_leaves_1 {k : Nat} (T : Txt K mg ca fad) : C8.Cal P w K mg base (k + 6) "_law_leaves" (SpOf K ca (S_leaves 1)) [] := wk_L_leaves (k := k + 4) T (ok_whole (k := k + 2) T) (ok_leaves_0 (k := k) T) (pl_leaves 1 (S_leaves 0) (fun e h => by cases h; rfl))
theorem ok_grown_2 {k : Nat} (T : Txt K mg ca fad) : C8.Cal P w K mg base (k + 10) "_law_grown" (SpOf K ca (S_grown 2)) [] := wk_L_grown (k := k + 8) T (ok_take (k := k + 4) T) (ok_grown_1 (k := k) T) (ok_leaves_1 (k := k + 2) T) (pl_grown1 1)
theorem ok_dtree {k : Nat} (T : Txt K mg ca fad) : C8.Cal P w K mg base (k + 12) "_law_drawn_tree" (SpOf K ca S_dtree) [] := wk_L_drawn_tree (k := k + 10) T (ok_take (k := k + 6) T) (ok_grown_2 (k := k) T) pl_dtree
theorem ok_check_node {k : Nat} (T : Txt K mg ca fad) : C8.Cal P w K mg base (k + 2) "check_node" (SpOf K ca S_check_node) [] := wk_check_node (k := k) T pl_check_node
theorem ok_lay_0 {k : Nat} (T : Txt K mg ca fad) : C8.Cal P w K mg base (k + 4) "lay_out" (SpOf K ca (S_lay 0)) [] := wk_lay_out (k := k + 2) T (ok_check_node (k := k) T) (ok_never_lay_out (k := k + 2) T) (pl_lay 0 S_never (fun e h => by cases h))
theorem ok_lay_1 {k : Nat} (T : Txt K mg ca fad) : C8.Cal P w K mg base (k + 6) "lay_out" (SpOf K ca (S_lay 1)) [] := wk_lay_out (k := k + 4) T (ok_check_node (k := k + 2) T) (ok_lay_0 (k := k) T) (pl_lay 1 (S_lay 0) (fun e h => by cases h; rfl))
theorem ok_lay_2 {k : Nat} (T : Txt K mg ca fad) : C8.Cal P w K mg base (k + 8) "lay_out" (SpOf K ca (S_lay 2)) [] := wk_lay_out (k := k + 6) T (ok_check_node (k := k + 4) T) (ok_lay_1 (k := k) T) (pl_lay 2 (S_lay 1) (fun e h => by cases h; rfl))
theorem ok_lay_3 {k : Nat} (T : Txt K mg ca fad) : C8.Cal P w K mg base (k + 10) "lay_out" (SpOf K ca (S_lay 3)) [] := wk_lay_out (k := k + 8) T (ok_check_node (k := k + 6) T) (ok_lay_2 (k := k) T) (pl_lay 3 (S_lay 2) (fun e h => by cases h; rfl))
theorem ok_tree_init_3 {k : Nat} (T : Txt K mg ca fad) : C8.Mak P w K mg base (k + 12) "Tree" (ca .tre) (SpOf K ca (S_tree_init 3)) [] := wk_Tree_init (k := k + 10) T (ok_lay_3 (k := k) T) (pl_tree_init 3)
theorem ok_ljoin {k : Nat} (T : Txt K mg ca fad) : C8.Cal P w K mg base (k + 2) "_law_join_all" (SpOf K ca S_ljoin) [] := wk_L_join_all (k := k) T pl_ljoin
theorem ok_lmeet {k : Nat} (T : Txt K mg ca fad) : C8.Cal P w K mg base (k + 2) "_law_meet_all" (SpOf K ca S_lmeet) [] := wk_L_meet_all (k := k) T pl_lmeet
theorem ok_plain_0 {k : Nat} (T : Txt K mg ca fad) : C8.Cal P w K mg base (k + 4) "_law_plain" (SpOf K ca (S_plain 0)) [] := wk_L_plain (k := k + 2) T (ok_whole (k := k) T) (ok_never_L_plain (k := k + 2) T) (ok_ljoin (k := k) T) (ok_lmeet (k := k) T) (pl_plain 0 S_never (fun e h => by cases h))
theorem ok_plain_1 {k : Nat} (T : Txt K mg ca fad) : C8.Cal P w K mg base (k + 6) "_law_plain" (SpOf K ca (S_plain 1)) [] := wk_L_plain (k := k + 4) T (ok_whole (k := k + 2) T) (ok_plain_0 (k := k) T) (ok_ljoin (k := k + 2) T) (ok_lmeet (k := k + 2) T) (pl_plain 1 (S_plain 0) (fun e h => by cases h; rfl))
theorem ok_plain_2 {k : Nat} (T : Txt K mg ca fad) : C8.Cal P w K mg base (k + 8) "_law_plain" (SpOf K ca (S_plain 2)) [] := wk_L_plain (k := k + 6) T (ok_whole (k := k + 4) T) (ok_plain_1 (k := k) T) (ok_ljoin (k := k + 4) T) (ok_lmeet (k := k + 4) T) (pl_plain 2 (S_plain 1) (fun e h => by cases h; rfl))
theorem ok_upper0 {k : Nat} (T : Txt K mg ca fad) : C8.Cal P w K mg base (k + 4) "_law_upper" (SpOf K ca S_upper0) [] := wk_L_upper (k := k + 2) T (ok_whole (k := k) T) (ok_never_L_upper (k := k + 2) T) (pl_upper0 S_never)
theorem ok_upper1 {k : Nat} (T : Txt K mg ca fad) : C8.Cal P w K mg base (k + 6) "_law_upper" (SpOf K ca S_upper1) [] := wk_L_upper (k := k + 4) T (ok_whole (k := k + 2) T) (ok_upper0 (k := k) T) pl_upper1
theorem ok_ends0 {k : Nat} (T : Txt K mg ca fad) : C8.Cal P w K mg base (k + 4) "_law_ends" (SpOf K ca S_ends0) [] := wk_L_ends (k := k + 2) T (ok_whole (k := k) T) (ok_never_L_ends (k := k + 2) T) (pl_ends0 S_never)
theorem ok_ends1 {k : Nat} (T : Txt K mg ca fad) : C8.Cal P w K mg base (k + 6) "_law_ends" (SpOf K ca S_ends1) [] := wk_L_ends (k := k + 4) T (ok_whole (k := k + 2) T) (ok_ends0 (k := k) T) pl_ends1
theorem ok_is_number {k : Nat} (T : Txt K mg ca fad) : C8.Cal P w K mg base (k + 2) "is_number" (SpOf K ca S_is_number) [] := wk_is_number (k := k) T pl_is_number
theorem ok_tree_init_1 {k : Nat} (T : Txt K mg ca fad) : C8.Mak P w K mg base (k + 8) "Tree" (ca .tre) (SpOf K ca (S_tree_init 1)) [] := wk_Tree_init (k := k + 6) T (ok_lay_1 (k := k) T) (pl_tree_init 1)
theorem ok_gro_end {k : Nat} (T : Txt K mg ca fad) : C8.Met P w K mg base (k + 2) (ca .gro) "is_end" (SpOf K ca S_gro_end) [] := wk_TreeGround_is_end (k := k) T pl_gro_end
theorem ok_gro_kids {k : Nat} (T : Txt K mg ca fad) : C8.Met P w K mg base (k + 2) (ca .gro) "children_of" (SpOf K ca S_gro_kids) [] := wk_TreeGround_children_of (k := k) T pl_gro_kids
theorem ok_gro_sign {k : Nat} (T : Txt K mg ca fad) : C8.Met P w K mg base (k + 2) (ca .gro) "sign_of" (SpOf K ca S_gro_sign) [] := wk_TreeGround_sign_of (k := k) T pl_gro_sign
theorem ok_ups0 {k : Nat} (T : Txt K mg ca fad) : C8.Cal P w K mg base (k + 4) "upper_shape" (SpOf K ca S_ups0) [] := wk_upper_shape (k := k + 2) T (ok_gro_end (k := k) T) (ok_gro_kids (k := k) T) (ok_never_upper_shape (k := k + 2) T) (ok_gro_sign (k := k) T) (pl_ups0 S_gro_end S_gro_kids S_never S_gro_sign)
theorem ok_ups1 {k : Nat} (T : Txt K mg ca fad) : C8.Cal P w K mg base (k + 6) "upper_shape" (SpOf K ca S_ups1) [] := wk_upper_shape (k := k + 4) T (ok_gro_end (k := k + 2) T) (ok_gro_kids (k := k + 2) T) (ok_ups0 (k := k) T) (ok_gro_sign (k := k + 2) T) pl_ups1
theorem ok_gro_root {k : Nat} (T : Txt K mg ca fad) : C8.Met P w K mg base (k + 2) (ca .gro) "root_node" (SpOf K ca S_gro_root) [] := wk_TreeGround_root_node (k := k) T pl_gro_root
theorem ok_join_all {k : Nat} (T : Txt K mg ca fad) : C8.Met P w K mg base (k + 2) (ca .lat) "join_all" (SpOf K ca S_join_all) [] := wk_Lattice_join_all (k := k) T pl_join_all
theorem ok_meet_all {k : Nat} (T : Txt K mg ca fad) : C8.Met P w K mg base (k + 2) (ca .lat) "meet_all" (SpOf K ca S_meet_all) [] := wk_Lattice_meet_all (k := k) T pl_meet_all
theorem ok_folded {k : Nat} (T : Txt K mg ca fad) : C8.Cal P w K mg base (k + 4) "folded_worths" (SpOf K ca S_folded) [] := wk_folded_worths (k := k + 2) T (ok_join_all (k := k) T) (ok_meet_all (k := k) T) pl_folded
theorem ok_wb {k : Nat} (T : Txt K mg ca fad) : C8.Cal P w K mg base (k + 6) "worths_beneath" (SpOf K ca S_wb) [] := wk_worths_beneath (k := k + 4) T (ok_folded (k := k) T) pl_wb
theorem ok_folds {k : Nat} (T : Txt K mg ca fad) : C8.Cal P w K mg base (k + 6) "folds_of_others" (SpOf K ca S_folds) [] := wk_folds_of_others (k := k + 4) T (ok_folded (k := k) T) pl_folds
theorem ok_meet_of {k : Nat} (T : Txt K mg ca fad) : C8.Met P w K mg base (k + 2) (ca .lat) "meet_of" (SpOf K ca S_meet_of) [] := wk_Lattice_meet_of (k := k) T pl_meet_of
theorem ok_join_of {k : Nat} (T : Txt K mg ca fad) : C8.Met P w K mg base (k + 2) (ca .lat) "join_of" (SpOf K ca S_join_of) [] := wk_Lattice_join_of (k := k) T pl_join_of
theorem ok_cb {k : Nat} (T : Txt K mg ca fad) : C8.Cal P w K mg base (k + 8) "contexts_beneath" (SpOf K ca S_cb) [] := wk_contexts_beneath (k := k + 6) T (ok_folds (k := k) T) (ok_meet_of (k := k + 4) T) (ok_join_of (k := k + 4) T) pl_cb
theorem ok_refresh {k : Nat} (T : Txt K mg ca fad) : C8.Met P w K mg base (k + 10) (ca .ask) "refresh_all" (SpOf K ca S_refresh) [] := wk_Asking_refresh_all (k := k + 8) T (ok_wb (k := k + 2) T) (ok_cb (k := k) T) pl_refresh
theorem ok_ask_init {k : Nat} (T : Txt K mg ca fad) : C8.Mak P w K mg base (k + 12) "Asking" (ca .ask) (SpOf K ca S_ask_init) [] := wk_Asking_init (k := k + 10) T (ok_refresh (k := k) T) pl_ask_init
theorem ok_pool_init {k : Nat} (T : Txt K mg ca fad) : C8.Mak P w K mg base (k + 14) "Pool" (ca .pool) (SpOf K ca S_pool_init) [] := wk_Pool_init (k := k + 12) T (ok_is_number (k := k + 10) T) (ok_tree_init_1 (k := k + 4) T) (ok_ups1 (k := k + 6) T) (ok_gro_root (k := k + 10) T) (ok_ask_init (k := k) T) pl_pool_init
theorem ok_gro_init {k : Nat} (T : Txt K mg ca fad) : C8.Mak P w K mg base (k + 2) "TreeGround" (ca .gro) (SpOf K ca S_gro_init) [.int 0] := wk_TreeGround_init (k := k) T pl_gro_init
theorem ok_lhangs {k : Nat} (T : Txt K mg ca fad) : C8.Cal P w K mg base (k + 2) "_law_hangs" (SpOf K ca S_lhangs) [] := wk_L_hangs (k := k) T pl_lhangs
theorem ok_lfold0 {k : Nat} (T : Txt K mg ca fad) : C8.Cal P w K mg base (k + 4) "_law_fold" (SpOf K ca S_lfold0) [] := wk_L_fold (k := k + 2) T (ok_whole (k := k) T) (ok_never_L_fold (k := k + 2) T) (ok_ljoin (k := k) T) (ok_lmeet (k := k) T) (pl_lfold0 S_never S_ljoin S_lmeet)
theorem ok_linner {k : Nat} (T : Txt K mg ca fad) : C8.Cal P w K mg base (k + 2) "_law_inner" (SpOf K ca S_linner) [] := wk_L_inner (k := k) T pl_linner
theorem ok_lsp {k : Nat} (T : Txt K mg ca fad) : C8.Cal P w K mg base (k + 6) "_law_spot_context" (SpOf K ca S_lsp) [] := wk_L_spot_context (k := k + 4) T (ok_lfold0 (k := k) T) (ok_lmeet (k := k + 2) T) (ok_ljoin (k := k + 2) T) (ok_linner (k := k + 2) T) pl_lsp
theorem ok_lhg {k : Nat} (T : Txt K mg ca fad) : C8.Cal P w K mg base (k + 8) "_law_hanging" (SpOf K ca S_lhg) [] := wk_L_hanging (k := k + 6) T (ok_lhangs (k := k + 4) T) (ok_lsp (k := k) T) pl_lhg
theorem ok_at_most {k : Nat} (T : Txt K mg ca fad) : C8.Met P w K mg base (k + 2) (ca .lat) "at_most" (SpOf K ca S_at_most) [] := wk_Lattice_at_most (k := k) T pl_at_most
theorem ok_leaf_hangs {k : Nat} (T : Txt K mg ca fad) : C8.Met P w K mg base (k + 4) (ca .ask) "leaf_hangs" (SpOf K ca S_leaf_hangs) [] := wk_Asking_leaf_hangs (k := k + 2) T (ok_at_most (k := k) T) pl_leaf_hangs
theorem ok_hanging_now {k : Nat} (T : Txt K mg ca fad) : C8.Met P w K mg base (k + 6) (ca .ask) "hanging_now" (SpOf K ca S_hanging_now) [] := wk_Asking_hanging_now (k := k + 4) T (ok_leaf_hangs (k := k) T) pl_hanging_now
theorem ok_hsp {k : Nat} (T : Txt K mg ca fad) : C8.Met P w K mg base (k + 8) (ca .pool) "hanging_spots" (SpOf K ca S_hsp) [] := wk_Pool_hanging_spots (k := k + 6) T (ok_hanging_now (k := k) T) pl_hsp
theorem ok_node_at {k : Nat} (T : Txt K mg ca fad) : C8.Met P w K mg base (k + 4) (ca .tre) "node_at" (SpOf K ca S_node_at) [] := wk_Tree_node_at (k := k + 2) T (ok_is_number (k := k) T) pl_node_at
theorem ok_context_at {k : Nat} (T : Txt K mg ca fad) : C8.Met P w K mg base (k + 6) (ca .ask) "context_at" (SpOf K ca S_context_at) [] := wk_Asking_context_at (k := k + 4) T (ok_node_at (k := k) T) pl_context_at
theorem ok_spot_context {k : Nat} (T : Txt K mg ca fad) : C8.Met P w K mg base (k + 8) (ca .pool) "spot_context" (SpOf K ca S_spot_context) [] := wk_Pool_spot_context (k := k + 6) T (ok_context_at (k := k) T) pl_spot_context
theorem ok_job_init {k : Nat} (T : Txt K mg ca fad) : C8.Mak P w K mg base (k + 2) "Job" (ca .job) (SpOf K ca S_job_init) [] := wk_Job_init (k := k) T pl_job_init
theorem ok_take_job {k : Nat} (T : Txt K mg ca fad) : C8.Met P w K mg base (k + 10) (ca .pool) "take_job" (SpOf K ca S_take_job) [] := wk_Pool_take_job (k := k + 8) T (ok_is_number (k := k + 6) T) (ok_hsp (k := k) T) (ok_spot_context (k := k) T) (ok_job_init (k := k + 6) T) pl_take_job
theorem ok_lvalue {k : Nat} (T : Txt K mg ca fad) : C8.Cal P w K mg base (k + 2) "_law_value" (SpOf K ca S_lvalue) [] := wk_L_value (k := k) T pl_lvalue
theorem ok_agreeing {k : Nat} (T : Txt K mg ca fad) : C8.Cal P w K mg base (k + 4) "_law_agreeing" (SpOf K ca S_agreeing) [] := wk_L_agreeing (k := k + 2) T (ok_lvalue (k := k) T) pl_agreeing
theorem ok_job_at {k : Nat} (T : Txt K mg ca fad) : C8.Met P w K mg base (k + 4) (ca .pool) "job_at" (SpOf K ca S_job_at) [] := wk_Pool_job_at (k := k + 2) T (ok_is_number (k := k) T) pl_job_at
theorem ok_stands_in {k : Nat} (T : Txt K mg ca fad) : C8.Cal P w K mg base (k + 2) "stands_in" (SpOf K ca S_stands_in) [] := wk_stands_in (k := k) T pl_stands_in
theorem ok_set_standing {k : Nat} (T : Txt K mg ca fad) : C8.Met P w K mg base (k + 2) (ca .pool) "set_standing" (SpOf K ca S_set_standing) [] := wk_Pool_set_standing (k := k) T pl_set_standing
theorem ok_num_below {k : Nat} (T : Txt K mg ca fad) : C8.Cal P w K mg base (k + 2) "is_number_below" (SpOf K ca S_num_below) [] := wk_is_number_below (k := k) T pl_num_below
theorem ok_refuse {k : Nat} (T : Txt K mg ca fad) : C8.Met P w K mg base (k + 4) (ca .ask) "refuse_leaf" (SpOf K ca S_refuse) [] := wk_Asking_refuse_leaf (k := k + 2) T (ok_num_below (k := k) T) pl_refuse
theorem ok_check_worth {k : Nat} (T : Txt K mg ca fad) : C8.Cal P w K mg base (k + 2) "check_worth" (SpOf K ca S_check_worth) [] := wk_check_worth (k := k) T pl_check_worth
theorem ok_set_kept {k : Nat} (T : Txt K mg ca fad) : C8.Met P w K mg base (k + 12) (ca .ask) "set_kept" (SpOf K ca S_set_kept) [] := wk_Asking_set_kept (k := k + 10) T (ok_refresh (k := k) T) pl_set_kept
theorem ok_note_leaf {k : Nat} (T : Txt K mg ca fad) : C8.Met P w K mg base (k + 14) (ca .ask) "note_leaf" (SpOf K ca S_note_leaf) [] := wk_Asking_note_leaf (k := k + 12) T (ok_refuse (k := k + 8) T) (ok_check_worth (k := k + 10) T) (ok_set_kept (k := k) T) pl_note_leaf
theorem ok_note_spot {k : Nat} (T : Txt K mg ca fad) : C8.Met P w K mg base (k + 16) (ca .pool) "note_spot" (SpOf K ca S_note_spot) [] := wk_Pool_note_spot (k := k + 14) T (ok_note_leaf (k := k) T) pl_note_spot
theorem ok_give_job {k : Nat} (T : Txt K mg ca fad) : C8.Met P w K mg base (k + 18) (ca .pool) "give_job" (SpOf K ca S_give_job) [] := wk_Pool_give_job (k := k + 16) T (ok_job_at (k := k + 12) T) (ok_stands_in (k := k + 14) T) (ok_set_standing (k := k + 14) T) (ok_note_spot (k := k) T) pl_give_job
theorem ok_plain_3 {k : Nat} (T : Txt K mg ca fad) : C8.Cal P w K mg base (k + 10) "_law_plain" (SpOf K ca (S_plain 3)) [] := wk_L_plain (k := k + 8) T (ok_whole (k := k + 6) T) (ok_plain_2 (k := k) T) (ok_ljoin (k := k + 6) T) (ok_lmeet (k := k + 6) T) (pl_plain 3 (S_plain 2) (fun e h => by cases h; rfl))
theorem ok_is_done {k : Nat} (T : Txt K mg ca fad) : Prp P w K mg base (k + 10) (ca .pool) "is_done" (SpOf K ca S_is_done) := wk_Pool_is_done (k := k + 8) T (ok_hsp (k := k) T) pl_is_done
theorem ok_bounds_at {k : Nat} (T : Txt K mg ca fad) : C8.Met P w K mg base (k + 6) (ca .ask) "bounds_at" (SpOf K ca S_bounds_at) [] := wk_Asking_bounds_at (k := k + 4) T (ok_node_at (k := k) T) pl_bounds_at
theorem ok_spot_bounds {k : Nat} (T : Txt K mg ca fad) : C8.Met P w K mg base (k + 8) (ca .pool) "spot_bounds" (SpOf K ca S_spot_bounds) [] := wk_Pool_spot_bounds (k := k + 6) T (ok_bounds_at (k := k) T) pl_spot_bounds
theorem ok_weave {k : Nat} (T : Txt K mg ca fad) : C8.Cal P w K mg base (k + 20) "_law_weave" (SpOf K ca S_weave) [] := wk_L_weave (k := k + 18) T (ok_ends1 (k := k + 12) T) (ok_pool_init (k := k + 4) T) (ok_gro_init (k := k + 16) T) (ok_lhg (k := k + 10) T) (ok_take_job (k := k + 8) T) (ok_lsp (k := k + 12) T) (ok_agreeing (k := k + 14) T) (ok_take (k := k + 14) T) (ok_give_job (k := k) T) (ok_plain_3 (k := k + 8) T) (ok_is_done (k := k + 8) T) (ok_spot_bounds (k := k + 10) T) pl_weave
theorem ok_law {k : Nat} (T : Txt K mg ca fad) : C8.Cal P w K mg base (k + 22) "law" (SpOf K ca S_law) [] := wk_law (k := k + 20) T (ok_lhand (k := k + 18) T) (ok_dist (k := k + 12) T) (ok_made (k := k + 12) T) (ok_take (k := k + 16) T) (ok_dtree (k := k + 8) T) (ok_tree_init_3 (k := k + 8) T) (ok_plain_2 (k := k + 12) T) (ok_upper1 (k := k + 14) T) (ok_weave (k := k) T) pl_law
end
end Cw

set_option Elab.async false
set_option linter.all false
set_option maxRecDepth 100000
set_option maxHeartbeats 0
namespace Cw
open PySem L2 L2.DX PyProof.Rows PySem.Spec DL
section
variable {P : Program} {w : World} {K : PySem.W.Frag} {mg : Str → Option Value} {base : Heap} {ca : Cl → Addr} {fad : Str × Option Str → Addr}
theorem wf_law {k : Nat} {spd S1 S2 S3 S4 S5 S6 S7 S8 S9 : Spd} (T : Txt K mg ca fad) (c1 : C8.Cal P w K mg base k "_law_hand" (SpOf K ca S1) []) (c2 : C8.Cal P w K mg base k "_law_dist_plain" (SpOf K ca S2) []) (c3 : C8.Cal P w K mg base k "_law_made_lattice" (SpOf K ca S3) []) (c4 : C8.Cal P w K mg base k "_law_take" (SpOf K ca S4) []) (c5 : C8.Cal P w K mg base k "_law_drawn_tree" (SpOf K ca S5) []) (c6 : C8.Mak P w K mg base k "Tree" (ca .tre) (SpOf K ca S6) []) (c7 : C8.Cal P w K mg base k "_law_plain" (SpOf K ca S7) []) (c8 : C8.Cal P w K mg base k "_law_upper" (SpOf K ca S8) []) (c9 : C8.Cal P w K mg base k "_law_weave" (SpOf K ca S9) []) {fd : FuncData} (F : FunD K d_law.name d_law.qual d_law.params d_law.body d_law.scope (d_law.dvs K) (d_law.kws K) (fad d_law.at_) fd) (h : ∀ ds st Φ, spd ds st Φ → ds.length = 1 ∧ W_law S1 S2 S3 S4 S5 S6 S7 S8 S9 (endD Φ) (startD N_law ds) st) : FnOk P w K mg base CX0 (k + 2) (fad d_law.at_) fd ["_law_script"] (SpOf K ca spd) := by
  have nd : (N_law).Nodup := sc_law.nd
  have ok : FnOk P w K mg base CX0 (k + 2) (fad d_law.at_) fd ["_law_script"] (SpOf K ca spd) := fn_ok F sc_law (fun cdv A outer s H E hr => ⟨_, by
    have u64 := hr.units
    have u65 := room65 hr
    have u1 := room1 hr
    exact (dss_cons (ds_set 1 nd (de_call c1 hr (da_cons (de_var 0) da_nil) (hk := by omega))) (dss_cons (ds_set 2 nd (de_call c2 hr (da_cons (de_var 1) da_nil) (hk := by omega))) (dss_cons (ds_set 3 nd (de_call c3 hr (da_cons (de_var 2) da_nil) (hk := by omega))) (dss_cons (ds_setLc 4 12 nd (di_rg (T.fr "range" (by decide +kernel)) (da_cons (de_op od_add de_int (de_call c4 hr (da_cons (de_var 1) (da_cons de_int da_nil)) (hk := by omega))) da_nil)) (by intro _ _ _ _ _; exact dg_name 12 nd) (by intro _ _ _ _ _; exact dts_nil) (by intro _ _ _ _ _; exact (de_call c5 hr (da_cons (de_var 1) (da_cons (de_ix (de_var 2) de_int) (da_cons de_int (da_cons de_int da_nil)))) (hk := by omega))) (blkOk_by (by kernel_rfl))) (dss_cons (ds_set 5 nd (de_tup (da_cons (de_ix (de_tup (da_cons de_str (da_cons de_str da_nil))) (de_call c4 hr (da_cons (de_var 1) (da_cons de_int da_nil)) (hk := by omega))) (da_cons (de_cT call_tuple_of sc_tupOf (T.fr "tuple" (by decide +kernel)) b_tuple (da_cons (de_var 4) da_nil)) da_nil)))) (dss_cons (ds_set 6 nd (de_make .tre [] (fun _ => RpA.nil) c6 hr (da_cons (de_var 5) da_nil) (hk := by omega))) (dss_cons (ds_set 7 nd de_dnewT) (dss_cons (ds_for (di_rg (T.fr "range" (by decide +kernel)) (da_cons (de_cB call_len_seq sc_len (T.fr "len" (by decide +kernel)) b_len (da_cons (de_var 4) da_nil)) da_nil)) (dg_name 8 nd) (dss_one (ds_dput u1 (de_var 7) (de_tup (da_cons (de_var 8) da_nil)) (de_call c7 hr (da_cons (de_var 2) (da_cons (de_ix (de_var 4) (de_var 8)) da_nil)) (hk := by omega))))) (dss_cons (ds_set 9 nd (de_call c8 hr (da_cons (de_var 5) (da_cons de_int da_nil)) (hk := by omega))) (dss_cons (ds_for (di_rg (T.fr "range" (by decide +kernel)) (da_cons de_int da_nil)) (dg_name 10 nd) (dss_cons (ds_set 11 nd (de_op od_add (de_op od_add (de_lst (da_cons de_int da_nil)) (de_lc 12 nd (di_rg (T.fr "range" (by decide +kernel)) (da_cons de_int da_nil)) (by intro _ _ _ _ _; exact dg_name 12 nd) (by intro _ _ _ _ _; exact dts_nil) (by intro _ _ _ _ _; exact (de_op od_mod (de_op od_div (de_cT call_int1 sc_int (T.fr "int" (by decide +kernel)) b_int (da_cons (de_var 10) da_nil)) (de_ix (de_tup (da_cons de_int (da_cons de_int (da_cons de_int (da_cons de_int (da_cons de_int da_nil)))))) (de_var 12))) de_int)) (blkOk_by (by kernel_rfl)))) (de_op od_mul (de_lst (da_cons de_int (da_cons de_int da_nil))) de_int))) (dss_one (ds_if (dt_not (dt_val (de_call c9 hr (da_cons (de_var 1) (da_cons (de_var 2) (da_cons (de_var 3) (da_cons (de_var 6) (da_cons (de_var 9) (da_cons (de_var 7) (da_cons (de_var 11) da_nil))))))) (hk := by omega)))) (dss_one (ds_ret de_bl)) dss_nil)))) (dss_one (ds_ret de_bl))))))))))))⟩) h
  exact ok
theorem of_law {k : Nat} (T : Txt K mg ca fad) {fd : FuncData} (F : FunD K d_law.name d_law.qual d_law.params d_law.body d_law.scope (d_law.dvs K) (d_law.kws K) (fad d_law.at_) fd) : FnOk P w K mg base CX0 (k + 22) (fad d_law.at_) fd ["_law_script"] (SpOf K ca S_law) := wf_law (k := k + 20) T (ok_lhand (k := k + 18) T) (ok_dist (k := k + 12) T) (ok_made (k := k + 12) T) (ok_take (k := k + 16) T) (ok_dtree (k := k + 8) T) (ok_tree_init_3 (k := k + 8) T) (ok_plain_2 (k := k + 12) T) (ok_upper1 (k := k + 14) T) (ok_weave (k := k) T) F pl_law
end
end Cw

set_option Elab.async false
set_option linter.all false
set_option maxRecDepth 100000
set_option maxHeartbeats 0
namespace Cw
open PySem PySem.Spec PyProof.Rows L2 DL
/-! ### the facts of the text -/
def caK (K : PySem.W.Frag) (c : Cl) : Addr := He.ga K c.cname
def fadK (K : PySem.W.Frag) (p : Str × Option Str) : Addr := match p with
  | (m, some c) => if m = "is_done" ∧ c = "Pool" then getA K else He.fAd K (c, some m)
  | (x, none) => He.fAd K (x, none)
section
variable {K : PySem.W.Frag} {h : Heap} {mg : Str → Option Value}
theorem facts_of (c : obsK K = valK) {f : He.Fa} (hf : f ∈ faH) : f.ok K = true := by
  have c1 : ((faH.all fun f => f.ok K) && ((fnH.all fun d => d.ok K) && moreH K)) = true := congrArg (fun z : AlQ => z.1) c
  exact List.all_eq_true.mp (He.ba c1).1 f hf
theorem more_of (c : obsK K = valK) : moreH K = true := by
  have c1 : ((faH.all fun f => f.ok K) && ((fnH.all fun d => d.ok K) && moreH K)) = true := congrArg (fun z : AlQ => z.1) c
  exact (He.ba (He.ba c1).2).2
theorem def_of (c : obsK K = valK) {d : He.DefD} (hd : d ∈ fnH) : ∃ fd, FunD K d.name d.qual d.params d.body d.scope (d.dvs K) (d.kws K) (He.fAd K d.at_) fd := by
  have c1 : ((faH.all fun f => f.ok K) && ((fnH.all fun d => d.ok K) && moreH K)) = true := congrArg (fun z : AlQ => z.1) c
  have c2 : (fnH.map fun d => He.fnW K d.at_) = fnH.map He.DefD.val := congrArg (fun z : AlQ => z.2.1) c
  obtain ⟨i, hi, e⟩ := List.mem_iff_getElem.mp hd
  have e2 : (fnH.map fun d => He.fnW K d.at_)[i]? = (fnH.map He.DefD.val)[i]? := by rw [c2]
  rw [List.getElem?_map, List.getElem?_map, List.getElem?_eq_getElem hi, e] at e2
  exact He.DefD.funD (Option.some.inj e2) (List.all_eq_true.mp (He.ba (He.ba c1).2).1 d hd)
theorem getter_of (c : obsK K = valK) : ∃ fd, FunD K d_Pool_is_done.name d_Pool_is_done.qual d_Pool_is_done.params d_Pool_is_done.body d_Pool_is_done.scope (d_Pool_is_done.dvs K) (d_Pool_is_done.kws K) (getA K) fd := by
  have c2 : seenAt K (getA K) = d_Pool_is_done.val := congrArg (fun z : AlQ => z.2.2) c
  have m := more_of c
  unfold moreH at m
  obtain ⟨_, m⟩ := He.ba m
  obtain ⟨_, m⟩ := He.ba m
  obtain ⟨_, m⟩ := He.ba m
  obtain ⟨_, m⟩ := He.ba m
  obtain ⟨_, m⟩ := He.ba m
  exact fun_at c2 m
theorem prop_of (c : obsK K = valK) : PropOf K (caK K .pool) "is_done" (He.ma K (He.ga K "Pool") "is_done") (getA K) := by
  have m := more_of c
  unfold moreH at m
  obtain ⟨_, m⟩ := He.ba m
  obtain ⟨m1, m⟩ := He.ba m
  obtain ⟨m2, m⟩ := He.ba m
  obtain ⟨m3, m⟩ := He.ba m
  obtain ⟨m4, m⟩ := He.ba m
  refine ⟨He.eqO_ok m1, He.eqO_ok m2, of_decide_eq_true m3, ?_⟩
  unfold getA
  cases e : PySem.W.recIn K (He.ma K (He.ga K "Pool") "is_done") "property" with
  | none => rw [e] at m4; cases m4
  | some l =>
    rw [e] at m4
    cases l with
    | nil => cases m4
    | cons v rest =>
      cases v with
      | ref g => exact ⟨rest, rfl⟩
      | _ => cases m4
theorem fa_glo {x : Str} (hx : x ∈ gdefs) : He.Fa.glo x ∈ faH := by
  unfold faH
  simp only [List.mem_append]
  exact .inr (.inr (.inr (.inr (.inl (List.mem_map.mpr ⟨x, hx, rfl⟩)))))
theorem fa_cls (cl : Cl) : He.Fa.cls cl.cname ∈ faH := by
  unfold faH
  simp only [List.mem_append]
  exact Or.inl (List.mem_map.mpr ⟨cl, clsL_all cl, rfl⟩)
theorem fa_noat (cl : Cl) {f : Str} (hf : f ∈ cl.names) : He.Fa.noat cl.cname f ∈ faH := by
  unfold faH
  simp only [List.mem_append]
  exact Or.inr (Or.inl (List.mem_flatMap.mpr ⟨cl, clsL_all cl, List.mem_map.mpr ⟨f, hf, rfl⟩⟩))
theorem fa_free {x : Str} (hx : x ∈ frees) : He.Fa.free x ∈ faH := by
  unfold faH
  simp only [List.mem_append]
  exact Or.inr (Or.inr (Or.inl (List.mem_map.mpr ⟨x, hx, rfl⟩)))
theorem fa_int {p : Str × Int} (hp : p ∈ gints) : He.Fa.int p.1 p.2 ∈ faH := by
  unfold faH
  simp only [List.mem_append]
  exact Or.inr (Or.inr (Or.inr (Or.inl (List.mem_map.mpr ⟨p, hp, rfl⟩))))
theorem fa_gcl (cl : Cl) : He.Fa.glo cl.cname ∈ faH := by
  unfold faH
  simp only [List.mem_append]
  exact Or.inr (Or.inr (Or.inr (Or.inr (Or.inr (Or.inl (List.mem_map.mpr ⟨cl, clsL_all cl, rfl⟩))))))
theorem fa_side : He.Fa.glo "SIDE_SIGNS" ∈ faH := by
  unfold faH
  simp only [List.mem_append]
  exact Or.inr (Or.inr (Or.inr (Or.inr (Or.inr (Or.inr (Or.inl List.mem_cons_self))))))
theorem fa_meth {p : Cl × Str} (hp : p ∈ meths) : He.Fa.meth p.1.cname p.2 ∈ faH := by
  unfold faH
  simp only [List.mem_append]
  exact Or.inr (Or.inr (Or.inr (Or.inr (Or.inr (Or.inr (Or.inr (Or.inl (List.mem_map.mpr ⟨p, hp, rfl⟩))))))))
theorem fa_mkr (cl : Cl) : He.Fa.mkr cl.cname ∈ faH := by
  unfold faH
  simp only [List.mem_append]
  exact Or.inr (Or.inr (Or.inr (Or.inr (Or.inr (Or.inr (Or.inr (Or.inr (List.mem_map.mpr ⟨cl, clsL_all cl, rfl⟩))))))))
theorem keys_all : (fnDefs.all fun d => !decide (d.at_ = (("is_done" : Str), some ("Pool" : Str))) || (d.qual == ("Pool.is_done" : Str))) = true := by decide +kernel
theorem done_all : ((List.range 78).all fun i => !decide ((fnDefs[i]?).map (fun d => d.qual == ("Pool.is_done" : Str)) = some true) || decide (i = 36)) = true := by decide +kernel
theorem meth_all : (meths.all fun p => !decide (p.2 = ("is_done" : Str))) = true := by decide +kernel
theorem keys_ok : ∀ d ∈ fnDefs, (d.qual == ("Pool.is_done" : Str)) = false → fadK K d.at_ = He.fAd K (keyH d).at_ := by
  intro d hd hq
  have hk := List.all_eq_true.mp keys_all d hd
  rw [hq, Bool.or_false] at hk
  obtain ⟨a, n, q, pa, bo, sc, df, kw⟩ := d
  obtain ⟨m, o⟩ := a
  cases o with
  | none => rfl
  | some cl =>
    show (if m = "is_done" ∧ cl = "Pool" then getA K else He.fAd K (cl, some m)) = He.fAd K (cl, some m)
    rw [if_neg]
    rintro ⟨rfl, rfl⟩
    have hk : (!decide (((("is_done" : Str), some ("Pool" : Str)) : Str × Option Str) = (("is_done" : Str), some ("Pool" : Str)))) = true := hk
    rw [decide_eq_true (Eq.refl (((("is_done" : Str), some ("Pool" : Str)) : Str × Option Str)))] at hk
    cases hk
theorem txt_of (X : K.In h) (G : h.Ns mainGlobals mg) (c : obsK K = valK) : Txt K mg (caK K) (fadK K) where
  cls := fun cl => He.cls_ok (facts_of c (fa_cls cl))
  na := fun cl i f hf => He.noat_ok (facts_of c (fa_noat cl (List.mem_of_getElem? hf)))
  fr := fun x hx => He.free_ok X G (facts_of c (fa_free hx))
  gi := fun p hp => He.int_ok X G (facts_of c (fa_int hp))
  side0 := by
    have m := more_of c
    unfold moreH at m
    obtain ⟨m1, _⟩ := He.ba m
    exact ⟨He.ga K "SIDE_SIGNS", He.glo_ok X G (facts_of c fa_side), He.tupB_ok m1⟩
  fn := fun i d hi => by
    have hd := List.mem_of_getElem? hi
    cases hq : (d.qual == ("Pool.is_done" : Str)) with
    | true =>
      have hl := (List.getElem?_eq_some_iff.mp hi).1
      have hk := List.all_eq_true.mp done_all i (List.mem_range.mpr hl)
      rw [hi, Option.map_some, hq, decide_eq_true rfl, Bool.not_true, Bool.false_or] at hk
      have e := of_decide_eq_true hk
      subst e
      have e : d = d_Pool_is_done := (Option.some.inj hi).symm
      subst e
      obtain ⟨fd, F⟩ := getter_of c
      exact ⟨fd, F⟩
    | false =>
      have hm : keyH d ∈ fnH := List.mem_map.mpr ⟨d, List.mem_filter.mpr ⟨hd, by rw [hq]; rfl⟩, rfl⟩
      obtain ⟨fd, F⟩ := def_of c hm
      rw [← keys_ok d hd hq] at F
      refine ⟨fd, ?_⟩
      obtain ⟨a, n, q, pa, bo, sc, df, kw⟩ := d
      obtain ⟨m, o⟩ := a
      cases o <;> exact F
  gl := fun i x hx => He.glo_ok X G (facts_of c (fa_glo (List.mem_of_getElem? hx)))
  me := fun i p hp => by
    have hp := List.mem_of_getElem? hp
    have F := He.meth_ok (facts_of c (fa_meth hp))
    have hk := List.all_eq_true.mp meth_all p hp
    have e : fadK K (p.2, some p.1.cname) = He.ma K (He.ga K p.1.cname) p.2 := by
      show (if p.2 = "is_done" ∧ p.1.cname = "Pool" then getA K else He.fAd K (p.1.cname, some p.2)) = _
      rw [if_neg (by rintro ⟨z, _⟩; rw [decide_eq_true z] at hk; cases hk)]
      rfl
    rw [e]
    exact F
  mkr := fun cl => by
    refine ⟨?_, He.glo_ok X G (facts_of c (fa_gcl cl))⟩
    have e : fadK K ("__init__", some cl.cname) = He.ma K (He.ga K cl.cname) "__init__" := by
      show (if ("__init__" : Str) = "is_done" ∧ cl.cname = "Pool" then getA K else He.fAd K (cl.cname, some "__init__")) = _
      rw [if_neg (by intro z; exact absurd z.1 (by decide +kernel))]
      rfl
    rw [e]
    exact He.mkr_ok (facts_of c (fa_mkr cl))
  pr := ⟨_, by
    have e : fadK K ("is_done", some "Pool") = getA K := by
      show (if ("is_done" : Str) = "is_done" ∧ ("Pool" : Str) = "Pool" then getA K else He.fAd K ("Pool", some "is_done")) = _
      rw [if_pos ⟨rfl, rfl⟩]
    show PropOf K (caK K .pool) "is_done" _ (fadK K ("is_done", some "Pool"))
    rw [e]
    exact prop_of c⟩
end
end Cw

set_option Elab.async false
set_option linter.all false
set_option maxRecDepth 100000
set_option maxHeartbeats 0
namespace Cw
open PySem PySem.Spec PyProof.Rows L2 DL
theorem law_sp {K : PySem.W.Frag} {ca : Cl → Addr} {H : Hp} {a : Addr} {ns : List Int} (hl : ns.length ≤ 63) (hS : SqL K H a (ns.map V.int)) : SpOf K ca S_law [.ref a] H (fun v _ => v = .bl true) fun _ _ _ => False := by
  refine ⟨H, [], [.scr ns], fun d _ => d = .bl true, ⟨Ex.refl H, List.nodup_nil, fun q hq => (List.not_mem_nil hq).elim, fun q hq => (List.not_mem_nil hq).elim⟩, RpA.cons ⟨a, rfl, hS⟩ RpA.nil, ⟨ns, rfl, by omega, rfl, rfl⟩, ?_⟩
  rintro B' st' H' v d _ _ r rfl
  exact r
end Cw
open PySem PySem.W PySem.Calls PyProof.Rows
namespace CwEnd
theorem walk_all : WalkO qv Cw.names (XL qv []) Cw.hk.says R.toRowW dL [] (fun f vs => PySem.call f vs) := by
  refine L2.walk_ofE (l := PySem.Challenge.rw_cutworths_k77_whole_all_weavings_of_two) (n := 63) (k := 22) (x := "_law_script") (CX := L2.CX0) rfl (by decide) (by kernel_rfl) ⟨rfl, by decide, by decide⟩ ?F (fun _ _ _ _ z => z)
  intro w mg fa h Y G hmg0
  obtain ⟨K, KX, c⟩ := Y
  have hmg : mg ("law" : PySem.Str) = some (.ref fa) := by
    have e : (dL).name = ("law" : PySem.Str) := by kernel_rfl
    rw [← e]
    exact hmg0
  have T := Cw.txt_of KX G c
  have eg := T.gl 44 (x := "law") rfl
  rw [hmg] at eg
  have eg : fa = Cw.fadK K ("law", none) := by
    injection eg with eg
    injection eg
  subst eg
  obtain ⟨fd, F⟩ := T.fn 77 (d := Cw.d_law) rfl
  have b := L2.FunD.bindsA (ps := ["_law_script"]) F fun _ _ _ _ _ _ us hl => match us, hl with | [_], _ => rfl
  exact ⟨K, fd, DL.SpOf K (Cw.caK K) Cw.S_law, KX, fun s v => b s [v] rfl, fun H a ns hl _ hS => Cw.law_sp hl hS, fun base _ _ => Cw.of_law (k := 0) T F⟩
end CwEnd
theorem PySem.Challenge.cw_cutworths_k77_whole_all_weavings_of_two_holds : PySem.Challenge.rw_cutworths_k77_whole_all_weavings_of_two.Holds := by
  refine CwEnd.begun fun said => ?_
  exact HandSHeadRun.head_any (r := CwEnd.R) (q := CwEnd.qv) (H := Cw.hk) (ob := Cw.ob) (M := 20000) (loose := Cw.names) (d := CwEnd.dL) (kwd := []) Cw.ob_eq CwEnd.e1 CwEnd.e2 Cw.run CwEnd.e3 CwEnd.e4 CwEnd.e5 rfl said CwEnd.e6 CwEnd.e7 CwEnd.e8 CwEnd.walk_all

