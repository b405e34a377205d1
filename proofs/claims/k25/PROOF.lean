import PyProof.Rows.All
import Wide.All
import OpenK.AllK
import Wide.FinOn
import HandS.ForMost
import HandS.IsInst
import HandS.Style
import HandS.Wide
import HandS.Exc
import HandS.WordsExc
import PyProof.InstNe
import HandS.Conv
import HandS.SortRule
import HandS.Property
import HandS.DictComp
import HandS.TryOnly
import HandS.Flt
import HandS.ExcInit
import HandS.Nested
import KE.KExcSuper
import PyProof.ReprLen
import PySem.Challenge.RW_searchback_k25_whole_likenesses_lead_on
set_option Elab.async false
set_option linter.all false
set_option maxRecDepth 100000
set_option maxHeartbeats 4000000
/-! Values as trees. -/
namespace Dx
open PySem L2
abbrev Fg := PySem.W.Frag
/-- a value as a tree -/
inductive D where
  | non | bl (b : Bool) | int (i : Int) | str (x : Str)
  | lst (ds : List D) | tup (ds : List D)
  | dic (ks : List Key) (ds : List D)
  | obj (C : Addr) (ns : List Str) (ds : List D)
  | scr (ns : List Int)
section
variable (K : Fg)
mutual
/-- the value v stands for the tree d, by objects that do not change any more -/
inductive Rp : Hp → V → D → Prop
  | non {G} : Rp G .non .non
  | bl {G} (b : Bool) : Rp G (.bl b) (.bl b)
  | int {G} (i : Int) : Rp G (.int i) (.int i)
  | str {G} (x : Str) : Rp G (.str x) (.str x)
  | lst {G a xs ds} : G a = some (.lst xs) → RpL G xs ds → Rp G (.ref a) (.lst ds)
  | tup {G a xs ds} : SqT K G a xs → RpL G xs ds → Rp G (.ref a) (.tup ds)
  | dic {G a kvs ks ds} : G a = some (.dK kvs) → kvs.map (·.1) = ks → RpL G (kvs.map (·.2)) ds → Rp G (.ref a) (.dic ks ds)
  | obj {G a C dx fs ns ds} : G a = some (.ins C dx fs) → fs.map (·.1) = ns → RpL G (fs.map (·.2)) ds → Rp G (.ref a) (.obj C ns ds)
  | scr {G a ns} : SqL K G a (ns.map V.int) → Rp G (.ref a) (.scr ns)
inductive RpL : Hp → List V → List D → Prop
  | nil {G} : RpL G [] []
  | cons {G v vs d ds} : Rp G v d → RpL G vs ds → RpL G (v :: vs) (d :: ds)
end
end
section
variable {K : Fg}
theorem sqT_mono {H H' : Hp} {a : Addr} {xs : List V} (e : Same H H') (h : SqT K H a xs) : SqT K H' a xs := by
  rcases h with (h | ⟨o, h⟩) | h
  · exact .inl (.inl (e _ _ h))
  · exact .inl (.inr ⟨o, e _ _ h⟩)
  · exact .inr h
theorem sqL_mono {H H' : Hp} {a : Addr} {xs : List V} (e : Same H H') (h : SqL K H a xs) : SqL K H' a xs := Same.seq e h
mutual
theorem Rp.mono {G G' : Hp} (e : Same G G') : ∀ {v : V} {d : D}, Rp K G v d → Rp K G' v d
  | _, _, .non => .non
  | _, _, .bl b => .bl b
  | _, _, .int i => .int i
  | _, _, .str x => .str x
  | _, _, .lst h t => .lst (e _ _ h) (RpL.mono e t)
  | _, _, .tup h t => .tup (sqT_mono e h) (RpL.mono e t)
  | _, _, .dic h k t => .dic (e _ _ h) k (RpL.mono e t)
  | _, _, .obj h k t => .obj (e _ _ h) k (RpL.mono e t)
  | _, _, .scr h => .scr (sqL_mono e h)
theorem RpL.mono {G G' : Hp} (e : Same G G') : ∀ {vs : List V} {ds : List D}, RpL K G vs ds → RpL K G' vs ds
  | _, _, .nil => .nil
  | _, _, .cons h t => .cons (Rp.mono e h) (RpL.mono e t)
end
variable {G : Hp}
theorem RpL.length : ∀ {vs : List V} {ds : List D}, RpL K G vs ds → vs.length = ds.length
  | _, _, .nil => rfl
  | _, _, .cons _ t => by rw [List.length_cons, List.length_cons, RpL.length t]
theorem RpL.get : ∀ {vs : List V} {ds : List D} {i : Nat} {v : V}, RpL K G vs ds → vs[i]? = some v → ∃ d, ds[i]? = some d ∧ Rp K G v d
  | _, _, _, _, .nil, e => by simp at e
  | _, _, 0, _, .cons r _, e => by simp at e; subst e; exact ⟨_, rfl, r⟩
  | _, _, i + 1, v, .cons _ t, e => by
    obtain ⟨d, h1, h2⟩ := RpL.get (i := i) (v := v) t (by simpa using e)
    exact ⟨d, by simpa using h1, h2⟩
theorem RpL.at : ∀ {vs : List V} {ds : List D} {i : Nat} {d : D}, RpL K G vs ds → ds[i]? = some d → ∃ v, vs[i]? = some v ∧ Rp K G v d
  | _, _, _, _, .nil, e => by simp at e
  | _, _, 0, _, .cons r _, e => by simp at e; subst e; exact ⟨_, rfl, r⟩
  | _, _, i + 1, d, .cons _ t, e => by
    obtain ⟨v, h1, h2⟩ := RpL.at (i := i) (d := d) t (by simpa using e)
    exact ⟨v, by simpa using h1, h2⟩
theorem RpL.append : ∀ {vs ws : List V} {ds es : List D}, RpL K G vs ds → RpL K G ws es → RpL K G (vs ++ ws) (ds ++ es)
  | _, _, _, _, .nil, s => s
  | _, _, _, _, .cons r t, s => .cons r (RpL.append t s)
theorem RpL.set {v : V} {d : D} (r : Rp K G v d) : ∀ {vs : List V} {ds : List D} (i : Nat), RpL K G vs ds → RpL K G (vs.set i v) (ds.set i d)
  | _, _, _, .nil => .nil
  | _, _, 0, .cons _ t => .cons r t
  | _, _, i + 1, .cons q t => .cons q (RpL.set r i t)
theorem RpL.take : ∀ {vs : List V} {ds : List D} (n : Nat), RpL K G vs ds → RpL K G (vs.take n) (ds.take n)
  | _, _, 0, _ => .nil
  | _, _, _ + 1, .nil => .nil
  | _, _, n + 1, .cons r t => .cons r (RpL.take n t)
theorem RpL.drop : ∀ {vs : List V} {ds : List D} (n : Nat), RpL K G vs ds → RpL K G (vs.drop n) (ds.drop n)
  | _, _, 0, r => r
  | _, _, _ + 1, .nil => .nil
  | _, _, n + 1, .cons _ t => RpL.drop n t
theorem RpL.erase : ∀ {vs : List V} {ds : List D} (i : Nat), RpL K G vs ds → RpL K G (vs.eraseIdx i) (ds.eraseIdx i)
  | _, _, _, .nil => .nil
  | _, _, 0, .cons _ t => t
  | _, _, i + 1, .cons r t => .cons r (RpL.erase i t)
theorem RpL.reverse : ∀ {vs : List V} {ds : List D}, RpL K G vs ds → RpL K G vs.reverse ds.reverse
  | _, _, .nil => .nil
  | _, _, .cons r t => by
    rw [List.reverse_cons, List.reverse_cons]
    exact RpL.append (RpL.reverse t) (.cons r .nil)
theorem RpL.nil_iff {vs : List V} {ds : List D} (r : RpL K G vs ds) : vs.isEmpty = ds.isEmpty := by
  cases r <;> rfl
theorem RpL.ints : ∀ (ns : List Int), RpL K G (ns.map V.int) (ns.map D.int)
  | [] => .nil
  | n :: r => .cons (.int n) (RpL.ints r)
theorem RpL.toInts : ∀ {ns : List Int} {vs : List V}, RpL K G vs (ns.map D.int) → vs = ns.map V.int
  | [], _, .nil => rfl
  | n :: r, _, .cons (.int _) t => by rw [List.map_cons, RpL.toInts t]
theorem RpL.toStrs : ∀ {ns : List Str} {vs : List V}, RpL K G vs (ns.map D.str) → vs = ns.map V.str
  | [], _, .nil => rfl
  | n :: r, _, .cons (.str _) t => by rw [List.map_cons, RpL.toStrs t]
theorem RpL.toBls : ∀ {ns : List Bool} {vs : List V}, RpL K G vs (ns.map D.bl) → vs = ns.map V.bl
  | [], _, .nil => rfl
  | n :: r, _, .cons (.bl _) t => by rw [List.map_cons, RpL.toBls t]
end

/-! ### slots -/
inductive Slot where
  | un | val (d : D) | own (d : D) | hand | pin
/-- what is the same through a def's whole run: the hand's address, the heap at the entry, what did not change any more there -/
structure Fx where
  p : Option Addr
  H0 : Hp
  G0 : Hp
/-- an object that one name alone holds -/
def OwnAt (K : Fg) (G H : Hp) (a : Addr) : D → Prop
  | .lst ds => ∃ xs, H a = some (.lst xs) ∧ RpL K G xs ds
  | .dic ks ds => ∃ kvs, H a = some (.dK kvs) ∧ kvs.map (·.1) = ks ∧ RpL K G (kvs.map (·.2)) ds
  | .obj C ns ds => ∃ dx fs, H a = some (.ins C dx fs) ∧ fs.map (·.1) = ns ∧ RpL K G (fs.map (·.2)) ds
  | _ => False
theorem OwnAt.there {K : Fg} {G H : Hp} {a : Addr} {d : D} (h : OwnAt K G H a d) : ∃ o, H a = some o := by
  cases d <;> first | exact h.elim | (obtain ⟨_, h, _⟩ := h; exact ⟨_, h⟩) | (obtain ⟨_, _, h, _⟩ := h; exact ⟨_, h⟩)
theorem OwnAt.to {K : Fg} {G G' H H' : Hp} {a : Addr} {d : D} (h : OwnAt K G H a d) (e : Same G G') (k : ∀ o, H a = some o → H' a = some o) : OwnAt K G' H' a d := by
  cases d with
  | lst ds => obtain ⟨xs, h1, h2⟩ := h; exact ⟨xs, k _ h1, h2.mono e⟩
  | dic ks ds => obtain ⟨xs, h1, h2, h3⟩ := h; exact ⟨xs, k _ h1, h2, h3.mono e⟩
  | obj C ns ds => obtain ⟨dx, xs, h1, h2, h3⟩ := h; exact ⟨dx, xs, k _ h1, h2, h3.mono e⟩
  | _ => exact h.elim
/-- the law's hand: its cells (they never change), where it stands -/
def HandAt (K : Fg) (G H : Hp) (q : Addr) : Prop := ∃ (c : Addr) (cells : List Int) (i r t : Int), H q = some (.lst [.ref c, .int i, .int r, .int t]) ∧ SqL K G c (cells.map V.int) ∧
  (∀ x ∈ cells, 0 ≤ x) ∧ cells.length ≤ 63 ∧ 0 ≤ i ∧ i ≤ cells.length ∧ 0 ≤ r ∧ 0 ≤ t ∧ t < 2147483629
theorem HandAt.there {K : Fg} {G H : Hp} {q : Addr} (h : HandAt K G H q) : ∃ o, H q = some o := by
  obtain ⟨c, cells, i, r, t, h, _⟩ := h
  exact ⟨_, h⟩
theorem HandAt.to {K : Fg} {G G' H H' : Hp} {q : Addr} (h : HandAt K G H q) (e : Same G G') (k : ∀ o, H q = some o → H' q = some o) : HandAt K G' H' q := by
  obtain ⟨c, cells, i, r, t, h1, h2, h3⟩ := h
  exact ⟨c, cells, i, r, t, k _ h1, sqL_mono e h2, h3⟩
abbrev Sl := List Slot
inductive Sls (K : Fg) (F : Fx) (G H : Hp) : L2.St → Sl → List Addr → Prop
  | nil : Sls K F G H [] [] []
  | un {x σ sl as} : Sls K F G H σ sl as → Sls K F G H (x :: σ) (.un :: sl) as
  | val {v d σ sl as} : Rp K G v d → Sls K F G H σ sl as → Sls K F G H (some v :: σ) (.val d :: sl) as
  | own {a d σ sl as} : OwnAt K G H a d → G a = none → F.H0 a = none → F.p ≠ some a → a ∉ as → Sls K F G H σ sl as → Sls K F G H (some (.ref a) :: σ) (.own d :: sl) (a :: as)
  | hand {q σ sl as} : F.p = some q → (∃ xs, F.H0 q = some (.lst xs)) → Sls K F G H σ sl as → Sls K F G H (some (.ref q) :: σ) (.hand :: sl) as
  | pin {q σ sl as} : F.p = some q → Sls K F G H σ sl as → Sls K F G H (some (.ref q) :: σ) (.pin :: sl) as
section
variable {K : Fg} {F : Fx} {G G' H H' : Hp}
theorem Sls.heap (e : Same G G') : ∀ {σ : St} {sl : Sl} {as : List Addr}, Sls K F G H σ sl as → (∀ a ∈ as, ∀ o, H a = some o → H' a = some o) → (∀ a ∈ as, G' a = none) → Sls K F G' H' σ sl as
  | _, _, _, .nil, _, _ => .nil
  | _, _, _, .un t, k, n => .un (Sls.heap e t k n)
  | _, _, _, .val r t, k, n => .val (r.mono e) (Sls.heap e t k n)
  | _, _, _, .own o g h p m t, k, n => .own (o.to e (k _ List.mem_cons_self)) (n _ List.mem_cons_self) h p m (Sls.heap e t (fun a ha => k a (List.mem_cons_of_mem _ ha)) fun a ha => n a (List.mem_cons_of_mem _ ha))
  | _, _, _, .hand p lx t, k, n => .hand p lx (Sls.heap e t k n)
  | _, _, _, .pin p t, k, n => .pin p (Sls.heap e t k n)
theorem Sls.owned : ∀ {σ : St} {sl : Sl} {as : List Addr}, Sls K F G H σ sl as → ∀ a ∈ as, (∃ o, H a = some o) ∧ G a = none ∧ F.H0 a = none ∧ F.p ≠ some a
  | _, _, _, .nil, a, h => by cases h
  | _, _, _, .un t, a, h => Sls.owned t a h
  | _, _, _, .val _ t, a, h => Sls.owned t a h
  | _, _, _, .hand _ _ t, a, h => Sls.owned t a h
  | _, _, _, .pin _ t, a, h => Sls.owned t a h
  | _, _, _, .own o g h0 p m t, a, h => by
    rcases List.mem_cons.mp h with rfl | h
    · exact ⟨o.there, g, h0, p⟩
    · exact Sls.owned t a h
/-- a slot forgotten -/
theorem Sls.forget : ∀ {σ : St} {sl : Sl} {as : List Addr} (i : Nat) (x : Option V), Sls K F G H σ sl as → ∃ as', (∀ a ∈ as', a ∈ as) ∧ Sls K F G H (σ.set i x) (sl.set i .un) as'
  | _, _, _, i, _, .nil => ⟨[], fun _ h => h, by simpa using Sls.nil⟩
  | _, _, _, 0, x, .un t => ⟨_, fun _ h => h, .un t⟩
  | _, _, _, 0, x, .val _ t => ⟨_, fun _ h => h, .un t⟩
  | _, _, _, 0, x, .own _ _ _ _ _ t => ⟨_, fun _ h => List.mem_cons_of_mem _ h, .un t⟩
  | _, _, _, 0, x, .hand _ _ t => ⟨_, fun _ h => h, .un t⟩
  | _, _, _, 0, x, .pin _ t => ⟨_, fun _ h => h, .un t⟩
  | _, _, _, i + 1, x, .un t => let ⟨as', h, q⟩ := Sls.forget i x t; ⟨as', h, .un q⟩
  | _, _, _, i + 1, x, .val r t => let ⟨as', h, q⟩ := Sls.forget i x t; ⟨as', h, .val r q⟩
  | _, _, _, i + 1, x, .hand r lx t => let ⟨as', h, q⟩ := Sls.forget i x t; ⟨as', h, .hand r lx q⟩
  | _, _, _, i + 1, x, .pin r t => let ⟨as', h, q⟩ := Sls.forget i x t; ⟨as', h, .pin r q⟩
  | _, _, _, i + 1, x, .own (a := a) o g h0 p m t => let ⟨as', h, q⟩ := Sls.forget i x t
    ⟨a :: as', fun b hb => (List.mem_cons.mp hb).elim (fun e => e ▸ List.mem_cons_self) fun z => List.mem_cons_of_mem _ (h b z), .own o g h0 p (fun z => m (h _ z)) q⟩
theorem Sls.put {v : V} {d : D} (r : Rp K G v d) : ∀ {σ : St} {sl : Sl} {as : List Addr} (i : Nat), Sls K F G H σ sl as → ∃ as', (∀ a ∈ as', a ∈ as) ∧ Sls K F G H (σ.set i (some v)) (sl.set i (.val d)) as'
  | _, _, _, i, .nil => ⟨[], fun _ h => h, by simpa using Sls.nil⟩
  | _, _, _, 0, .un t => ⟨_, fun _ h => h, .val r t⟩
  | _, _, _, 0, .val _ t => ⟨_, fun _ h => h, .val r t⟩
  | _, _, _, 0, .own _ _ _ _ _ t => ⟨_, fun _ h => List.mem_cons_of_mem _ h, .val r t⟩
  | _, _, _, 0, .hand _ _ t => ⟨_, fun _ h => h, .val r t⟩
  | _, _, _, 0, .pin _ t => ⟨_, fun _ h => h, .val r t⟩
  | _, _, _, i + 1, .un t => let ⟨as', h, q⟩ := Sls.put r i t; ⟨as', h, .un q⟩
  | _, _, _, i + 1, .val r' t => let ⟨as', h, q⟩ := Sls.put r i t; ⟨as', h, .val r' q⟩
  | _, _, _, i + 1, .hand r' lx t => let ⟨as', h, q⟩ := Sls.put r i t; ⟨as', h, .hand r' lx q⟩
  | _, _, _, i + 1, .pin r' t => let ⟨as', h, q⟩ := Sls.put r i t; ⟨as', h, .pin r' q⟩
  | _, _, _, i + 1, .own (a := a) o g h0 p m t => let ⟨as', h, q⟩ := Sls.put r i t
    ⟨a :: as', fun b hb => (List.mem_cons.mp hb).elim (fun e => e ▸ List.mem_cons_self) fun z => List.mem_cons_of_mem _ (h b z), .own o g h0 p (fun z => m (h _ z)) q⟩
theorem Sls.putOwn {a : Addr} {d : D} (o : OwnAt K G H a d) (g : G a = none) (h0 : F.H0 a = none) (hp : F.p ≠ some a) {σ : L2.St} {sl : Sl} {as : List Addr} (s : Sls K F G H σ sl as) : ∀ (i : Nat), a ∉ as →
    ∃ as', (∀ b ∈ as', b = a ∨ b ∈ as) ∧ Sls K F G H (σ.set i (some (.ref a))) (sl.set i (.own d)) as' := by
  induction s with
  | nil => exact fun i n => ⟨[], fun _ h => .inr h, by simpa using Sls.nil⟩
  | un t ih =>
    rintro (_ | i) n
    · exact ⟨_, fun b h => List.mem_cons.mp h, .own o g h0 hp n t⟩
    · obtain ⟨as', h, q⟩ := ih i n
      exact ⟨as', h, .un q⟩
  | val r t ih =>
    rintro (_ | i) n
    · exact ⟨_, fun b h => List.mem_cons.mp h, .own o g h0 hp n t⟩
    · obtain ⟨as', h, q⟩ := ih i n
      exact ⟨as', h, .val r q⟩
  | hand r lx t ih =>
    rintro (_ | i) n
    · exact ⟨_, fun b h => List.mem_cons.mp h, .own o g h0 hp n t⟩
    · obtain ⟨as', h, q⟩ := ih i n
      exact ⟨as', h, .hand r lx q⟩
  | pin r t ih =>
    rintro (_ | i) n
    · exact ⟨_, fun b h => List.mem_cons.mp h, .own o g h0 hp n t⟩
    · obtain ⟨as', h, q⟩ := ih i n
      exact ⟨as', h, .pin r q⟩
  | @own b d' σ' sl' as0 o' g' h0' p' m t ih =>
    rintro (_ | i) n
    · exact ⟨_, fun b h => (List.mem_cons.mp h).imp id (List.mem_cons_of_mem _), .own o g h0 hp (fun z => n (List.mem_cons_of_mem _ z)) t⟩
    · obtain ⟨as', h, q⟩ := ih i (fun z => n (List.mem_cons_of_mem _ z))
      refine ⟨b :: as', fun c hc => ?_, Sls.own o' g' h0' p' (fun z => ?_) q⟩
      · rcases List.mem_cons.mp hc with e | z
        · exact .inr (e ▸ List.mem_cons_self)
        · exact (h c z).imp id (List.mem_cons_of_mem _)
      · rcases h b z with e | z
        · exact n (by rw [e]; exact List.mem_cons_self)
        · exact m z
theorem Sls.take : ∀ {σ : St} {sl : Sl} {as : List Addr} {i : Nat} {d : D}, Sls K F G H σ sl as → sl[i]? = some (.own d) →
    ∃ a as', σ[i]? = some (some (.ref a)) ∧ OwnAt K G H a d ∧ G a = none ∧ F.H0 a = none ∧ F.p ≠ some a ∧ a ∉ as' ∧ (∀ b ∈ as', b ∈ as) ∧ a ∈ as ∧ Sls K F G H σ (sl.set i .un) as'
  | _, _, _, _, _, .nil, e => by simp at e
  | _, _, _, 0, _, .un _, e => by simp at e
  | _, _, _, 0, _, .val _ _, e => by simp at e
  | _, _, _, 0, _, .hand _ _ _, e => by simp at e
  | _, _, _, 0, _, .pin _ _, e => by simp at e
  | _, _, _, 0, _, .own (a := a) o g h0 p m t, e => by
    simp at e
    subst e
    exact ⟨a, _, rfl, o, g, h0, p, m, fun b h => List.mem_cons_of_mem _ h, List.mem_cons_self, .un t⟩
  | _, _, _, i + 1, _, .un t, e => let ⟨a, as', h1, h2, h3, h4, h5, h6, h7, h9, h8⟩ := Sls.take (i := i) t (by simpa using e); ⟨a, as', by simpa using h1, h2, h3, h4, h5, h6, h7, h9, .un h8⟩
  | _, _, _, i + 1, _, .val r t, e => let ⟨a, as', h1, h2, h3, h4, h5, h6, h7, h9, h8⟩ := Sls.take (i := i) t (by simpa using e); ⟨a, as', by simpa using h1, h2, h3, h4, h5, h6, h7, h9, .val r h8⟩
  | _, _, _, i + 1, _, .hand r lx t, e => let ⟨a, as', h1, h2, h3, h4, h5, h6, h7, h9, h8⟩ := Sls.take (i := i) t (by simpa using e); ⟨a, as', by simpa using h1, h2, h3, h4, h5, h6, h7, h9, .hand r lx h8⟩
  | _, _, _, i + 1, _, .pin r t, e => let ⟨a, as', h1, h2, h3, h4, h5, h6, h7, h9, h8⟩ := Sls.take (i := i) t (by simpa using e); ⟨a, as', by simpa using h1, h2, h3, h4, h5, h6, h7, h9, .pin r h8⟩
  | _, _, _, i + 1, _, .own (a := b) o g h0 p m t, e => let ⟨a, as', h1, h2, h3, h4, h5, h6, h7, h9, h8⟩ := Sls.take (i := i) t (by simpa using e)
    ⟨a, b :: as', by simpa using h1, h2, h3, h4, h5, fun z => (List.mem_cons.mp z).elim (fun e => m (by rw [← e]; exact h9)) h6, fun c hc => (List.mem_cons.mp hc).elim (fun e => e ▸ List.mem_cons_self) fun z => List.mem_cons_of_mem _ (h7 c z),
      List.mem_cons_of_mem _ h9, .own o g h0 p (fun z => m (h7 _ z)) h8⟩
theorem Sls.valAt : ∀ {σ : St} {sl : Sl} {as : List Addr} {i : Nat} {d : D}, Sls K F G H σ sl as → sl[i]? = some (.val d) → ∃ v, σ[i]? = some (some v) ∧ Rp K G v d
  | _, _, _, _, _, .nil, e => by simp at e
  | _, _, _, 0, _, .un _, e => by simp at e
  | _, _, _, 0, _, .hand _ _ _, e => by simp at e
  | _, _, _, 0, _, .pin _ _, e => by simp at e
  | _, _, _, 0, _, .own _ _ _ _ _ _, e => by simp at e
  | _, _, _, 0, _, .val r _, e => by simp at e; subst e; exact ⟨_, rfl, r⟩
  | _, _, _, i + 1, _, .un t, e => let ⟨v, h1, h2⟩ := Sls.valAt (i := i) t (by simpa using e); ⟨v, by simpa using h1, h2⟩
  | _, _, _, i + 1, _, .val _ t, e => let ⟨v, h1, h2⟩ := Sls.valAt (i := i) t (by simpa using e); ⟨v, by simpa using h1, h2⟩
  | _, _, _, i + 1, _, .hand _ _ t, e => let ⟨v, h1, h2⟩ := Sls.valAt (i := i) t (by simpa using e); ⟨v, by simpa using h1, h2⟩
  | _, _, _, i + 1, _, .pin _ t, e => let ⟨v, h1, h2⟩ := Sls.valAt (i := i) t (by simpa using e); ⟨v, by simpa using h1, h2⟩
  | _, _, _, i + 1, _, .own _ _ _ _ _ t, e => let ⟨v, h1, h2⟩ := Sls.valAt (i := i) t (by simpa using e); ⟨v, by simpa using h1, h2⟩
theorem Sls.handAt : ∀ {σ : St} {sl : Sl} {as : List Addr} {i : Nat}, Sls K F G H σ sl as → sl[i]? = some .hand → ∃ q, F.p = some q ∧ σ[i]? = some (some (.ref q)) ∧ ∃ xs, F.H0 q = some (.lst xs)
  | _, _, _, _, .nil, e => by simp at e
  | _, _, _, 0, .un _, e => by simp at e
  | _, _, _, 0, .val _ _, e => by simp at e
  | _, _, _, 0, .own _ _ _ _ _ _, e => by simp at e
  | _, _, _, 0, .pin _ _, e => by simp at e
  | _, _, _, 0, .hand r lx _, e => ⟨_, r, rfl, lx⟩
  | _, _, _, i + 1, .un t, e => let ⟨v, h1, h2, h3⟩ := Sls.handAt (i := i) t (by simpa using e); ⟨v, h1, by simpa using h2, h3⟩
  | _, _, _, i + 1, .val _ t, e => let ⟨v, h1, h2, h3⟩ := Sls.handAt (i := i) t (by simpa using e); ⟨v, h1, by simpa using h2, h3⟩
  | _, _, _, i + 1, .hand _ _ t, e => let ⟨v, h1, h2, h3⟩ := Sls.handAt (i := i) t (by simpa using e); ⟨v, h1, by simpa using h2, h3⟩
  | _, _, _, i + 1, .pin _ t, e => let ⟨v, h1, h2, h3⟩ := Sls.handAt (i := i) t (by simpa using e); ⟨v, h1, by simpa using h2, h3⟩
  | _, _, _, i + 1, .own _ _ _ _ _ t, e => let ⟨v, h1, h2, h3⟩ := Sls.handAt (i := i) t (by simpa using e); ⟨v, h1, by simpa using h2, h3⟩
theorem Sls.pinAt : ∀ {σ : St} {sl : Sl} {as : List Addr} {i : Nat}, Sls K F G H σ sl as → sl[i]? = some .pin → ∃ q, F.p = some q ∧ σ[i]? = some (some (.ref q))
  | _, _, _, _, .nil, e => by simp at e
  | _, _, _, 0, .un _, e => by simp at e
  | _, _, _, 0, .val _ _, e => by simp at e
  | _, _, _, 0, .own _ _ _ _ _ _, e => by simp at e
  | _, _, _, 0, .hand _ _ _, e => by simp at e
  | _, _, _, 0, .pin r _, e => ⟨_, r, rfl⟩
  | _, _, _, i + 1, .un t, e => let ⟨v, h1, h2⟩ := Sls.pinAt (i := i) t (by simpa using e); ⟨v, h1, by simpa using h2⟩
  | _, _, _, i + 1, .val _ t, e => let ⟨v, h1, h2⟩ := Sls.pinAt (i := i) t (by simpa using e); ⟨v, h1, by simpa using h2⟩
  | _, _, _, i + 1, .hand _ _ t, e => let ⟨v, h1, h2⟩ := Sls.pinAt (i := i) t (by simpa using e); ⟨v, h1, by simpa using h2⟩
  | _, _, _, i + 1, .pin _ t, e => let ⟨v, h1, h2⟩ := Sls.pinAt (i := i) t (by simpa using e); ⟨v, h1, by simpa using h2⟩
  | _, _, _, i + 1, .own _ _ _ _ _ t, e => let ⟨v, h1, h2⟩ := Sls.pinAt (i := i) t (by simpa using e); ⟨v, h1, by simpa using h2⟩
theorem Sls.len : ∀ {σ : St} {sl : Sl} {as : List Addr}, Sls K F G H σ sl as → σ.length = sl.length
  | _, _, _, .nil => rfl
  | _, _, _, .un t => by rw [List.length_cons, List.length_cons, t.len]
  | _, _, _, .val _ t => by rw [List.length_cons, List.length_cons, t.len]
  | _, _, _, .hand _ _ t => by rw [List.length_cons, List.length_cons, t.len]
  | _, _, _, .pin _ t => by rw [List.length_cons, List.length_cons, t.len]
  | _, _, _, .own _ _ _ _ _ t => by rw [List.length_cons, List.length_cons, t.len]
end

/-- the pinned object: the law's hand, or an instance that stands as it stood at the entry -/
def PAt (K : Fg) (F : Fx) (G H : Hp) (q : Addr) : Prop := ((∃ xs, F.H0 q = some (.lst xs)) ∧ HandAt K G H q) ∨ ∃ C dx fs, F.H0 q = some (.ins C dx fs) ∧ H q = some (.ins C dx fs)
theorem PAt.there {K : Fg} {F : Fx} {G H : Hp} {q : Addr} (h : PAt K F G H q) : ∃ o, H q = some o := by
  rcases h with ⟨_, h⟩ | ⟨C, dx, fs, _, h⟩
  · exact h.there
  · exact ⟨_, h⟩
theorem PAt.to {K : Fg} {F : Fx} {G G' H H' : Hp} {q : Addr} (h : PAt K F G H q) (e : Same G G') (k : ∀ o, H q = some o → H' q = some o) : PAt K F G' H' q := by
  rcases h with ⟨l, h⟩ | ⟨C, dx, fs, h0, h⟩
  · exact .inl ⟨l, h.to e k⟩
  · exact .inr ⟨C, dx, fs, h0, k _ h⟩
/-- the state and its trees -/
structure Rel (K : Fg) (F : Fx) (G : Hp) (σ : St) (H : Hp) (sl : Sl) : Prop where
  ex : Same G H
  g0 : Same F.G0 G
  fr : ∀ a o, F.H0 a = some o → F.p ≠ some a → H a = some o
  gn : ∀ a o, G a = some o → F.G0 a = some o ∨ F.H0 a = none
  hand : ∀ q, F.p = some q → PAt K F G H q ∧ G q = none
  sls : ∃ as, Sls K F G H σ sl as
section
variable {K : Fg} {F : Fx} {G G' H H' : Hp} {σ : St} {sl : Sl} {a : Addr} {d : D} {i : Nat}
theorem set_same {α : Type} {l : List α} {i : Nat} {x : α} (h : l[i]? = some x) : l.set i x = l := by
  obtain ⟨hi, e⟩ := List.getElem?_eq_some_iff.mp h
  rw [← e]
  exact List.set_getElem_self hi
/-- a new address was new at the entry -/
theorem Rel.new0 (R : Rel K F G σ H sl) (h : H a = none) : F.H0 a = none ∧ F.p ≠ some a ∧ G a = none := by
  have hp : F.p ≠ some a := fun e => by
    obtain ⟨o, ho⟩ := (R.hand a e).1.there
    rw [h] at ho
    cases ho
  refine ⟨?_, hp, R.ex.free h⟩
  cases e : F.H0 a with
  | none => rfl
  | some o =>
    have z := R.fr a o e hp
    rw [h] at z
    cases z
/-- more that does not change, more objects -/
theorem Rel.ext (R : Rel K F G σ H sl) (e : Same G G') (ex : Same G' H') (eh : Same H H') (gn : ∀ a o, G' a = some o → G a = some o ∨ H a = none) : Rel K F G' σ H' sl := by
  obtain ⟨as, s⟩ := R.sls
  have nn : ∀ a, (∃ o, H a = some o) → G a = none → G' a = none := fun a ⟨o, ho⟩ hg => by
    cases q : G' a with
    | none => rfl
    | some u =>
      rcases gn a u q with z | z
      · rw [hg] at z; cases z
      · rw [ho] at z; cases z
  refine ⟨ex, fun b o q => e b o (R.g0 b o q), fun b o q hp => eh b o (R.fr b o q hp), fun b o q => ?_, fun q hq => ?_, as, s.heap e (fun b _ o q => eh b o q) fun b hb => ?_⟩
  · rcases gn b o q with z | z
    · exact R.gn b o z
    · exact .inr (R.new0 z).1
  · obtain ⟨h1, h2⟩ := R.hand q hq
    exact ⟨h1.to e (eh q), nn q h1.there h2⟩
  · obtain ⟨h1, h2, _⟩ := s.owned b hb
    exact nn b h1 h2
theorem same_new {H : Hp} {a : Addr} {o : HO} (h : H a = none) : Same H (upd H a o) := fun b u e => by rw [upd_ne (ne_of_none e h)]; exact e
theorem same_both {G H : Hp} {a : Addr} {o : HO} (e : Same G H) : Same (upd G a o) (upd H a o) := fun b u q => by
  by_cases hb : b = a
  · subst hb
    rw [upd_same] at q ⊢
    exact q
  · rw [upd_ne hb] at q ⊢
    exact e b u q
/-- a new object that will not change -/
theorem Rel.lay (R : Rel K F G σ H sl) (h : H a = none) (o : HO) : Same G (upd G a o) ∧ Rel K F (upd G a o) σ (upd H a o) sl :=
  ⟨same_new (R.ex.free h), R.ext (same_new (R.ex.free h)) (same_both R.ex) (same_new h) fun b u q => by
    by_cases hb : b = a
    · subst hb
      exact .inr h
    · rw [upd_ne hb] at q
      exact .inl q⟩
/-- a new object of one's own: at the front -/
theorem Rel.own (R : Rel K F G σ H sl) (h : H a = none) (o : HO) (ow : OwnAt K G (upd H a o) a d) : Rel K F G (some (.ref a) :: σ) (upd H a o) (.own d :: sl) := by
  have R' : Rel K F G σ (upd H a o) sl := R.ext (fun _ _ q => q) (fun b u q => same_new h b u (R.ex b u q)) (same_new h) fun b u q => .inl q
  obtain ⟨n1, n2, n3⟩ := R.new0 h
  obtain ⟨as, s⟩ := R.sls
  obtain ⟨h1, h2, h3, h4, h5, _⟩ := R'
  refine ⟨h1, h2, h3, h4, h5, a :: as, .own ow n3 n1 n2 (fun z => ?_) (s.heap (fun _ _ q => q) (fun b _ u q => same_new h b u q) fun b hb => (s.owned b hb).2.1)⟩
  obtain ⟨⟨u, hu⟩, _⟩ := s.owned a z
  rw [h] at hu
  cases hu
theorem Rel.put {v : V} (R : Rel K F G σ H sl) (r : Rp K G v d) (i : Nat) : Rel K F G (σ.set i (some v)) H (sl.set i (.val d)) := by
  obtain ⟨h1, h2, h3, h4, h5, as, s⟩ := R
  obtain ⟨as', _, s'⟩ := s.put r i
  exact ⟨h1, h2, h3, h4, h5, as', s'⟩
theorem Rel.forget (R : Rel K F G σ H sl) (i : Nat) (x : Option V) : Rel K F G (σ.set i x) H (sl.set i .un) := by
  obtain ⟨h1, h2, h3, h4, h5, as, s⟩ := R
  obtain ⟨as', _, s'⟩ := s.forget i x
  exact ⟨h1, h2, h3, h4, h5, as', s'⟩
/-- the front away -/
theorem Rel.tail {x : Option V} {y : Slot} (R : Rel K F G (x :: σ) H (y :: sl)) : Rel K F G σ H sl := by
  obtain ⟨h1, h2, h3, h4, h5, as, s⟩ := R
  cases s with
  | un t => exact ⟨h1, h2, h3, h4, h5, _, t⟩
  | val _ t => exact ⟨h1, h2, h3, h4, h5, _, t⟩
  | own _ _ _ _ _ t => exact ⟨h1, h2, h3, h4, h5, _, t⟩
  | hand _ _ t => exact ⟨h1, h2, h3, h4, h5, _, t⟩
  | pin _ t => exact ⟨h1, h2, h3, h4, h5, _, t⟩
/-- a value at the front -/
theorem Rel.front {v : V} (R : Rel K F G σ H sl) (r : Rp K G v d) : Rel K F G (some v :: σ) H (.val d :: sl) := by
  obtain ⟨h1, h2, h3, h4, h5, as, s⟩ := R
  exact ⟨h1, h2, h3, h4, h5, as, .val r s⟩
theorem Rel.frontVal {x : Option V} (R : Rel K F G (x :: σ) H (.val d :: sl)) : ∃ v, x = some v ∧ Rp K G v d := by
  obtain ⟨as, s⟩ := R.sls
  cases s with
  | val r t => exact ⟨_, rfl, r⟩
theorem Rel.frontOwn {x : Option V} (R : Rel K F G (x :: σ) H (.own d :: sl)) : ∃ a, x = some (.ref a) ∧ OwnAt K G H a d ∧ G a = none ∧ F.H0 a = none ∧ F.p ≠ some a := by
  obtain ⟨as, s⟩ := R.sls
  cases s with
  | own h1 h2 h3 h4 h5 t => exact ⟨_, rfl, h1, h2, h3, h4⟩
/-- the front's own object goes into a slot -/
theorem Rel.putOwn (R : Rel K F G (some (.ref a) :: σ) H (.own d :: sl)) (i : Nat) : Rel K F G (σ.set i (some (.ref a))) H (sl.set i (.own d)) := by
  obtain ⟨h1, h2, h3, h4, h5, as, s⟩ := R
  cases s with
  | own o g h0 p m t =>
    obtain ⟨as', _, s'⟩ := Sls.putOwn o g h0 p t i m
    exact ⟨h1, h2, h3, h4, h5, as', s'⟩
/-- a slot's own object comes to the front -/
theorem Rel.take (R : Rel K F G σ H sl) (h : sl[i]? = some (.own d)) : ∃ a, σ[i]? = some (some (.ref a)) ∧ Rel K F G (some (.ref a) :: σ) H (.own d :: sl.set i .un) := by
  obtain ⟨h1, h2, h3, h4, h5, as, s⟩ := R
  obtain ⟨a, as', e, o, g, h0, p, m, _, _, t⟩ := s.take h
  exact ⟨a, e, h1, h2, h3, h4, h5, a :: as', .own o g h0 p m t⟩
theorem Rel.back (R : Rel K F G (some (.ref a) :: σ) H (.own d :: sl.set i .un)) (e : σ[i]? = some (some (.ref a))) : Rel K F G σ H (sl.set i (.own d)) := by
  have q := R.putOwn i
  rw [set_same e, List.set_set] at q
  exact q
/-- the front's own object changes -/
theorem Rel.turn {d' : D} {o : HO} (R : Rel K F G (some (.ref a) :: σ) H (.own d :: sl)) (ow : OwnAt K G (upd H a o) a d') : Rel K F G (some (.ref a) :: σ) (upd H a o) (.own d' :: sl) := by
  obtain ⟨h1, h2, h3, h4, h5, as, s⟩ := R
  cases s with
  | own ow0 g h0 p m t =>
    have ne : ∀ b u, G b = some u → b ≠ a := fun b u q z => by rw [z, g] at q; cases q
    refine ⟨fun b u q => by rw [upd_ne (ne b u q)]; exact h1 b u q, h2, fun b u q hp => ?_, h4, fun q hq => ?_, _, .own ow g h0 p m (t.heap (fun _ _ q => q) (fun b hb u q => ?_) fun b hb => (t.owned b hb).2.1)⟩
    · rw [upd_ne (fun z => by rw [z, h0] at q; cases q)]
      exact h3 b u q hp
    · obtain ⟨k1, k2⟩ := h5 q hq
      exact ⟨k1.to (fun _ _ q => q) fun u z => by rw [upd_ne (fun z => p (by rw [hq, z]))]; exact z, k2⟩
    · rw [upd_ne (fun z => m (by rw [← z]; exact hb))]
      exact q
/-- the front's own object is closed: it will not change any more -/
theorem Rel.close (R : Rel K F G (some (.ref a) :: σ) H (.own d :: sl)) : ∃ G', Same G G' ∧ Rel K F G' σ H sl ∧ Rp K G' (.ref a) d ∧ (∀ b u, G' b = some u → G b = some u ∨ b = a) := by
  obtain ⟨h1, h2, h3, h4, h5, as, s⟩ := R
  cases s with
  | own ow g h0 p m t =>
    have go : ∀ o, H a = some o → Same G (upd G a o) ∧ Rel K F (upd G a o) σ H sl := fun o ho =>
      ⟨same_new g, fun b u q => by
        by_cases hb : b = a
        · subst hb
          rw [upd_same] at q
          cases q
          exact ho
        · rw [upd_ne hb] at q
          exact h1 b u q, fun b u q => same_new g b u (h2 b u q), h3, fun b u q => by
        by_cases hb : b = a
        · subst hb
          exact .inr h0
        · rw [upd_ne hb] at q
          exact h4 b u q, fun q hq => ⟨(h5 q hq).1.to (same_new g) fun _ z => z, by rw [upd_ne (fun z => p (by rw [hq, z]))]; exact (h5 q hq).2⟩, _,
        t.heap (same_new g) (fun _ _ _ z => z) fun b hb => by rw [upd_ne (fun z => m (by rw [← z]; exact hb))]; exact (t.owned b hb).2.1⟩
    have only : ∀ o b u, upd G a o b = some u → G b = some u ∨ b = a := fun o b u q => by
      by_cases hb : b = a
      · exact .inr hb
      · rw [upd_ne hb] at q
        exact .inl q
    cases d with
    | lst ds =>
      obtain ⟨xs, e1, e2⟩ := ow
      exact ⟨_, (go _ e1).1, (go _ e1).2, .lst upd_same (e2.mono (go _ e1).1), only _⟩
    | dic ks ds =>
      obtain ⟨xs, e1, e2, e3⟩ := ow
      exact ⟨_, (go _ e1).1, (go _ e1).2, .dic upd_same e2 (e3.mono (go _ e1).1), only _⟩
    | obj C ns ds =>
      obtain ⟨dx, xs, e1, e2, e3⟩ := ow
      exact ⟨_, (go _ e1).1, (go _ e1).2, .obj upd_same e2 (e3.mono (go _ e1).1), only _⟩
    | _ => exact ow.elim
theorem Rel.valAt (R : Rel K F G σ H sl) (h : sl[i]? = some (.val d)) : ∃ v, σ[i]? = some (some v) ∧ Rp K G v d := by
  obtain ⟨as, s⟩ := R.sls
  exact s.valAt h
theorem Rel.handIn (R : Rel K F G σ H sl) (h : sl[i]? = some .hand) : ∃ q, F.p = some q ∧ σ[i]? = some (some (.ref q)) ∧ HandAt K G H q ∧ G q = none := by
  obtain ⟨as, s⟩ := R.sls
  obtain ⟨q, h1, h2, xs, h3⟩ := s.handAt h
  obtain ⟨h4, h5⟩ := R.hand q h1
  rcases h4 with ⟨_, h4⟩ | ⟨C, dx, fs, h4, _⟩
  · exact ⟨q, h1, h2, h4, h5⟩
  · exact nomatch h3.symm.trans h4
end
end Dx
namespace Dx
open PySem L2
/-! ### readings over trees -/
/-- what is wanted of an exception: its tree, the slots -/
abbrev XP := D → Sl → Prop
abbrev DE := Sl → XP → (D → Sl → Prop) → Prop
abbrev DT := Sl → XP → (Bool → Sl → Prop) → Prop
abbrev DA := Sl → XP → (List D → Sl → Prop) → Prop
/-- an exception of the class at C with its own dict -/
def ExnAt (K : Fg) (G H : Hp) (cls : Value) (dd : Option Addr) : D → Prop
  | .obj C ns ds => cls = .ref C ∧ ((ns = [] ∧ ds = [] ∧ dd = none) ∨ ∃ d fs, dd = some d ∧ G d = some (.xd fs) ∧ fs.map (·.1) = ns ∧ RpL K G (fs.map (·.2)) ds)
  | _ => False
theorem ExnAt.mono {K : Fg} {G G' H H' : Hp} {cls : Value} {dd : Option Addr} {x : D} (h : ExnAt K G H cls dd x) (e : Same G G') : ExnAt K G' H' cls dd x := by
  cases x with
  | obj C ns ds =>
    obtain ⟨h1, h2⟩ := h
    refine ⟨h1, h2.imp id fun ⟨d, fs, a, b, c, r⟩ => ⟨d, fs, a, e _ _ b, c, r.mono e⟩⟩
  | _ => exact h.elim
/-- what the wish W asks at an exception x -/
def Thrown (K : Fg) (F : Fx) (W : WX) (G : Hp) (E : XP) : Prop := ∀ x sl', E x sl' → ∀ G' σ' H' cls dd, Same G G' → Rel K F G' σ' H' sl' → ExnAt K G' H' cls dd x → W cls dd σ' H'
theorem Thrown.mono {K : Fg} {F : Fx} {W : WX} {G G' : Hp} {E : XP} (h : Thrown K F W G E) (e : Same G G') : Thrown K F W G' E := fun x sl q G1 σ1 H1 c d s R z => h x sl q G1 σ1 H1 c d (e.trans s) R z
def LE (K : Fg) (F : Fx) (W : WX) (δ : DE) : TE := fun σ H Q => ∃ G sl E P, Rel K F G σ H sl ∧ δ sl E P ∧ (∀ d sl', P d sl' → ∀ G' H' v, Same G G' → Rel K F G' σ H' sl' → Rp K G' v d → Q v H') ∧ Thrown K F W G E
def LT (K : Fg) (F : Fx) (W : WX) (δ : DT) : TT := fun σ H Q => ∃ G sl E P, Rel K F G σ H sl ∧ δ sl E P ∧ (∀ b sl', P b sl' → ∀ G' H', Same G G' → Rel K F G' σ H' sl' → Q b H') ∧ Thrown K F W G E
def LA (K : Fg) (F : Fx) (W : WX) (δ : DA) : TA := fun σ H Q => ∃ G sl E P, Rel K F G σ H sl ∧ δ sl E P ∧ (∀ ds sl', P ds sl' → ∀ G' H' vs, Same G G' → Rel K F G' σ H' sl' → RpL K G' vs ds → Q vs H') ∧ Thrown K F W G E
/-- a new object of one's own -/
def LN (K : Fg) (F : Fx) (W : WX) (δ : DE) : TE := fun σ H Q => ∃ G sl E P, Rel K F G σ H sl ∧ δ sl E P ∧ (∀ d sl', P d sl' → ∀ G' H' a, Same G G' → Rel K F G' (some (.ref a) :: σ) H' (.own d :: sl') → Q (.ref a) H') ∧ Thrown K F W G E
structure QE (X : Cx) (F : Fx) (W : WX) (e : Expr) (δ : DE) : Prop where
  run : PE X e (LE X.K F W δ)
structure QN (X : Cx) (F : Fx) (W : WX) (e : Expr) (δ : DE) : Prop where
  run : PE X e (LN X.K F W δ)
structure QT (X : Cx) (F : Fx) (W : WX) (e : Expr) (δ : DT) : Prop where
  run : PT X e (LT X.K F W δ)
structure QW (X : Cx) (F : Fx) (W : WX) (e : Expr) (δ : DT) : Prop where
  run : PW X e (LT X.K F W δ)
structure QA (X : Cx) (F : Fx) (W : WX) (es : List Expr) (δ : DA) : Prop where
  run : PA X es (LA X.K F W δ)
theorem pe_imp {X : Cx} {e : Expr} {t t' : TE} (h : PE X e t) (i : ∀ σ H Q, t' σ H Q → t σ H Q) : PE X e t' := ⟨fun pins s σ H Q I q => h.run pins s σ H Q I (i σ H Q q)⟩
theorem pt_imp {X : Cx} {e : Expr} {t t' : TT} (h : PT X e t) (i : ∀ σ H Q, t' σ H Q → t σ H Q) : PT X e t' := ⟨fun pins s σ H Q I q => h.run pins s σ H Q I (i σ H Q q)⟩
theorem pw_imp {X : Cx} {e : Expr} {t t' : TT} (h : PW X e t) (i : ∀ σ H Q, t' σ H Q → t σ H Q) : PW X e t' := ⟨fun wh pins s σ H Q I q => h.run wh pins s σ H Q I (i σ H Q q)⟩
theorem pa_imp {X : Cx} {e : List Expr} {t t' : TA} (h : PA X e t) (i : ∀ σ H Q, t' σ H Q → t σ H Q) : PA X e t' := ⟨fun pos pins s σ H Q I q => h.run pos pins s σ H Q I (i σ H Q q)⟩
/-- G and H have grown -/
structure Grown (G H G' H' : Hp) : Prop where
  g : Same G G'
  x : Same G' H'
  h : Same H H'
  n : ∀ a o, G' a = some o → G a = some o ∨ H a = none
section
variable {K : Fg} {F : Fx} {W : WX} {G H : Hp} {σ : L2.St} {sl : Sl}
theorem Grown.refl (e : Same G H) : Grown G H G H := ⟨Same.refl _, e, Same.refl _, fun _ _ h => .inl h⟩
theorem Rel.grown {G' H' : Hp} (R : Rel K F G σ H sl) (g : Grown G H G' H') : Rel K F G' σ H' sl := R.ext g.g g.x g.h g.n
theorem Grown.new {a : Addr} (e : Same G H) (h : H a = none) (o : HO) : Grown G H (upd G a o) (upd H a o) :=
  ⟨same_new (e.free h), same_both e, same_new h, fun b u q => by
    by_cases hb : b = a
    · subst hb
      exact .inr h
    · rw [upd_ne hb] at q
      exact .inl q⟩
/-- an object beside that nothing speaks of -/
theorem Grown.junk {a : Addr} (e : Same G H) (h : H a = none) (o : HO) : Grown G H G (upd H a o) :=
  ⟨Same.refl _, fun b u q => same_new h b u (e b u q), same_new h, fun _ _ q => .inl q⟩
end

/-! ### two-place and one-place operations -/
abbrev O2 := D → D → (D → Prop) → Prop
abbrev O1 := D → (D → Prop) → Prop
abbrev OA := List D → (D → Prop) → Prop
def Rf2 (K : Fg) (r : R2) (ρ : O2) : Prop := ∀ (G H : Hp) (x y : V) (d e : D) (P : D → Prop) (Q : VK), Same G H → Rp K G x d → Rp K G y e → ρ d e P → (∀ f, P f → ∀ G' H' v, Grown G H G' H' → Rp K G' v f → Q v H') → r x y H Q
def Rf1 (K : Fg) (r : V → Hp → VK → Prop) (ρ : O1) : Prop := ∀ (G H : Hp) (x : V) (d : D) (P : D → Prop) (Q : VK), Same G H → Rp K G x d → ρ d P → (∀ f, P f → ∀ G' H' v, Grown G H G' H' → Rp K G' v f → Q v H') → r x H Q
def RfA (K : Fg) (r : List V → Hp → VK → Prop) (ρ : OA) : Prop := ∀ (G H : Hp) (xs : List V) (ds : List D) (P : D → Prop) (Q : VK), Same G H → RpL K G xs ds → ρ ds P → (∀ f, P f → ∀ G' H' v, Grown G H G' H' → Rp K G' v f → Q v H') → r xs H Q
def dOp (ρ : O2) (α β : DE) : DE := fun sl E P => α sl E fun d sl1 => β sl1 E fun e sl2 => ρ d e fun f => P f sl2
def dUn (ρ : O1) (α : DE) : DE := fun sl E P => α sl E fun d sl1 => ρ d fun f => P f sl1
def dCl (ρ : OA) (α : DA) : DE := fun sl E P => α sl E fun ds sl1 => ρ ds fun f => P f sl1
section
variable {X : Cx} {F : Fx} {W : WX} {a b c e : Expr} {es : List Expr} {α β γ : DE} {pos : Pos} {i : Nat} {x : Str}
theorem LE.op {r : R2} {ρ : O2} (hr : Rf2 X.K r ρ) {σ : L2.St} {H : Hp} {Q : VK} (h : LE X.K F W (dOp ρ α β) σ H Q) : tOp r (LE X.K F W α) (LE X.K F W β) σ H Q := by
  obtain ⟨G, sl, E, P, R, h, k, kx⟩ := h
  refine ⟨G, sl, E, _, R, h, fun d sl1 h1 G1 H1 v1 s1 R1 r1 => ⟨G1, sl1, E, _, R1, h1, fun d2 sl2 h2 G2 H2 v2 s2 R2 r2 => ?_, kx.mono s1⟩, kx⟩
  exact hr G2 H2 v1 v2 d d2 _ _ R2.ex (r1.mono s2) r2 h2 fun f hf G3 H3 v3 g r3 => k f sl2 hf G3 H3 v3 (s1.trans (s2.trans g.g)) (R2.grown g) r3
theorem qe_op {op : Operator} {r : R2} {ρ : O2} (ho : OpR X (binaryOp op) r) (hr : Rf2 X.K r ρ) (ha : QE X F W a α) (hb : QE X F W b β) : QE X F W (.BinOp a op b pos) (dOp ρ α β) :=
  ⟨pe_imp (pe_op ho ha.run hb.run) fun _ _ _ h => h.op hr⟩
theorem qe_un {op : UnaryOp} {r : V → Hp → VK → Prop} {ρ : O1} (ho : UnR X (unaryOp op) r) (hr : Rf1 X.K r ρ) (ha : QE X F W a α) : QE X F W (.UnaryOp op a pos) (dUn ρ α) :=
  ⟨pe_imp (pe_un ho ha.run) fun σ H Q h => by
    obtain ⟨G, sl, E, P, R, h, k, kx⟩ := h
    exact ⟨G, sl, E, _, R, h, fun d sl1 h1 G1 H1 v1 s1 R1 r1 => hr G1 H1 v1 d _ _ R1.ex r1 h1 fun f hf G3 H3 v3 g r3 => k f sl1 hf G3 H3 v3 (s1.trans g.g) (R1.grown g) r3, kx⟩⟩
/-- a comparison -/
theorem qe_cmp {op : CmpOp} {r : R2} {ρ : O2} (ho : OpR X (compareOp op) r) (hr : Rf2 X.K r ρ) (ha : QE X F W a α) (hb : QE X F W b β) (hm : behindInMarks op b = false) : QE X F W (.Compare a [op] [b] pos) (dOp ρ α β) :=
  ⟨pe_imp (pe_cmpR ho ha.run hb.run hm) fun _ _ _ h => h.op hr⟩
/-- what gives True or False, as a test -/
def dTest (α : DE) : DT := fun sl E P => α sl E fun d sl1 => ∃ k, d = .bl k ∧ P k sl1
theorem qt_cmp {op : CmpOp} {r : R2} {ρ : O2} (ho : OpR X (compareOp op) r) (hr : Rf2 X.K r ρ) (ha : QE X F W a α) (hb : QE X F W b β) (hm : behindInMarks op b = false) : QT X F W (.Compare a [op] [b] pos) (dTest (dOp ρ α β)) :=
  ⟨pt_imp (pt_cmpR ho ha.run hb.run hm) fun σ H Q h => by
    obtain ⟨G, sl, E, P, R, h, k, kx⟩ := h
    refine LE.op (W := W) (F := F) hr (Q := fun x H' => ∃ k, x = .bl k ∧ Q k H') ⟨G, sl, E, _, R, h, fun d sl1 h1 G1 H1 v1 s1 R1 r1 => ?_, kx⟩
    obtain ⟨c, rfl, p⟩ := h1
    cases r1
    exact ⟨c, rfl, k c sl1 p G1 H1 s1 R1⟩⟩
theorem qt_val (h : QE X F W e α) (he : ∀ whole, isTrue e X.env whole = (do let v ← whole; standAt e.pos; holding [v] (truthy v)) := by intro _; rfl) : QT X F W e (dTest α) :=
  ⟨pt_imp (pt_val h.run he) fun σ H Q h => by
    obtain ⟨G, sl, E, P, R, h, k, kx⟩ := h
    refine ⟨G, sl, E, _, R, h, fun d sl1 h1 G1 H1 v1 s1 R1 r1 => ?_, kx⟩
    obtain ⟨c, rfl, p⟩ := h1
    cases r1
    exact ⟨c, rfl, k c sl1 p G1 H1 s1 R1⟩⟩
/-- a < b < c -/
def dChain (ρ ρ' : O2) (α β γ : DE) : DE := fun sl E P => α sl E fun d sl1 => β sl1 E fun e sl2 => ρ d e fun z => ∃ k, z = .bl k ∧ if k = true then γ sl2 E fun f sl3 => ρ' e f fun z' => P z' sl3 else P (.bl false) sl2

/-! ### names, constants -/
def dC (d : D) : DE := fun sl _ P => P d sl
def dVar (i : Nat) : DE := fun sl _ P => match sl[i]? with
  | some (.val d) => P d sl
  | some (.own d) => P d (sl.set i (.val d))
  | _ => False
theorem qe_var (hp : PE X e (tVar i)) : QE X F W e (dVar i) :=
  ⟨pe_imp hp fun σ H Q h => by
    obtain ⟨G, sl, E, P, R, h, k, kx⟩ := h
    unfold dVar at h
    split at h
    · rename_i d hd
      obtain ⟨v, e1, r⟩ := R.valAt hd
      exact ⟨v, e1, k d sl h G H v (Same.refl _) R r⟩
    · rename_i d hd
      obtain ⟨a, e1, R1⟩ := R.take hd
      obtain ⟨G', s, R2, r, _⟩ := R1.close
      have R3 := R2.put r i
      rw [set_same e1, List.set_set] at R3
      exact ⟨_, e1, k d _ h G' H _ s R3 r⟩
    · exact h.elim⟩
theorem qe_const {v : V} {d : D} (hp : PE X e (tC v)) (r : ∀ G, Rp X.K G v d) : QE X F W e (dC d) :=
  ⟨pe_imp hp fun σ H Q h => by
    obtain ⟨G, sl, E, P, R, h, k, kx⟩ := h
    exact k d sl h G H v (Same.refl _) R (r G)⟩
theorem qe_int {n : Int} {j pos} : QE X F W (.Constant (.int n) j pos) (dC (.int n)) := qe_const pe_int fun _ => .int n
theorem qe_bl {n : Bool} {j pos} : QE X F W (.Constant (.bool n) j pos) (dC (.bl n)) := qe_const pe_bl fun _ => .bl n
theorem qe_non {j pos} : QE X F W (.Constant .none j pos) (dC .non) := qe_const pe_non fun _ => .non
theorem qe_str {n : Str} {j pos} : QE X F W (.Constant (.str n) j pos) (dC (.str n)) := qe_const pe_str fun _ => .str n
/-- an argument list -/
def dNil : DA := fun sl _ P => P [] sl
def dCons (α : DE) (τ : DA) : DA := fun sl E P => α sl E fun d sl1 => τ sl1 E fun ds sl2 => P (d :: ds) sl2
theorem qa_nil : QA X F W [] dNil := ⟨pa_imp pa_nil fun σ H Q h => by
  obtain ⟨G, sl, E, P, R, h, k, kx⟩ := h
  exact k [] sl h G H [] (Same.refl _) R .nil⟩
theorem qa_cons {τ : DA} (ha : QE X F W e α) (hr : QA X F W es τ) (hs : starEach (e :: es) X.env = (false, eval e X.env) :: starEach es X.env := by rfl) : QA X F W (e :: es) (dCons α τ) :=
  ⟨pa_imp (pa_cons ha.run hr.run hs) fun σ H Q h => by
    obtain ⟨G, sl, E, P, R, h, k, kx⟩ := h
    refine ⟨G, sl, E, _, R, h, fun d sl1 h1 G1 H1 v1 s1 R1 r1 => ⟨G1, sl1, E, _, R1, h1, fun ds sl2 h2 G2 H2 vs s2 R2 r2 => ?_, kx.mono s1⟩, kx⟩
    exact k (d :: ds) sl2 h2 G2 H2 (v1 :: vs) (s1.trans s2) R2 (.cons (r1.mono s2) r2)⟩
/-- displays -/
def dTup (τ : DA) : DE := fun sl E P => τ sl E fun ds sl1 => ds.length ≤ sizeLine ∧ P (.tup ds) sl1
def dLst (τ : DA) : DE := fun sl E P => τ sl E fun ds sl1 => ds.length ≤ sizeLine ∧ P (.lst ds) sl1
theorem qe_tup {x1} {τ : DA} (h : QA X F W es τ) : QE X F W (.Tuple es x1 pos) (dTup τ) :=
  ⟨pe_imp (pe_tup h.run) fun σ H Q h => by
    obtain ⟨G, sl, E, P, R, h, k, kx⟩ := h
    refine ⟨G, sl, E, _, R, h, fun ds sl1 h1 G1 H1 vs s1 R1 r1 => ⟨by rw [r1.length]; exact h1.1, fun p hp => ?_⟩, kx⟩
    have g := Grown.new R1.ex hp (.tup vs)
    exact k _ sl1 h1.2 _ _ _ (s1.trans g.g) (R1.grown g) (.tup (SqT.of upd_same) (r1.mono g.g))⟩
theorem qe_lst {τ : DA} (h : QA X F W es τ) : QE X F W (.List es pos) (dLst τ) :=
  ⟨pe_imp (pe_lst h.run) fun σ H Q h => by
    obtain ⟨G, sl, E, P, R, h, k, kx⟩ := h
    refine ⟨G, sl, E, _, R, h, fun ds sl1 h1 G1 H1 vs s1 R1 r1 => ⟨by rw [r1.length]; exact h1.1, fun p hp => ?_⟩, kx⟩
    have g := Grown.new R1.ex hp (.lst vs)
    exact k _ sl1 h1.2 _ _ _ (s1.trans g.g) (R1.grown g) (.lst upd_same (r1.mono g.g))⟩
theorem qn_lst {τ : DA} (h : QA X F W es τ) : QN X F W (.List es pos) (dLst τ) :=
  ⟨pe_imp (pe_lst h.run) fun σ H Q h => by
    obtain ⟨G, sl, E, P, R, h, k, kx⟩ := h
    refine ⟨G, sl, E, _, R, h, fun ds sl1 h1 G1 H1 vs s1 R1 r1 => ⟨by rw [r1.length]; exact h1.1, fun p hp => ?_⟩, kx⟩
    exact k _ sl1 h1.2 _ _ _ s1 (R1.own hp (.lst vs) ⟨vs, upd_same, r1⟩)⟩
/-- a if t else b -/
def dIf (τ : DT) (α β : DE) : DE := fun sl E P => τ sl E fun k sl1 => if k = true then α sl1 E P else β sl1 E P
theorem qe_ifExp {τ : DT} (ht : QT X F W c τ) (ha : QE X F W a α) (hb : QE X F W b β) : QE X F W (.IfExp c a b pos) (dIf τ α β) :=
  ⟨pe_imp (pe_ifExp ht.run ha.run hb.run) fun σ H Q h => by
    obtain ⟨G, sl, E, P, R, h, k, kx⟩ := h
    refine ⟨G, sl, E, _, R, h, fun b sl1 h1 G1 H1 s1 R1 => ?_, kx⟩
    cases b with
    | true => exact ⟨G1, sl1, E, P, R1, h1, fun d sl2 p G2 H2 v s2 R2 r => k d sl2 p G2 H2 v (s1.trans s2) R2 r, kx.mono s1⟩
    | false => exact ⟨G1, sl1, E, P, R1, h1, fun d sl2 p G2 H2 v s2 R2 r => k d sl2 p G2 H2 v (s1.trans s2) R2 r, kx.mono s1⟩⟩

/-! ### and, or, not -/
def dAnd (τ υ : DT) : DT := fun sl E P => τ sl E fun k sl1 => if k = true then υ sl1 E P else P false sl1
def dOr (τ υ : DT) : DT := fun sl E P => τ sl E fun k sl1 => if k = true then P true sl1 else υ sl1 E P
def dNot (τ : DT) : DT := fun sl E P => τ sl E fun k sl1 => P (!k) sl1
variable {τ υ : DT} {rest : List Expr}
theorem qw_and1 (h : QT X F W a τ) : QW X F W (.BoolOp .And [a] pos) τ := ⟨pw_and1 h.run⟩
theorem qw_or1 (h : QT X F W a τ) : QW X F W (.BoolOp .Or [a] pos) τ := ⟨pw_or1 h.run⟩
theorem LT.cond {σ : L2.St} {H : Hp} {Q : Bool → Hp → Prop} {G : Hp} {sl : Sl} {E : XP} {P : Bool → Sl → Prop} (R : Rel X.K F G σ H sl) (h : υ sl E P) (k : ∀ b sl', P b sl' → ∀ G' H', Same G G' → Rel X.K F G' σ H' sl' → Q b H')
    (kx : Thrown X.K F W G E) : LT X.K F W υ σ H Q := ⟨G, sl, E, P, R, h, k, kx⟩
theorem qw_and (ha : QT X F W a τ) (hb : QW X F W (.BoolOp .And (b :: rest) pos) υ) : QW X F W (.BoolOp .And (a :: b :: rest) pos) (dAnd τ υ) :=
  ⟨pw_imp (pw_and ha.run hb.run) fun σ H Q h => by
    obtain ⟨G, sl, E, P, R, h, k, kx⟩ := h
    refine ⟨G, sl, E, _, R, h, fun c sl1 h1 G1 H1 s1 R1 => ?_, kx⟩
    cases c with
    | true => exact ⟨G1, sl1, E, P, R1, h1, fun b sl2 p G2 H2 s2 R2 => k b sl2 p G2 H2 (s1.trans s2) R2, kx.mono s1⟩
    | false => exact k false sl1 h1 G1 H1 s1 R1⟩
theorem qw_or (ha : QT X F W a τ) (hb : QW X F W (.BoolOp .Or (b :: rest) pos) υ) : QW X F W (.BoolOp .Or (a :: b :: rest) pos) (dOr τ υ) :=
  ⟨pw_imp (pw_or ha.run hb.run) fun σ H Q h => by
    obtain ⟨G, sl, E, P, R, h, k, kx⟩ := h
    refine ⟨G, sl, E, _, R, h, fun c sl1 h1 G1 H1 s1 R1 => ?_, kx⟩
    cases c with
    | true => exact k true sl1 h1 G1 H1 s1 R1
    | false => exact ⟨G1, sl1, E, P, R1, h1, fun b sl2 p G2 H2 s2 R2 => k b sl2 p G2 H2 (s1.trans s2) R2, kx.mono s1⟩⟩
theorem QW.qt (h : QW X F W e τ) : QT X F W e τ := ⟨h.run.pt⟩
theorem qt_not (h : QT X F W a τ) : QT X F W (.UnaryOp .Not a pos) (dNot τ) :=
  ⟨pt_imp (pt_not h.run) fun σ H Q h => by
    obtain ⟨G, sl, E, P, R, h, k, kx⟩ := h
    exact ⟨G, sl, E, _, R, h, fun c sl1 h1 G1 H1 s1 R1 => k _ sl1 h1 G1 H1 s1 R1, kx⟩⟩
/-- .. as values -/
def dAndV (α β : DE) : DE := fun sl E P => α sl E fun d sl1 => ∃ k, d = .bl k ∧ if k = true then β sl1 E P else P (.bl false) sl1
def dOrV (α β : DE) : DE := fun sl E P => α sl E fun d sl1 => ∃ k, d = .bl k ∧ if k = true then P (.bl true) sl1 else β sl1 E P
def dNotV (α : DE) : DE := fun sl E P => α sl E fun d sl1 => ∃ k, d = .bl k ∧ P (.bl (!k)) sl1
theorem qe_one {op} (h : QE X F W a α) : QE X F W (.BoolOp op [a] pos) α := ⟨pe_one h.run⟩
theorem qe_and (ha : QE X F W a α) (hb : QE X F W (.BoolOp .And (b :: rest) pos) β) : QE X F W (.BoolOp .And (a :: b :: rest) pos) (dAndV α β) :=
  ⟨pe_imp (pe_and ha.run hb.run) fun σ H Q h => by
    obtain ⟨G, sl, E, P, R, h, k, kx⟩ := h
    refine ⟨G, sl, E, _, R, h, fun d sl1 h1 G1 H1 v1 s1 R1 r1 => ?_, kx⟩
    obtain ⟨c, rfl, h1⟩ := h1
    cases r1
    refine ⟨c, rfl, ?_⟩
    cases c with
    | true => exact ⟨G1, sl1, E, P, R1, h1, fun d sl2 p G2 H2 v s2 R2 r => k d sl2 p G2 H2 v (s1.trans s2) R2 r, kx.mono s1⟩
    | false => exact k _ sl1 h1 G1 H1 _ s1 R1 (.bl false)⟩
theorem qe_or (ha : QE X F W a α) (hb : QE X F W (.BoolOp .Or (b :: rest) pos) β) : QE X F W (.BoolOp .Or (a :: b :: rest) pos) (dOrV α β) :=
  ⟨pe_imp (pe_or ha.run hb.run) fun σ H Q h => by
    obtain ⟨G, sl, E, P, R, h, k, kx⟩ := h
    refine ⟨G, sl, E, _, R, h, fun d sl1 h1 G1 H1 v1 s1 R1 r1 => ?_, kx⟩
    obtain ⟨c, rfl, h1⟩ := h1
    cases r1
    refine ⟨c, rfl, ?_⟩
    cases c with
    | true => exact k _ sl1 h1 G1 H1 _ s1 R1 (.bl true)
    | false => exact ⟨G1, sl1, E, P, R1, h1, fun d sl2 p G2 H2 v s2 R2 r => k d sl2 p G2 H2 v (s1.trans s2) R2 r, kx.mono s1⟩⟩
theorem qe_not (ha : QE X F W a α) : QE X F W (.UnaryOp .Not a pos) (dNotV α) :=
  ⟨pe_imp (pe_not ha.run) fun σ H Q h => by
    obtain ⟨G, sl, E, P, R, h, k, kx⟩ := h
    refine ⟨G, sl, E, _, R, h, fun d sl1 h1 G1 H1 v1 s1 R1 r1 => ?_, kx⟩
    obtain ⟨c, rfl, h1⟩ := h1
    cases r1
    exact ⟨c, rfl, k _ sl1 h1 G1 H1 _ s1 R1 (.bl _)⟩⟩
end
end Dx
namespace Dx
open PySem L2
/-! ### statements -/
inductive Ret where
  | val (d : D) | own (d : D)
def Ret.slot : Ret → Slot
  | .val d => .val d
  | .own d => .own d
structure DEnds where
  nx : Sl → Prop
  rt : Ret → Prop
  bk : Sl → Prop
  ct : Sl → Prop
  ex : XP
abbrev DS := DEnds → Sl → Prop
structure Fits (K : Fg) (F : Fx) (W : WX) (G : Hp) (De : DEnds) (D : Ends) : Prop where
  nx : ∀ sl', De.nx sl' → ∀ G' σ' H', Same G G' → Rel K F G' σ' H' sl' → D.nx σ' H'
  bk : ∀ sl', De.bk sl' → ∀ G' σ' H', Same G G' → Rel K F G' σ' H' sl' → D.bk σ' H'
  ct : ∀ sl', De.ct sl' → ∀ G' σ' H', Same G G' → Rel K F G' σ' H' sl' → D.ct σ' H'
  rt : ∀ r, De.rt r → ∀ G' H' v, Same G G' → Rel K F G' [some v] H' [r.slot] → D.rt v H'
  ex : Thrown K F W G De.ex
theorem Fits.mono {K : Fg} {F : Fx} {W : WX} {G G' : Hp} {De : DEnds} {D : Ends} (h : Fits K F W G De D) (e : Same G G') : Fits K F W G' De D :=
  ⟨fun sl q G1 σ1 H1 s R => h.nx sl q G1 σ1 H1 (e.trans s) R, fun sl q G1 σ1 H1 s R => h.bk sl q G1 σ1 H1 (e.trans s) R, fun sl q G1 σ1 H1 s R => h.ct sl q G1 σ1 H1 (e.trans s) R,
    fun r q G1 H1 v s R => h.rt r q G1 H1 v (e.trans s) R, h.ex.mono e⟩
def LS (K : Fg) (F : Fx) (W : WX) (δ : DS) : TS := fun D σ H => ∃ G sl De, Rel K F G σ H sl ∧ δ De sl ∧ Fits K F W G De D
structure QS (X : Cx) (F : Fx) (W : WX) (st : Stmt) (δ : DS) : Prop where
  run : PS X st (LS X.K F W δ)
structure QSs (X : Cx) (F : Fx) (W : WX) (st : List Stmt) (δ : DS) : Prop where
  run : PSs X st (LS X.K F W δ)
theorem ps_imp {X : Cx} {e : Stmt} {t t' : TS} (h : PS X e t) (i : ∀ D σ H, t' D σ H → t D σ H) : PS X e t' := ⟨fun pins s σ H Q I q => h.run pins s σ H Q I (i Q σ H q)⟩
theorem pss_imp {X : Cx} {e : List Stmt} {t t' : TS} (h : PSs X e t) (i : ∀ D σ H, t' D σ H → t D σ H) : PSs X e t' := ⟨fun pins s σ H Q I q => h.run pins s σ H Q I (i Q σ H q)⟩
def dNext : DS := fun De sl => De.nx sl
def dSeq (δ ε : DS) : DS := fun De sl => δ { De with nx := ε De } sl
def dBreak : DS := fun De sl => De.bk sl
def dCont : DS := fun De sl => De.ct sl
def dRet (α : DE) : DS := fun De sl => α sl De.ex fun d _ => De.rt (.val d)
def dRetO (α : DE) : DS := fun De sl => α sl De.ex fun d _ => De.rt (.own d)
def dRetN : DS := fun De _ => De.rt (.val .non)
def dDrop (α : DE) : DS := fun De sl => α sl De.ex fun _ sl1 => De.nx sl1
def dCond (τ : DT) (δ ε : DS) : DS := fun De sl => τ sl De.ex fun k sl1 => if k = true then δ De sl1 else ε De sl1
def dNever : DS := fun _ _ => False
section
variable {X : Cx} {F : Fx} {W : WX} {a b c e : Expr} {es : List Expr} {α β γ : DE} {pos : Pos} {i : Nat} {x : Str} {st : Stmt} {rest body : List Stmt} {δ ε : DS} {τ : DT}
theorem Rel.ret {K : Fg} {F : Fx} {G H : Hp} {σ : L2.St} {sl : Sl} {v : V} {d : D} (R : Rel K F G σ H sl) (r : Rp K G v d) : Rel K F G [some v] H [.val d] := by
  obtain ⟨h1, h2, h3, h4, h5, as, s⟩ := R
  exact ⟨h1, h2, h3, h4, h5, [], .val r .nil⟩
theorem Rel.retO {K : Fg} {F : Fx} {G H : Hp} {σ : L2.St} {sl : Sl} {x : Option V} {d : D} (R : Rel K F G (x :: σ) H (.own d :: sl)) : Rel K F G [x] H [.own d] := by
  obtain ⟨h1, h2, h3, h4, h5, as, s⟩ := R
  cases s with
  | own a1 a2 a3 a4 a5 t => exact ⟨h1, h2, h3, h4, h5, _, .own a1 a2 a3 a4 (by simp) .nil⟩
theorem Rel.any {K : Fg} {F : Fx} {G H : Hp} {σ : L2.St} {sl : Sl} (R : Rel K F G σ H sl) : Rel K F G [] H [] := by
  obtain ⟨h1, h2, h3, h4, h5, as, s⟩ := R
  exact ⟨h1, h2, h3, h4, h5, [], .nil⟩
theorem qss_nil : QSs X F W [] dNext := ⟨pss_imp pss_nil fun D σ H h => by
  obtain ⟨G, sl, De, R, h, f⟩ := h
  exact f.nx sl h G σ H (Same.refl _) R⟩
theorem qss_cons (h1 : QS X F W st δ) (h2 : QSs X F W rest ε) : QSs X F W (st :: rest) (dSeq δ ε) := ⟨pss_imp (pss_cons h1.run h2.run) fun D σ H h => by
  obtain ⟨G, sl, De, R, h, f⟩ := h
  exact ⟨G, sl, { De with nx := ε De }, R, h, fun sl' q G' σ' H' s R' => ⟨G', sl', De, R', q, f.mono s⟩, f.bk, f.ct, f.rt, f.ex⟩⟩
theorem qss_one (h1 : QS X F W st δ) : QSs X F W [st] δ := ⟨pss_one h1.run⟩
theorem qs_pass : QS X F W (.Pass pos) dNext := ⟨ps_imp ps_pass fun D σ H h => by
  obtain ⟨G, sl, De, R, h, f⟩ := h
  exact f.nx sl h G σ H (Same.refl _) R⟩
theorem qs_break : QS X F W (.Break pos) dBreak := ⟨ps_imp ps_break fun D σ H h => by
  obtain ⟨G, sl, De, R, h, f⟩ := h
  exact f.bk sl h G σ H (Same.refl _) R⟩
theorem qs_continue : QS X F W (.Continue pos) dCont := ⟨ps_imp ps_continue fun D σ H h => by
  obtain ⟨G, sl, De, R, h, f⟩ := h
  exact f.ct sl h G σ H (Same.refl _) R⟩
theorem qs_never : QS X F W st dNever := ⟨ps_imp ps_never fun D σ H h => by
  obtain ⟨G, sl, De, R, h, f⟩ := h
  exact h.elim⟩
theorem qss_never : QSs X F W rest dNever := ⟨pss_imp pss_never fun D σ H h => by
  obtain ⟨G, sl, De, R, h, f⟩ := h
  exact h.elim⟩
theorem qs_ret (he : QE X F W e α) : QS X F W (.Return (some e) pos) (dRet α) := ⟨ps_imp (ps_ret he.run) fun D σ H h => by
  obtain ⟨G, sl, De, R, h, f⟩ := h
  exact ⟨G, sl, De.ex, _, R, h, fun d sl1 h1 G1 H1 v s1 R1 r1 => f.rt (.val d) h1 G1 H1 v s1 (R1.ret r1), f.ex⟩⟩
theorem qs_retO (he : QN X F W e α) : QS X F W (.Return (some e) pos) (dRetO α) := ⟨ps_imp (ps_ret he.run) fun D σ H h => by
  obtain ⟨G, sl, De, R, h, f⟩ := h
  exact ⟨G, sl, De.ex, _, R, h, fun d sl1 h1 G1 H1 a s1 R1 => f.rt (.own d) h1 G1 H1 _ s1 R1.retO, f.ex⟩⟩
theorem qs_retN : QS X F W (.Return none pos) dRetN := ⟨ps_imp ps_retN fun D σ H h => by
  obtain ⟨G, sl, De, R, h, f⟩ := h
  exact f.rt (.val .non) h G H .non (Same.refl _) (R.ret .non)⟩
theorem qs_expr (he : QE X F W e α) (hs : swapsWith e none pos.line X.env = pure false := by rfl) : QS X F W (.Expr e pos) (dDrop α) := ⟨ps_imp (ps_expr he.run hs) fun D σ H h => by
  obtain ⟨G, sl, De, R, h, f⟩ := h
  exact ⟨G, sl, De.ex, _, R, h, fun d sl1 h1 G1 H1 v s1 R1 r1 => f.nx sl1 h1 G1 σ H1 s1 R1, f.ex⟩⟩
theorem qs_if (hc : QT X F W c τ) (ha : QSs X F W body δ) (hb : QSs X F W rest ε) : QS X F W (.If c body rest pos) (dCond τ δ ε) := ⟨ps_imp (ps_if hc.run ha.run hb.run) fun D σ H h => by
  obtain ⟨G, sl, De, R, h, f⟩ := h
  refine ⟨G, sl, De.ex, _, R, h, fun b sl1 h1 G1 H1 s1 R1 => ?_, f.ex⟩
  cases b with
  | true => exact ⟨G1, sl1, De, R1, h1, f.mono s1⟩
  | false => exact ⟨G1, sl1, De, R1, h1, f.mono s1⟩⟩
/-! ### targets -/
abbrev DG := D → Sl → (Sl → Prop) → Prop
abbrev DGs := List D → Sl → (Sl → Prop) → Prop
def LG (K : Fg) (F : Fx) (g : DG) : TG := fun v σ H Q => ∃ G sl d P, Rel K F G σ H sl ∧ Rp K G v d ∧ g d sl P ∧ ∀ sl', P sl' → ∀ G' σ' H', Same G G' → Rel K F G' σ' H' sl' → Q σ' H'
def LGs (K : Fg) (F : Fx) (g : DGs) : TGs := fun vs σ H Q => ∃ G sl ds P, Rel K F G σ H sl ∧ RpL K G vs ds ∧ g ds sl P ∧ ∀ sl', P sl' → ∀ G' σ' H', Same G G' → Rel K F G' σ' H' sl' → Q σ' H'
structure QG (X : Cx) (F : Fx) (t : Expr) (g : DG) : Prop where
  run : PG X t (LG X.K F g)
structure QGs (X : Cx) (F : Fx) (ts : List Expr) (g : DGs) : Prop where
  run : PGs X ts (LGs X.K F g)
theorem pg_imp {X : Cx} {e : Expr} {t t' : TG} (h : PG X e t) (i : ∀ v σ H Q, t' v σ H Q → t v σ H Q) : PG X e t' := ⟨fun pins s σ H v u Q I r q => h.run pins s σ H v u Q I r (i v σ H Q q)⟩
theorem pgs_imp {X : Cx} {e : List Expr} {t t' : TGs} (h : PGs X e t) (i : ∀ v σ H Q, t' v σ H Q → t v σ H Q) : PGs X e t' := ⟨fun pins s σ H v u Q I r q => h.run pins s σ H v u Q I r (i v σ H Q q)⟩
def hName (i : Nat) : DG := fun d sl P => P (sl.set i (.val d))
def hNil : DGs := fun ds sl P => ds = [] ∧ P sl
def hCons (g : DG) (h : DGs) : DGs := fun ds sl P => ∃ d r, ds = d :: r ∧ g d sl fun sl1 => h r sl1 P
def hTup (n : Nat) (h : DGs) : DG := fun d sl P => ∃ ds, d = .tup ds ∧ ds.length = n ∧ h ds sl P
theorem qg_name (h : PG X e (gName i)) : QG X F e (hName i) := ⟨pg_imp h fun v σ H Q h => by
  obtain ⟨G, sl, d, P, R, r, h, k⟩ := h
  exact k _ h G _ H (Same.refl _) (R.put r i)⟩
theorem qgs_nil : QGs X F [] hNil := ⟨pgs_imp pgs_nil fun v σ H Q h => by
  obtain ⟨G, sl, ds, P, R, r, ⟨rfl, h⟩, k⟩ := h
  cases r
  exact ⟨rfl, k _ h G _ H (Same.refl _) R⟩⟩
theorem qgs_cons {g : DG} {h : DGs} (h1 : QG X F e g) (h2 : QGs X F es h) (hs : (assignEach (e :: es) X.env).map (·.2) = assign e X.env :: (assignEach es X.env).map (·.2) := by rfl) : QGs X F (e :: es) (hCons g h) :=
  ⟨pgs_imp (pgs_cons h1.run h2.run hs) fun v σ H Q h => by
    obtain ⟨G, sl, ds, P, R, r, ⟨d, rr, rfl, h⟩, k⟩ := h
    cases r with
    | cons r1 r2 => exact ⟨_, _, rfl, G, sl, d, _, R, r1, h, fun sl1 h1 G1 σ1 H1 s1 R1 => ⟨G1, sl1, rr, P, R1, r2.mono s1, h1, fun sl2 p G2 σ2 H2 s2 R2 => k sl2 p G2 σ2 H2 (s1.trans s2) R2⟩⟩⟩
theorem qg_tup {k n : Nat} {g : DGs} (hc : X.calm = true) (h : QGs X F es g) (hn : (assignEach es X.env).length = n := by rfl) (hst : (assignEach es X.env).findIdx? (·.1) = none := by rfl) : QG X F (.Tuple es k pos) (hTup n g) :=
  ⟨pg_imp (pg_tup hc h.run hn hst) fun v σ H Q h => by
    obtain ⟨G, sl, d, P, R, r, ⟨ds, rfl, hl, h⟩, k⟩ := h
    cases r with
    | tup q t => exact ⟨_, _, rfl, sqT_mono R.ex q, by rw [t.length]; exact hl, G, sl, ds, P, R, t, h, k⟩⟩
/-! ### assignments -/
def dAsg (α : DE) (g : DG) : DS := fun De sl => α sl De.ex fun d sl1 => g d sl1 De.nx
/-- a name gets an object of its own -/
def dOwn (i : Nat) (α : DE) : DS := fun De sl => α sl De.ex fun d sl1 => De.nx (sl1.set i (.own d))
theorem LS.asg {g : DG} {t : TG} (i : ∀ v σ H Q, LG X.K F g v σ H Q → t v σ H Q) {D : Ends} {σ : L2.St} {H : Hp} (h : LS X.K F W (dAsg α g) D σ H) : tAsg (LE X.K F W α) t D σ H := by
  obtain ⟨G, sl, De, R, h, f⟩ := h
  exact ⟨G, sl, De.ex, _, R, h, fun d sl1 h1 G1 H1 v s1 R1 r1 => i v σ H1 _ ⟨G1, sl1, d, De.nx, R1, r1, h1, fun sl2 p G2 σ2 H2 s2 R2 => f.nx sl2 p G2 σ2 H2 (s1.trans s2) R2⟩, f.ex⟩
theorem qs_asg {tg : Expr} {g : DG} (h : PS X (.Assign [tg] e pos) (tAsg (LE X.K F W α) (LG X.K F g))) : QS X F W (.Assign [tg] e pos) (dAsg α g) :=
  ⟨ps_imp h fun D σ H h => h.asg fun _ _ _ _ q => q⟩
theorem qs_set (h : PS X st (tAsg (LE X.K F W α) (gName i))) : QS X F W st (dAsg α (hName i)) :=
  ⟨ps_imp h fun D σ H h => h.asg fun v σ H Q q => by
    obtain ⟨G, sl, d, P, R, r, h, k⟩ := q
    exact k _ h G _ H (Same.refl _) (R.put r i)⟩
theorem qs_own (h : PS X st (tAsg (LN X.K F W α) (gName i))) : QS X F W st (dOwn i α) :=
  ⟨ps_imp h fun D σ H h => by
    obtain ⟨G, sl, De, R, h, f⟩ := h
    exact ⟨G, sl, De.ex, _, R, h, fun d sl1 h1 G1 H1 a s1 R1 => f.nx _ h1 G1 _ H1 s1 (R1.putOwn i), f.ex⟩⟩
/-! ### loops -/
def dWh (τ : DT) (δ : DS) (De : DEnds) : Nat → Sl → Prop
  | 0, _ => False
  | n + 1, sl => τ sl De.ex fun k sl1 => if k = true then δ { De with nx := dWh τ δ De n, ct := dWh τ δ De n, bk := De.nx } sl1 else De.nx sl1
def dWhile (τ : DT) (δ : DS) : DS := fun De sl => ∃ n, dWh τ δ De n sl
theorem qs_while (hp : PassesOwn (model X.prog X.w) X.A X.env X.xe) (hc : QT X F W c τ) (hb : QSs X F W body δ) : QS X F W (.While c body [] pos) (dWhile τ δ) :=
  ⟨ps_imp (ps_while hp hc.run hb.run) fun D σ H h => by
    obtain ⟨G, sl, De, R, ⟨n, h⟩, f⟩ := h
    refine ⟨fun m σ1 H1 => ∃ G1 sl1, Same G G1 ∧ Rel X.K F G1 σ1 H1 sl1 ∧ dWh τ δ De m sl1, ⟨n, G, sl, Same.refl _, R, h⟩, ?_⟩
    rintro m σ1 H1 ⟨G1, sl1, s1, R1, h1⟩
    cases m with
    | zero => exact h1.elim
    | succ m =>
      refine ⟨G1, sl1, De.ex, _, R1, h1, fun k sl2 h2 G2 H2 s2 R2 => ?_, f.ex.mono s1⟩
      cases k with
      | true =>
        refine ⟨fun σ3 H3 => ∃ G3 sl3, Same G G3 ∧ Rel X.K F G3 σ3 H3 sl3 ∧ dWh τ δ De m sl3, fun σ3 H3 q => ⟨m, Nat.lt_succ_self _, q⟩, ?_⟩
        have f2 := f.mono (s1.trans s2)
        exact ⟨G2, sl2, _, R2, h2, fun sl3 q G3 σ3 H3 s3 R3 => ⟨G3, sl3, (s1.trans s2).trans s3, R3, q⟩, f2.nx, fun sl3 q G3 σ3 H3 s3 R3 => ⟨G3, sl3, (s1.trans s2).trans s3, R3, q⟩, f2.rt, f2.ex⟩
      | false => exact f.nx sl2 h2 G2 _ H2 (s1.trans s2) R2⟩
/-- what is walked: its items -/
abbrev DI := Sl → XP → (List D → Sl → Prop) → Prop
def Walked (K : Fg) (G : Hp) (J : It) (ds : List D) : Prop := ∀ (i : Nat) (Gc H : Hp), Same G Gc → Same Gc H →
  (∀ d, ds[i]? = some d → J.go i H ∧ ∀ x H', J.yld i H x H' → ∃ G', Grown Gc H G' H' ∧ Rp K G' x d) ∧ (ds.length ≤ i → J.stop i H)
def LI (K : Fg) (F : Fx) (W : WX) (ι : DI) : TI := fun σ H R => ∃ G sl E P, Rel K F G σ H sl ∧ ι sl E P ∧ (∀ ds sl', P ds sl' → ∀ G' H' J, Same G G' → Rel K F G' σ H' sl' → Walked K G' J ds → R J H') ∧ Thrown K F W G E
structure QI (X : Cx) (F : Fx) (W : WX) (tg iter : Expr) (ι : DI) : Prop where
  run : PI X tg iter (LI X.K F W ι)
theorem pi_imp {X : Cx} {tg e : Expr} {t t' : TI} (h : PI X tg e t) (i : ∀ σ H R, t' σ H R → t σ H R) : PI X tg e t' := ⟨fun pins s σ H Q I q => h.run pins s σ H Q I (i σ H Q q)⟩
def dFo (g : DG) (δ : DS) (De : DEnds) : List D → Sl → Prop
  | [], sl => De.nx sl
  | d :: r, sl => g d sl fun sl1 => δ { De with nx := dFo g δ De r, ct := dFo g δ De r, bk := De.nx } sl1
def dFor (ι : DI) (g : DG) (δ : DS) : DS := fun De sl => ι sl De.ex fun ds sl1 => dFo g δ De ds sl1
theorem qs_for {tg iter : Expr} {ι : DI} {g : DG} (hp : PassesOwn (model X.prog X.w) X.A X.env X.xe) (hc : X.calm = true) (hi : QI X F W tg iter ι) (hg : QG X F tg g) (hb : QSs X F W body δ)
    (hs : ∀ x, foldedSetIterable iter X.env x = pure x := by intro _; rfl) : QS X F W (.For tg iter body [] pos) (dFor ι g δ) :=
  ⟨ps_imp (ps_for hp hc hi.run hg.run hb.run hs) fun D σ H h => by
    obtain ⟨G, sl, De, R, h, f⟩ := h
    refine ⟨G, sl, De.ex, _, R, h, fun ds sl1 h1 G1 H1 J s1 R1 w => ?_, f.ex⟩
    refine ⟨fun i m σ2 H2 => ∃ G2 sl2, Same G1 G2 ∧ Rel X.K F G2 σ2 H2 sl2 ∧ dFo g δ De (ds.drop i) sl2 ∧ m = ds.length - i ∧ i ≤ ds.length, ⟨ds.length, G1, sl1, Same.refl _, R1, h1, by simp, Nat.zero_le _⟩, ?_⟩
    rintro i m σ2 H2 ⟨G2, sl2, s2, R2, h2, rfl, hi⟩
    by_cases hlt : i < ds.length
    · obtain ⟨hgo, hy⟩ := (w i G2 H2 s2 R2.ex).1 ds[i] (List.getElem?_eq_getElem hlt)
      rw [List.drop_eq_getElem_cons hlt] at h2
      refine .inr ⟨hgo, fun σ3 H3 => ∃ G3 sl3, Same G1 G3 ∧ Rel X.K F G3 σ3 H3 sl3 ∧ dFo g δ De (ds.drop (i + 1)) sl3, fun σ3 H3 ⟨G3, sl3, q⟩ => ⟨ds.length - (i + 1), by omega, G3, sl3, q.1, q.2.1, q.2.2, rfl, hlt⟩, fun x H3 yx => ?_⟩
      obtain ⟨G3, gr, r3⟩ := hy x H3 yx
      refine ⟨G3, sl2, ds[i], _, R2.grown gr, r3, h2, fun sl4 h4 G4 σ4 H4 s4 R4 => ?_⟩
      have s14 : Same G1 G4 := s2.trans (gr.g.trans s4)
      have f4 := f.mono (s1.trans s14)
      exact ⟨G4, sl4, _, R4, h4, fun sl5 q G5 σ5 H5 s5 R5 => ⟨G5, sl5, s14.trans s5, R5, q⟩, f4.nx, fun sl5 q G5 σ5 H5 s5 R5 => ⟨G5, sl5, s14.trans s5, R5, q⟩, f4.rt, f4.ex⟩
    · have e : i = ds.length := by omega
      subst e
      rw [List.drop_length] at h2
      exact .inl ⟨(w _ G2 H2 s2 R2.ex).2 (Nat.le_refl _), f.nx sl2 h2 G2 σ2 H2 (s1.trans s2) R2⟩⟩
end
end Dx
namespace Dx
open PySem L2
section
variable {K : Fg}
/-! ### + - * // % ** -/
def oAdd : O2 := fun d e P => match d, e with
  | .int i, .int j => P (.int (i + j))
  | .str a, .str b => a.length + b.length ≤ sizeLine ∧ P (.str (a ++ b))
  | .lst a, .lst b => a.length + b.length ≤ sizeLine ∧ P (.lst (a ++ b))
  | .tup a, .tup b => a ≠ [] ∧ a.length + b.length ≤ sizeLine ∧ P (.tup (a ++ b))
  | _, _ => False
def rAddD (K : Fg) : R2 := fun x y H Q => (rI0 fun i j => .int (i + j)) x y H Q ∨ (∃ i j, x = .str i ∧ y = .str j ∧ i.length + j.length ≤ sizeLine ∧ Q (.str (i ++ j)) H) ∨ rCat x y H Q ∨ rCatT K x y H Q
theorem op_addD {X : Cx} : OpR X (binaryOp .Add) (rAddD X.K) := op_add.or (op_add_str.or (op_cat.or op_catT))
theorem rf_add : Rf2 K (rAddD K) oAdd := by
  intro G H x y d e P Q s r1 r2 h k
  cases r1 with
  | int i =>
    cases r2 <;> first | exact h.elim | skip
    exact .inl ⟨_, _, rfl, rfl, k _ h G H _ (.refl s) (.int _)⟩
  | str i =>
    cases r2 <;> first | exact h.elim | skip
    exact .inr (.inl ⟨_, _, rfl, rfl, h.1, k _ h.2 G H _ (.refl s) (.str _)⟩)
  | lst g1 t1 =>
    cases r2 with
    | lst g2 t2 =>
      refine .inr (.inr (.inl ⟨_, _, _, _, rfl, rfl, s _ _ g1, s _ _ g2, by rw [t1.length, t2.length]; exact h.1, fun p hp => ?_⟩))
      exact k _ h.2 _ _ _ (Grown.new s hp _) (.lst upd_same ((t1.append t2).mono (Grown.new s hp _).g))
    | _ => exact h.elim
  | tup g1 t1 =>
    cases r2 with
    | tup g2 t2 =>
      obtain ⟨h1, h2, h3⟩ := h
      refine .inr (.inr (.inr ⟨_, _, _, _, rfl, rfl, sqT_mono s g1, sqT_mono s g2, fun z => ?_, by rw [t1.length, t2.length]; exact h2, fun z => ?_, fun _ p hp => ?_⟩))
      · subst z
        cases t1
        exact h1 rfl
      · subst z
        cases t2
        rw [List.append_nil] at h3
        exact k _ h3 G H _ (.refl s) (.tup g1 t1)
      · exact k _ h3 _ _ _ (Grown.new s hp _) (.tup (SqT.of upd_same) ((t1.append t2).mono (Grown.new s hp _).g))
    | _ => exact h.elim
  | _ => exact h.elim
/-- two ints -/
def oI (C : Int → Int → Prop) (f : Int → Int → D) : O2 := fun d e P => match d, e with
  | .int i, .int j => C i j ∧ P (f i j)
  | _, _ => False
theorem rf_I {C : Int → Int → Prop} {f : Int → Int → V} {g : Int → Int → D} (hf : ∀ G i j, Rp K G (f i j) (g i j)) : Rf2 K (rI C f) (oI C g) := by
  intro G H x y d e P Q s r1 r2 h k
  cases r1 <;> first | exact h.elim | skip
  cases r2 <;> first | exact h.elim | skip
  exact ⟨_, _, rfl, rfl, h.1, k _ h.2 G H _ (.refl s) (hf G _ _)⟩
def oI0 (f : Int → Int → D) : O2 := fun d e P => match d, e with
  | .int i, .int j => P (f i j)
  | _, _ => False
theorem rf_I0 {f : Int → Int → V} {g : Int → Int → D} (hf : ∀ G i j, Rp K G (f i j) (g i j)) : Rf2 K (rI0 f) (oI0 g) := by
  intro G H x y d e P Q s r1 r2 h k
  cases r1 <;> first | exact h.elim | skip
  cases r2 <;> first | exact h.elim | skip
  exact ⟨_, _, rfl, rfl, k _ h G H _ (.refl s) (hf G _ _)⟩
abbrev oSub : O2 := oI0 fun i j => .int (i - j)
abbrev oMod : O2 := oI (fun _ j => 0 < j) fun i j => .int (i % j)
abbrev oFdiv : O2 := oI CDivW fun i j => .int (i / j)
abbrev oPow : O2 := oI CPow fun i j => .int (i ^ j.toNat)
abbrev oLt : O2 := oI0 fun i j => .bl (decide (i < j))
abbrev oLe : O2 := oI0 fun i j => .bl (decide (i ≤ j))
abbrev oGt : O2 := oI0 fun i j => .bl (decide (j < i))
abbrev oGe : O2 := oI0 fun i j => .bl (decide (j ≤ i))
theorem rf_sub : Rf2 K (rI0 fun i j => .int (i - j)) oSub := rf_I0 fun _ _ _ => .int _
theorem rf_mod : Rf2 K (rI (fun _ j => 0 < j) fun i j => .int (i % j)) oMod := rf_I fun _ _ _ => .int _
theorem rf_fdiv : Rf2 K (rI CDivW fun i j => .int (i / j)) oFdiv := rf_I fun _ _ _ => .int _
theorem rf_pow : Rf2 K (rI CPow fun i j => .int (i ^ j.toNat)) oPow := rf_I fun _ _ _ => .int _
theorem rf_lt : Rf2 K (rI0 fun i j => .bl (decide (i < j))) oLt := rf_I0 fun _ _ _ => .bl _
theorem rf_le : Rf2 K (rI0 fun i j => .bl (decide (i ≤ j))) oLe := rf_I0 fun _ _ _ => .bl _
theorem rf_gt : Rf2 K (rI0 fun i j => .bl (decide (j < i))) oGt := rf_I0 fun _ _ _ => .bl _
theorem rf_ge : Rf2 K (rI0 fun i j => .bl (decide (j ≤ i))) oGe := rf_I0 fun _ _ _ => .bl _
/-- *: two ints (one of them small), a list so many times -/
def oMul : O2 := fun d e P => match d, e with
  | .int i, .int j => CMul i j ∧ P (.int (i * j))
  | .lst a, .int j => -(2 ^ 63) ≤ j ∧ j < 2 ^ 63 ∧ a.length * j.toNat ≤ sizeLine ∧ P (.lst (List.replicate j.toNat a).flatten)
  | _, _ => False
def rMulD : R2 := fun x y H Q => (rI CMul fun i j => .int (i * j)) x y H Q ∨ rRep x y H Q
theorem op_mulD {X : Cx} : OpR X (binaryOp .Mult) rMulD := op_mul.or op_rep
theorem RpL.rep {G : Hp} {vs : List V} {ds : List D} (t : RpL K G vs ds) : ∀ n : Nat, RpL K G (List.replicate n vs).flatten (List.replicate n ds).flatten
  | 0 => .nil
  | n + 1 => by
    rw [List.replicate_succ, List.replicate_succ, List.flatten_cons, List.flatten_cons]
    exact t.append (t.rep n)
theorem rf_mul : Rf2 K rMulD oMul := by
  intro G H x y d e P Q s r1 r2 h k
  cases r1 with
  | int i =>
    cases r2 <;> first | exact h.elim | skip
    exact .inl ⟨_, _, rfl, rfl, h.1, k _ h.2 G H _ (.refl s) (.int _)⟩
  | lst g1 t1 =>
    cases r2 <;> first | exact h.elim | skip
    obtain ⟨h1, h2, h3, h4⟩ := h
    refine .inr ⟨_, _, _, rfl, rfl, s _ _ g1, h1, h2, by rw [t1.length]; exact h3, fun p hp => ?_⟩
    exact k _ h4 _ _ _ (Grown.new s hp _) (.lst upd_same ((t1.rep _).mono (Grown.new s hp _).g))
  | _ => exact h.elim
/-- great factors -/
abbrev oMulW : O2 := oI CMulW fun i j => .int (i * j)
theorem rf_mulW : Rf2 K (rI CMulW fun i j => .int (i * j)) oMulW := rf_I fun _ _ _ => .int _
/-- -x -/
def oNeg : O1 := fun d P => match d with
  | .int i => P (.int (-i))
  | _ => False
theorem rf_neg : Rf1 K (rU fun i => .int (-i)) oNeg := by
  intro G H x d P Q s r1 h k
  cases r1 <;> first | exact h.elim | skip
  exact ⟨_, rfl, k _ h G H _ (.refl s) (.int _)⟩

/-! ### == -/
mutual
def D.py : D → Option PyData
  | .non => some .none
  | .bl b => some (.bool b)
  | .int i => some (.int i)
  | .str x => if x.cps.all (· < 0x110000) then some (.str x) else none
  | .lst ds => (D.pys ds).map .list
  | .tup ds => (D.pys ds).map .tuple
  | .dic _ _ => none
  | .obj _ _ _ => none
  | .scr _ => none
def D.pys : List D → Option (List PyData)
  | [] => some []
  | d :: ds => match d.py, D.pys ds with
    | some a, some b => some (a :: b)
    | _, _ => none
end
mutual
def D.eqv : D → D → Bool
  | .non, .non => true
  | .bl a, .bl b => a == b
  | .bl a, .int j => (if a then 1 else 0) == j
  | .int i, .bl b => i == (if b then 1 else 0)
  | .int i, .int j => i == j
  | .str x, .str y => x == y
  | .lst xs, .lst ys => D.eqvs xs ys
  | .tup xs, .tup ys => D.eqvs xs ys
  | _, _ => false
def D.eqvs : List D → List D → Bool
  | [], [] => true
  | x :: xs, y :: ys => D.eqv x y && D.eqvs xs ys
  | _, _ => false
end
mutual
theorem Rp.dp {G H : Hp} (s : Same G H) : ∀ {v : V} {d : D} {p : PyData}, Rp K G v d → d.py = some p → Dp K H v p
  | _, _, _, .non, e => by cases e; exact .non
  | _, _, _, .bl b, e => by cases e; exact .bl b
  | _, _, _, .int i, e => by cases e; exact .int i
  | _, _, _, .str x, e => by
    unfold D.py at e
    split at e
    · cases e; exact .str x
    · cases e
  | _, _, _, .lst g t, e => by
    unfold D.py at e
    obtain ⟨ps, e1, e2⟩ := Option.map_eq_some_iff.mp e
    subst e2
    exact .lst (SqL.of (s _ _ g)) (RpL.dp s t e1)
  | _, _, _, .tup g t, e => by
    unfold D.py at e
    obtain ⟨ps, e1, e2⟩ := Option.map_eq_some_iff.mp e
    subst e2
    exact .tup (sqT_mono s g) (RpL.dp s t e1)
  | _, _, _, .dic g k t, e => by cases e
  | _, _, _, .obj g k t, e => by cases e
  | _, _, _, .scr g, e => by cases e
theorem RpL.dp {G H : Hp} (s : Same G H) : ∀ {vs : List V} {ds : List D} {ps : List PyData}, RpL K G vs ds → D.pys ds = some ps → DpAll K H vs ps
  | _, _, _, .nil, e => by cases e; exact .nil
  | _, _, _, .cons r t, e => by
    unfold D.pys at e
    split at e
    · rename_i a b h1 h2
      cases e
      exact .cons (Rp.dp s r h1) (RpL.dp s t h2)
    · cases e
end
mutual
theorem eqv_py : ∀ {d e : D} {p q : PyData}, d.py = some p → e.py = some q → PyData.eqv p q = D.eqv d e
  | .non, e, p, q, h1, h2 => by
    cases h1
    cases e <;> (unfold D.py at h2; first | (cases h2 <;> rfl) | (split at h2 <;> cases h2 <;> rfl) | (obtain ⟨_, _, h2⟩ := Option.map_eq_some_iff.mp h2; subst h2; rfl))
  | .bl b, e, p, q, h1, h2 => by
    cases h1
    cases e <;> (unfold D.py at h2; first | (cases h2 <;> rfl) | (split at h2 <;> cases h2 <;> rfl) | (obtain ⟨_, _, h2⟩ := Option.map_eq_some_iff.mp h2; subst h2; rfl))
  | .int b, e, p, q, h1, h2 => by
    cases h1
    cases e <;> (unfold D.py at h2; first | (cases h2 <;> rfl) | (split at h2 <;> cases h2 <;> rfl) | (obtain ⟨_, _, h2⟩ := Option.map_eq_some_iff.mp h2; subst h2; rfl))
  | .str b, e, p, q, h1, h2 => by
    unfold D.py at h1
    split at h1 <;> cases h1
    cases e <;> (unfold D.py at h2; first | (cases h2 <;> rfl) | (split at h2 <;> cases h2 <;> rfl) | (obtain ⟨_, _, h2⟩ := Option.map_eq_some_iff.mp h2; subst h2; rfl))
  | .lst ds, e, p, q, h1, h2 => by
    unfold D.py at h1
    obtain ⟨ps, e1, h1⟩ := Option.map_eq_some_iff.mp h1
    subst h1
    cases e with
    | lst es =>
      unfold D.py at h2
      obtain ⟨qs, e2, h2⟩ := Option.map_eq_some_iff.mp h2
      subst h2
      unfold PyData.eqv D.eqv
      exact eqvs_py e1 e2
    | _ => unfold D.py at h2; first | (cases h2 <;> rfl) | (split at h2 <;> cases h2 <;> rfl) | (obtain ⟨_, _, h2⟩ := Option.map_eq_some_iff.mp h2; subst h2; rfl)
  | .tup ds, e, p, q, h1, h2 => by
    unfold D.py at h1
    obtain ⟨ps, e1, h1⟩ := Option.map_eq_some_iff.mp h1
    subst h1
    cases e with
    | tup es =>
      unfold D.py at h2
      obtain ⟨qs, e2, h2⟩ := Option.map_eq_some_iff.mp h2
      subst h2
      unfold PyData.eqv D.eqv
      exact eqvs_py e1 e2
    | _ => unfold D.py at h2; first | (cases h2 <;> rfl) | (split at h2 <;> cases h2 <;> rfl) | (obtain ⟨_, _, h2⟩ := Option.map_eq_some_iff.mp h2; subst h2; rfl)
  | .dic _ _, _, _, _, h1, _ => by cases h1
  | .obj _ _ _, _, _, _, h1, _ => by cases h1
  | .scr _, _, _, _, h1, _ => by cases h1
theorem eqvs_py : ∀ {ds es : List D} {ps qs : List PyData}, D.pys ds = some ps → D.pys es = some qs → PyData.eqvAll ps qs = D.eqvs ds es
  | [], [], _, _, h1, h2 => by cases h1; cases h2; rfl
  | [], e :: es, _, _, h1, h2 => by
    cases h1
    unfold D.pys at h2
    split at h2 <;> cases h2
    rfl
  | d :: ds, [], _, _, h1, h2 => by
    cases h2
    unfold D.pys at h1
    split at h1 <;> cases h1
    rfl
  | d :: ds, e :: es, _, _, h1, h2 => by
    unfold D.pys at h1 h2
    split at h1 <;> cases h1
    split at h2 <;> cases h2
    rename_i a1 b1 a2 b2 _ _ p1 q1 p2 q2
    unfold PyData.eqvAll D.eqvs
    first | rw [eqv_py a2 p2, eqvs_py b2 q2] | (trace_state; rw [eqv_py a1 p1, eqvs_py b1 q1])
end
mutual
theorem py_lay : ∀ {d : D} {p : PyData}, d.py = some p → p.canLay0 = true
  | .non, _, h => by cases h; rfl
  | .bl _, _, h => by cases h; rfl
  | .int _, _, h => by cases h; rfl
  | .str x, _, h => by
    unfold D.py at h
    split at h
    · rename_i hx
      cases h
      unfold PyData.canLay0
      exact hx
    · cases h
  | .lst ds, _, h => by
    unfold D.py at h
    obtain ⟨ps, e1, h⟩ := Option.map_eq_some_iff.mp h
    subst h
    unfold PyData.canLay0
    exact pys_lay e1
  | .tup ds, _, h => by
    unfold D.py at h
    obtain ⟨ps, e1, h⟩ := Option.map_eq_some_iff.mp h
    subst h
    unfold PyData.canLay0
    exact pys_lay e1
  | .dic _ _, _, h => by cases h
  | .obj _ _ _, _, h => by cases h
theorem pys_lay : ∀ {d : List D} {p : List PyData}, D.pys d = some p → PyData.canLayAll0 p = true
  | [], _, h => by cases h; rfl
  | d :: ds, _, h => by
    unfold D.pys at h
    split at h <;> cases h
    rename_i a b p1 p2
    unfold PyData.canLayAll0
    rw [py_lay p1, pys_lay p2]
    rfl
end
mutual
def D.dep : D → Nat
  | .lst ds => D.deps ds + 1
  | .tup ds => D.deps ds + 1
  | _ => 0
def D.deps : List D → Nat
  | [] => 0
  | d :: ds => max d.dep (D.deps ds)
end
mutual
theorem py_dep : ∀ {d : D} {p : PyData}, d.py = some p → p.depth = d.dep
  | .non, _, h => by cases h; rfl
  | .bl _, _, h => by cases h; rfl
  | .int _, _, h => by cases h; rfl
  | .str x, _, h => by
    unfold D.py at h
    split at h <;> cases h
    rfl
  | .lst ds, _, h => by
    unfold D.py at h
    obtain ⟨ps, e1, h⟩ := Option.map_eq_some_iff.mp h
    subst h
    unfold PyData.depth D.dep
    rw [pys_dep e1]
  | .tup ds, _, h => by
    unfold D.py at h
    obtain ⟨ps, e1, h⟩ := Option.map_eq_some_iff.mp h
    subst h
    unfold PyData.depth D.dep
    rw [pys_dep e1]
  | .dic _ _, _, h => by cases h
  | .obj _ _ _, _, h => by cases h
theorem pys_dep : ∀ {d : List D} {p : List PyData}, D.pys d = some p → PyData.depthAll p = D.deps d
  | [], _, h => by cases h; rfl
  | d :: ds, _, h => by
    unfold D.pys at h
    split at h <;> cases h
    rename_i a b p1 p2
    unfold PyData.depthAll D.deps
    rw [py_dep p1, pys_dep p2]
end
def D.plain (d : D) : Prop := d.py.isSome = true ∧ d.dep ≤ 64
theorem plain_shaped {d : D} (h : d.plain) : ∃ p, d.py = some p ∧ SeqAt.shaped p = true := by
  obtain ⟨p, hp⟩ := Option.isSome_iff_exists.mp h.1
  refine ⟨p, hp, ?_⟩
  unfold SeqAt.shaped
  rw [py_lay hp, py_dep hp]
  simpa using h.2
def oEq : O2 := fun d e P => d.plain ∧ e.plain ∧ P (.bl (D.eqv d e))
def oNe : O2 := fun d e P => d.plain ∧ e.plain ∧ P (.bl (!D.eqv d e))
theorem rf_eq : Rf2 K (rEqD K) oEq := by
  intro G H x y d e P Q s r1 r2 h k
  obtain ⟨h1, h2, h3⟩ := h
  obtain ⟨p, e1, s1⟩ := plain_shaped h1
  obtain ⟨q, e2, s2⟩ := plain_shaped h2
  refine ⟨p, q, r1.dp s e1, r2.dp s e2, s1, s2, ?_⟩
  rw [eqv_py e1 e2]
  exact k _ h3 G H _ (.refl s) (.bl _)
theorem rf_ne : Rf2 K (rNeD K) oNe := by
  intro G H x y d e P Q s r1 r2 h k
  obtain ⟨h1, h2, h3⟩ := h
  obtain ⟨p, e1, s1⟩ := plain_shaped h1
  obtain ⟨q, e2, s2⟩ := plain_shaped h2
  refine ⟨p, q, r1.dp s e1, r2.dp s e2, s1, s2, ?_⟩
  rw [eqv_py e1 e2]
  exact k _ h3 G H _ (.refl s) (.bl _)
end
end Dx
namespace Dx
open PySem L2
/-! ### what a def promises over trees -/
abbrev Phi := List D → (Ret → Prop) → (D → Prop) → Prop
/-- what is wanted of a call that ends, of one that raises -/
def SpTo (K : Fg) (F : Fx) (P : Ret → Prop) (PE : D → Prop) (Q : VK) (E : XK) : Prop :=
  (∀ r, P r → ∀ G' H' v, Same F.G0 G' → Rel K F G' [some v] H' [r.slot] → Q v H') ∧ ∀ x, PE x → ∀ G' H' cls dd, Same F.G0 G' → Rel K F G' [] H' [] → ExnAt K G' H' cls dd x → E cls dd H'
/-- a def without the hand: n arguments -/
def SpP (K : Fg) (n : Nat) (φ : Phi) : Sp := fun vs H Q E => ∃ G ds P PE, ds.length = n ∧ Same G H ∧ RpL K G vs ds ∧ φ ds P PE ∧ SpTo K ⟨none, H, G⟩ P PE Q E
/-- a def whose first argument is the hand: n further arguments -/
def SpH (K : Fg) (n : Nat) (φ : Phi) : Sp := fun vs H Q E => ∃ q vs' G ds P PE, vs = .ref q :: vs' ∧ ds.length = n ∧ Same G H ∧ HandAt K G H q ∧ G q = none ∧ RpL K G vs' ds ∧ φ ds P PE ∧ SpTo K ⟨some q, H, G⟩ P PE Q E
theorem SpP.len {K : Fg} {n : Nat} {φ : Phi} {vs : List V} {H : Hp} {Q : VK} {E : XK} (h : SpP K n φ vs H Q E) : vs.length = n := by
  obtain ⟨G, ds, P, PE, hl, s, r, _⟩ := h
  rw [r.length]
  exact hl
theorem SpH.len {K : Fg} {n : Nat} {φ : Phi} {vs : List V} {H : Hp} {Q : VK} {E : XK} (h : SpH K n φ vs H Q E) : vs.length = n + 1 := by
  obtain ⟨q, vs', G, ds, P, PE, e, hl, s, _, _, r, _⟩ := h
  rw [e, List.length_cons, r.length, hl]
/-- the slots at the entry -/
def startD (N : List Str) (ds : List D) : Sl := ds.map .val ++ List.replicate (N.length - ds.length) .un
def startH (N : List Str) (ds : List D) : Sl := .hand :: (ds.map .val ++ List.replicate (N.length - (ds.length + 1)) .un)
def endsD (P : Ret → Prop) (PE : D → Prop) : DEnds := ⟨fun _ => P (.val .non), P, fun _ => False, fun _ => False, fun x _ => PE x⟩
theorem Sls.unk {K : Fg} {F : Fx} {G H : Hp} : ∀ n : Nat, Sls K F G H (List.replicate n none) (List.replicate n .un) []
  | 0 => .nil
  | n + 1 => .un (Sls.unk n)
theorem Sls.vals {K : Fg} {F : Fx} {G H : Hp} {σ : L2.St} {sl : Sl} (t : Sls K F G H σ sl []) : ∀ {vs : List V} {ds : List D}, RpL K G vs ds → Sls K F G H (vs.map some ++ σ) (ds.map .val ++ sl) []
  | _, _, .nil => t
  | _, _, .cons r rr => .val r (Sls.vals t rr)
theorem start_P {K : Fg} {G H : Hp} {N : List Str} {vs : List V} {ds : List D} (s : Same G H) (r : RpL K G vs ds) : Rel K ⟨none, H, G⟩ G (L2.start N vs) H (startD N ds) := by
  refine ⟨s, Same.refl _, fun _ _ h _ => h, fun _ _ h => .inl h, fun q h => (by cases h), [], ?_⟩
  unfold L2.start startD
  rw [r.length]
  exact Sls.vals (Sls.unk _) r
theorem start_H {K : Fg} {G H : Hp} {N : List Str} {q : Addr} {vs : List V} {ds : List D} (s : Same G H) (hq : HandAt K G H q) (gq : G q = none) (r : RpL K G vs ds) : Rel K ⟨some q, H, G⟩ G (L2.start N (.ref q :: vs)) H (startH N ds) := by
  refine ⟨s, Same.refl _, fun _ _ h _ => h, fun _ _ h => .inl h, fun p h => by cases h; exact ⟨.inl ⟨(let ⟨_, _, _, _, _, z, _⟩ := hq; ⟨_, z⟩), hq⟩, gq⟩, [], ?_⟩
  unfold L2.start startH
  rw [List.length_cons, r.length]
  exact .hand rfl (let ⟨_, _, _, _, _, z, _⟩ := hq; ⟨_, z⟩) (Sls.vals (Sls.unk _) r)
/-- what an exception that leaves a def must be -/
abbrev WOut (E : XK) : WX := fun cls d _ H => E cls d H
theorem SpTo.fits {K : Fg} {F : Fx} {P : Ret → Prop} {PE : D → Prop} {Q : VK} {E : XK} (h : SpTo K F P PE Q E) : Fits K F (WOut E) F.G0 (endsD P PE) { nx := fun _ H' => Q .non H', rt := Q } :=
  ⟨fun sl p G' σ' H' s R => h.1 _ p G' H' .non s (R.ret .non), fun _ z => False.elim z, fun _ z => False.elim z, fun r p G' H' v s R => h.1 r p G' H' v s R, fun x sl p G' σ' H' c d s R z => h.2 x p G' H' c d s R.any z⟩
section
variable {P : Program} {w : World} {K : Fg} {mg : Str → Option Value} {base : Heap}
/-- the context of a def's body -/
abbrev cxD (P : Program) (w : World) (K : Fg) (mg : Str → Option Value) (base : Heap) (N : List Str) (qual : Str) (st : Stmt) (f : Addr) (cdv : Value) (A : Around) (outer : List Env) (s : Shared) (H : Hp) (E : XK) : Cx :=
  cxOf (L2.CX P w) P w K mg base N qual (defScope st) f cdv A outer s H E
abbrev BodyD (P : Program) (w : World) (K : Fg) (mg : Str → Option Value) (base : Heap) (N : List Str) (qual : Str) (st : Stmt) (f : Addr) (k : Nat) (δ : DS) : Prop :=
  ∀ (cdv : Value) (A : Around) (outer : List Env) (s : Shared) (H : Hp) (E : XK) (F : Fx), Room k (A.deeper (PyProof.Rows.envOfC qual (defScope st) s.heap.objs.size f cdv)) → QSs (cxD P w K mg base N qual st f cdv A outer s H E) F (WOut E) (defBody st) δ
/-- THE RULE of a def without the hand: its body's reading over trees -/
theorem fn_P {x qual : Str} {st : Stmt} {f : Addr} {fd : FuncData} {N ps : List Str} {k n : Nat} {φ : Phi} {δ : DS} (F : Fun K x qual st f fd) (S : FnScope N ps (defScope st)) (hn : ps.length = n)
    (hb : BodyD P w K mg base N qual st f k δ) (hd : ∀ ds P PE, ds.length = n → φ ds P PE → δ (endsD P PE) (startD N ds)) : FnOk P w K mg base (L2.CX P w) (k + 1) f fd ps (SpP K n φ) := by
  refine F.okX S (fun vs H Q E h => by rw [hn]; exact h.len) (fun cdv A outer s H vs Q E hr h => ?_)
  obtain ⟨G, ds, P', PE, hl, s1, r, hφ, to⟩ := h
  refine ⟨_, (hb cdv A outer s H E ⟨none, H, G⟩ hr).run, ?_⟩
  exact ⟨G, _, _, start_P s1 r, hd ds P' PE hl hφ, to.fits⟩
theorem fn_H {x qual : Str} {st : Stmt} {f : Addr} {fd : FuncData} {N ps : List Str} {k n : Nat} {φ : Phi} {δ : DS} (F : Fun K x qual st f fd) (S : FnScope N ps (defScope st)) (hn : ps.length = n + 1)
    (hb : BodyD P w K mg base N qual st f k δ) (hd : ∀ ds P PE, ds.length = n → φ ds P PE → δ (endsD P PE) (startH N ds)) : FnOk P w K mg base (L2.CX P w) (k + 1) f fd ps (SpH K n φ) := by
  refine F.okX S (fun vs H Q E h => by rw [hn]; exact h.len) (fun cdv A outer s H vs Q E hr h => ?_)
  obtain ⟨q, vs', G, ds, P', PE, e, hl, s1, hq, gq, r, hφ, to⟩ := h
  subst e
  refine ⟨_, (hb cdv A outer s H E ⟨some q, H, G⟩ hr).run, ?_⟩
  exact ⟨G, _, _, start_H s1 hq gq r, hd ds P' PE hl hφ, to.fits⟩
end

/-! ### calls -/
def Ret.d : Ret → D
  | .val d => d
  | .own d => d
section
variable {K : Fg} {F : Fx} {G G' H H' : Hp} {σ : L2.St} {sl : Sl} {v : V} {r : Ret} {d : D}
/-- behind a call that has not the hand -/
theorem Rel.behind {σ' : L2.St} {sl' : Sl} (R : Rel K F G σ H sl) (R' : Rel K ⟨none, H, G⟩ G' σ' H' sl') : Grown G H G' H' :=
  ⟨R'.g0, R'.ex, fun a o h => R'.fr a o h (fun z => nomatch z), R'.gn⟩
theorem Rel.called (R : Rel K F G σ H sl) (R' : Rel K ⟨none, H, G⟩ G' [some v] H' [r.slot]) : ∃ G2, Same G G2 ∧ Rel K F G2 σ H' sl ∧ Rp K G2 v r.d := by
  cases r with
  | val d =>
    obtain ⟨v', e, r⟩ := R'.frontVal
    cases e
    exact ⟨G', R'.g0, R.grown (R.behind R'), r⟩
  | own d =>
    obtain ⟨a, e, _⟩ := R'.frontOwn
    cases e
    obtain ⟨G2, s2, R2, r2, _⟩ := R'.close
    exact ⟨G2, R2.g0, R.grown (R.behind R2), r2⟩
theorem Rel.calledN (R : Rel K F G σ H sl) (R' : Rel K ⟨none, H, G⟩ G' [some v] H' [.own d]) : ∃ a, v = .ref a ∧ Same G G' ∧ Rel K F G' (some (.ref a) :: σ) H' (.own d :: sl) := by
  have R1 := R.grown (R.behind R')
  obtain ⟨a, e, o, g, h0, _⟩ := R'.frontOwn
  cases e
  obtain ⟨n1, n2, _⟩ := R.new0 (show H a = none from h0)
  refine ⟨a, rfl, R'.g0, ?_⟩
  obtain ⟨h1, h2, h3, h4, h5, as, s⟩ := R1
  obtain ⟨as0, s0⟩ := R.sls
  have hg := R.behind R'
  refine ⟨h1, h2, h3, h4, h5, a :: as0, .own o g n1 n2 (fun z => ?_) (s0.heap hg.g (fun b _ u q => hg.h b u q) fun b hb => ?_)⟩
  · obtain ⟨⟨u, hu⟩, _⟩ := s0.owned a z
    rw [show H a = none from h0] at hu
    cases hu
  · obtain ⟨⟨u, hu⟩, gb, _⟩ := s0.owned b hb
    cases q : G' b with
    | none => rfl
    | some y =>
      rcases hg.n b y q with z | z
      · rw [gb] at z; cases z
      · rw [hu] at z; cases z
/-- behind a call that has the hand -/
theorem Rel.behindH {q : Addr} {σ' : L2.St} {sl' : Sl} (hp : F.p = some q) (R : Rel K F G σ H sl) (R' : Rel K ⟨some q, H, G⟩ G' σ' H' sl') : Rel K F G' σ H' sl := by
  obtain ⟨as, s⟩ := R.sls
  have ne : ∀ a ∈ as, (some q : Option Addr) ≠ some a := fun a ha z => (s.owned a ha).2.2.2 (by rw [hp]; exact z)
  refine ⟨R'.ex, fun a o h => R'.g0 a o (R.g0 a o h), fun a o h n => R'.fr a o (R.fr a o h n) (by rw [← hp]; exact n), fun a o h => ?_, fun b hb => ?_, as, s.heap R'.g0 (fun a ha o h => R'.fr a o h (ne a ha)) fun a ha => ?_⟩
  · rcases R'.gn a o h with z | z
    · exact R.gn a o z
    · exact .inr (R.new0 z).1
  · obtain ⟨c1, c2⟩ := R'.hand b (by rw [← hp]; exact hb)
    refine ⟨?_, c2⟩
    rcases (R.hand b hb).1 with ⟨l, _, _, _, _, _, hl, _⟩ | ⟨C, dx, fs, l, hl⟩
    · rcases c1 with ⟨_, c1⟩ | ⟨C, dx, fs, z, _⟩
      · exact .inl ⟨l, c1⟩
      · exact nomatch (show H b = _ from hl).symm.trans z
    · rcases c1 with ⟨⟨xs, z⟩, _⟩ | ⟨C', dx', fs', z, c1⟩
      · exact nomatch hl.symm.trans (show H b = _ from z)
      · cases hl.symm.trans (show H b = _ from z)
        exact .inr ⟨_, _, _, l, c1⟩
  · obtain ⟨⟨u, hu⟩, ga, _⟩ := s.owned a ha
    cases q : G' a with
    | none => rfl
    | some y =>
      rcases R'.gn a y q with z | z
      · exact nomatch (show G a = some y from z).symm.trans ga
      · exact nomatch (show H a = none from z).symm.trans hu
theorem Rel.calledH {q : Addr} (hp : F.p = some q) (R : Rel K F G σ H sl) (R' : Rel K ⟨some q, H, G⟩ G' [some v] H' [r.slot]) : ∃ G2, Same G G2 ∧ Rel K F G2 σ H' sl ∧ Rp K G2 v r.d := by
  cases r with
  | val d =>
    obtain ⟨v', e, r⟩ := R'.frontVal
    cases e
    exact ⟨G', R'.g0, R.behindH hp R', r⟩
  | own d =>
    obtain ⟨a, e, _⟩ := R'.frontOwn
    cases e
    obtain ⟨G2, s2, R2, r2, _⟩ := R'.close
    exact ⟨G2, R2.g0, R.behindH hp R2, r2⟩
theorem Rel.calledHN {q : Addr} (hp : F.p = some q) (R : Rel K F G σ H sl) (R' : Rel K ⟨some q, H, G⟩ G' [some v] H' [.own d]) : ∃ a, v = .ref a ∧ Same G G' ∧ Rel K F G' (some (.ref a) :: σ) H' (.own d :: sl) := by
  have R1 := R.behindH hp R'
  obtain ⟨a, e, o, g, h0, _⟩ := R'.frontOwn
  cases e
  obtain ⟨n1, n2, _⟩ := R.new0 (show H a = none from h0)
  refine ⟨a, rfl, R'.g0, ?_⟩
  obtain ⟨as0, s0⟩ := R.sls
  have ne : ∀ a ∈ as0, (some q : Option Addr) ≠ some a := fun a ha z => (s0.owned a ha).2.2.2 (by rw [hp]; exact z)
  obtain ⟨h1, h2, h3, h4, h5, as, s⟩ := R1
  refine ⟨h1, h2, h3, h4, h5, a :: as0, .own o g n1 n2 (fun z => ?_) (s0.heap R'.g0 (fun b hb u q => R'.fr b u q (ne b hb)) fun b hb => ?_)⟩
  · obtain ⟨⟨u, hu⟩, _⟩ := s0.owned a z
    rw [show H a = none from h0] at hu
    cases hu
  · obtain ⟨⟨u, hu⟩, gb, _⟩ := s0.owned b hb
    cases q : G' b with
    | none => rfl
    | some y =>
      rcases R'.gn b y q with z | z
      · exact nomatch (show G b = some y from z).symm.trans gb
      · exact nomatch (show H b = none from z).symm.trans hu
end
def dCall (n : Nat) (φ : Phi) (τ : DA) : DE := fun sl E P => τ sl E fun ds sl1 => ds.length = n ∧ φ ds (fun r => P r.d sl1) fun x => E x sl1
/-- what it hands back is a new object of one's own -/
def dCallN (n : Nat) (φ : Phi) (τ : DA) : DE := fun sl E P => τ sl E fun ds sl1 => ds.length = n ∧ φ ds (fun r => ∃ d, r = .own d ∧ P d sl1) fun x => E x sl1
def dCallH (i n : Nat) (φ : Phi) (τ : DA) : DE := fun sl E P => sl[i]? = some .hand ∧ τ sl E fun ds sl1 => sl1[i]? = some .hand ∧ ds.length = n ∧ φ ds (fun r => P r.d sl1) fun x => E x sl1
def dCallHN (i n : Nat) (φ : Phi) (τ : DA) : DE := fun sl E P => sl[i]? = some .hand ∧ τ sl E fun ds sl1 => sl1[i]? = some .hand ∧ ds.length = n ∧ φ ds (fun r => ∃ d, r = .own d ∧ P d sl1) fun x => E x sl1
section
variable {X : Cx} {F : Fx} {W : WX} {k n i : Nat} {f C : Addr} {fd : FuncData} {ps : List Str} {φ : Phi} {x m : Str} {p pos apos : Pos} {e o : Expr} {es : List Expr} {τ : DA} {α : DE}
/-- the callee's promise from what the caller knows -/
theorem sp_P {σ : L2.St} {H G : Hp} {sl : Sl} {E : XP} {P : Ret → Prop} {ds : List D} {vs : List V} {Q : VK} (R : Rel X.K F G σ H sl) (r : RpL X.K G vs ds) (hl : ds.length = n) (h : φ ds P fun x => E x sl)
    (k : ∀ r, P r → ∀ G' H' v, Rel X.K ⟨none, H, G⟩ G' [some v] H' [r.slot] → Q v H') (kx : Thrown X.K F W G E) : SpP X.K n φ vs H Q (WE W σ) :=
  ⟨G, ds, P, _, hl, R.ex, r, h, fun r p G' H' v _ R' => k r p G' H' v R', fun y p G' H' c d s R' z => kx y sl p G' σ H' c d s (R.grown (R.behind R')) z⟩
theorem sp_H {q : Addr} {i : Nat} {σ : L2.St} {H G : Hp} {sl : Sl} {E : XP} {P : Ret → Prop} {ds : List D} {vs : List V} {Q : VK} (hp : F.p = some q) (hi : sl[i]? = some .hand) (R : Rel X.K F G σ H sl) (r : RpL X.K G vs ds) (hl : ds.length = n) (h : φ ds P fun x => E x sl)
    (k : ∀ r, P r → ∀ G' H' v, Rel X.K ⟨some q, H, G⟩ G' [some v] H' [r.slot] → Q v H') (kx : Thrown X.K F W G E) : SpH X.K n φ (.ref q :: vs) H Q (WE W σ) :=
  ⟨q, vs, G, ds, P, _, rfl, hl, R.ex, (by obtain ⟨q', e, _, z, _⟩ := R.handIn hi; cases hp.symm.trans e; exact z), (R.hand q hp).2, r, h, fun r p G' H' v _ R' => k r p G' H' v R', fun y p G' H' c d s R' z => kx y sl p G' σ H' c d s (R.behindH hp R') z⟩
theorem qe_call (G : FnOk X.prog X.w X.K X.mg X.base (L2.CX X.prog X.w) k f fd ps (SpP X.K n φ)) (hr : Room k X.A) (hg : Gl X x) (hm : X.mg x = some (.ref f)) (hk : PySem.W.keepIn X.K (.ref f) = true) (hb : Binds X.K fd ps []) (tk : Takes X W)
    (ha : QA X F W (e :: es) τ) (hdb : (x == ("__debug__" : Str)) = false := by decide) (he : starEach (e :: es) X.env = (false, eval e X.env) :: starEach es X.env := by rfl) (hpl : (backTo pos (starEach es X.env)).any (·.1) = false := by rfl) :
    QE X F W (.Call (.Name x p) (e :: es) [] pos) (dCall n φ τ) :=
  ⟨pe_imp (pe_callS G hr hg hm hk hb (fun σ => passAt tk σ) ha.run hdb he hpl) fun σ H Q h => by
    obtain ⟨G, sl, E, P, R, h, k, kx⟩ := h
    refine ⟨G, sl, E, _, R, h, fun ds sl1 h1 G1 H1 vs s1 R1 r1 => sp_P R1 r1 h1.1 h1.2 (fun r p G2 H2 v R2 => ?_) (kx.mono s1), kx⟩
    obtain ⟨G3, s3, R3, r3⟩ := R1.called R2
    exact k _ sl1 p G3 H2 v (s1.trans s3) R3 r3⟩
theorem qn_call (G : FnOk X.prog X.w X.K X.mg X.base (L2.CX X.prog X.w) k f fd ps (SpP X.K n φ)) (hr : Room k X.A) (hg : Gl X x) (hm : X.mg x = some (.ref f)) (hk : PySem.W.keepIn X.K (.ref f) = true) (hb : Binds X.K fd ps []) (tk : Takes X W)
    (ha : QA X F W (e :: es) τ) (hdb : (x == ("__debug__" : Str)) = false := by decide) (he : starEach (e :: es) X.env = (false, eval e X.env) :: starEach es X.env := by rfl) (hpl : (backTo pos (starEach es X.env)).any (·.1) = false := by rfl) :
    QN X F W (.Call (.Name x p) (e :: es) [] pos) (dCallN n φ τ) :=
  ⟨pe_imp (pe_callS G hr hg hm hk hb (fun σ => passAt tk σ) ha.run hdb he hpl) fun σ H Q h => by
    obtain ⟨G, sl, E, P, R, h, k, kx⟩ := h
    refine ⟨G, sl, E, _, R, h, fun ds sl1 h1 G1 H1 vs s1 R1 r1 => sp_P R1 r1 h1.1 h1.2 (fun r p G2 H2 v R2 => ?_) (kx.mono s1), kx⟩
    obtain ⟨d, rfl, p⟩ := p
    obtain ⟨a, rfl, s3, R3⟩ := R1.calledN R2
    exact k _ sl1 p _ H2 a (s1.trans s3) R3⟩
/-- the hand ahead of the arguments -/
theorem pa_hand {t : TA} (hh : PE X o (tVar i)) (ha : PA X es t) (hs : starEach (o :: es) X.env = (false, eval o X.env) :: starEach es X.env) : PA X (o :: es) (tCons (tVar i) t) := pa_cons hh ha hs
theorem qe_callH (G : FnOk X.prog X.w X.K X.mg X.base (L2.CX X.prog X.w) k f fd ps (SpH X.K n φ)) (hr : Room k X.A) (hg : Gl X x) (hm : X.mg x = some (.ref f)) (hk : PySem.W.keepIn X.K (.ref f) = true) (hb : Binds X.K fd ps []) (tk : Takes X W)
    (hh : PE X o (tVar i)) (ha : QA X F W es τ) (hdb : (x == ("__debug__" : Str)) = false := by decide) (he : starEach (o :: es) X.env = (false, eval o X.env) :: starEach es X.env := by rfl) (hpl : (backTo pos (starEach es X.env)).any (·.1) = false := by rfl) :
    QE X F W (.Call (.Name x p) (o :: es) [] pos) (dCallH i n φ τ) :=
  ⟨pe_imp (pe_callS G hr hg hm hk hb (fun σ => passAt tk σ) (pa_hand hh ha.run he) hdb he hpl) fun σ H Q h => by
    obtain ⟨G, sl, E, P, R, ⟨hi, h⟩, k, kx⟩ := h
    obtain ⟨q, hp, e1, _⟩ := R.handIn hi
    refine ⟨_, e1, G, sl, E, _, R, h, fun ds sl1 h1 G1 H1 vs s1 R1 r1 => sp_H hp h1.1 R1 r1 h1.2.1 h1.2.2 (fun r p G2 H2 v R2 => ?_) (kx.mono s1), kx⟩
    obtain ⟨G3, s3, R3, r3⟩ := R1.calledH hp R2
    exact k _ sl1 p G3 H2 v (s1.trans s3) R3 r3⟩
theorem qn_callH (G : FnOk X.prog X.w X.K X.mg X.base (L2.CX X.prog X.w) k f fd ps (SpH X.K n φ)) (hr : Room k X.A) (hg : Gl X x) (hm : X.mg x = some (.ref f)) (hk : PySem.W.keepIn X.K (.ref f) = true) (hb : Binds X.K fd ps []) (tk : Takes X W)
    (hh : PE X o (tVar i)) (ha : QA X F W es τ) (hdb : (x == ("__debug__" : Str)) = false := by decide) (he : starEach (o :: es) X.env = (false, eval o X.env) :: starEach es X.env := by rfl) (hpl : (backTo pos (starEach es X.env)).any (·.1) = false := by rfl) :
    QN X F W (.Call (.Name x p) (o :: es) [] pos) (dCallHN i n φ τ) :=
  ⟨pe_imp (pe_callS G hr hg hm hk hb (fun σ => passAt tk σ) (pa_hand hh ha.run he) hdb he hpl) fun σ H Q h => by
    obtain ⟨G, sl, E, P, R, ⟨hi, h⟩, k, kx⟩ := h
    obtain ⟨q, hp, e1, _⟩ := R.handIn hi
    refine ⟨_, e1, G, sl, E, _, R, h, fun ds sl1 h1 G1 H1 vs s1 R1 r1 => sp_H hp h1.1 R1 r1 h1.2.1 h1.2.2 (fun r p G2 H2 v R2 => ?_) (kx.mono s1), kx⟩
    obtain ⟨d, rfl, p⟩ := p
    obtain ⟨a, rfl, s3, R3⟩ := R1.calledHN hp R2
    exact k _ sl1 p _ H2 a (s1.trans s3) R3⟩
end
end Dx
namespace Dx
open PySem L2
section
variable {K : Fg}
/-! ### in, is -/
def D.flat : D → Bool
  | .non | .bl _ | .int _ | .str _ => true
  | _ => false
theorem Rp.flat {G : Hp} {v : V} {d : D} (r : Rp K G v d) (h : d.flat = true) : flatV v = true := by
  cases r <;> first | rfl | (cases h; done)
theorem RpL.flat {G : Hp} : ∀ {vs : List V} {ds : List D}, RpL K G vs ds → ds.all D.flat = true → vs.all flatV = true
  | _, _, .nil, _ => rfl
  | _, _, .cons r t, h => by
    rw [List.all_cons, Bool.and_eq_true] at h
    rw [List.all_cons, r.flat h.1, RpL.flat t h.2]
    rfl
theorem eqV_flat {G : Hp} {v w : V} {d e : D} (r : Rp K G v d) (s : Rp K G w e) (h1 : d.flat = true) (h2 : e.flat = true) : eqV v w = D.eqv d e := by
  cases r <;> cases s <;> first | (unfold eqV D.eqv; rfl) | (cases h1; done) | (cases h2; done)
def D.memb (d : D) (ds : List D) : Bool := ds.any fun e => D.eqv e d
theorem inV_flat {G : Hp} {v : V} {d : D} (r : Rp K G v d) (h1 : d.flat = true) : ∀ {vs : List V} {ds : List D}, RpL K G vs ds → ds.all D.flat = true → inV v vs = D.memb d ds
  | _, _, .nil, _ => rfl
  | _, _, .cons s t, h => by
    rw [List.all_cons, Bool.and_eq_true] at h
    have q := inV_flat r h1 t h.2
    unfold inV D.memb at q ⊢
    rw [List.any_cons, List.any_cons, eqV_flat s r h.1 h1, q]
/-- a key of a dict -/
def D.key : D → Option Key
  | .int i => some (.inl i)
  | .str x => some (.inr x)
  | _ => none
theorem Rp.key {G : Hp} {v : V} {d : D} {k : Key} (r : Rp K G v d) (h : d.key = some k) : v = kV k := by
  cases r <;> first | (cases h; rfl) | cases h
/-- what a dict's keys and values hold at a key -/
def atKey (k : Key) : List Key → List D → Option D
  | k' :: ks, d :: ds => if k' = k then some d else atKey k ks ds
  | _, _ => none
def hasKey (k : Key) (ks : List Key) : Bool := ks.any fun k' => decide (k' = k)
theorem valV_keys (k : Key) : ∀ kvs : List (Key × V), (valV kvs k).isSome = hasKey k (kvs.map (·.1))
  | [] => rfl
  | p :: r => by
    by_cases e : p.1 = k
    · rw [valV_pos e]
      unfold hasKey
      rw [List.map_cons, List.any_cons, decide_eq_true e]
      rfl
    · rw [valV_neg e, valV_keys k r]
      unfold hasKey
      rw [List.map_cons, List.any_cons, decide_eq_false e]
      rfl
theorem valV_at {G : Hp} (k : Key) : ∀ {kvs : List (Key × V)} {ds : List D}, RpL K G (kvs.map (·.2)) ds → ∀ {d : D}, atKey k (kvs.map (·.1)) ds = some d → ∃ v, valV kvs k = some v ∧ Rp K G v d
  | [], _, t, d, h => by
    cases t
    cases h
  | p :: r, _, t, d, h => by
    rw [List.map_cons] at t h
    cases t with
    | cons r1 t =>
      unfold atKey at h
      by_cases e : p.1 = k
      · rw [if_pos e] at h
        cases h
        exact ⟨_, valV_pos e, r1⟩
      · rw [if_neg e] at h
        obtain ⟨v, h1, h2⟩ := valV_at k t h
        exact ⟨v, by rw [valV_neg e]; exact h1, h2⟩
def oIn (neg : Bool) : O2 := fun d e P => match e with
  | .str z => ∃ c, d = .str ⟨#[c]⟩ ∧ P (.bl (if neg then !decide (c ∈ z.cps.toList) else decide (c ∈ z.cps.toList)))
  | .lst ds => d.flat = true ∧ ds.all D.flat = true ∧ P (.bl (if neg then !D.memb d ds else D.memb d ds))
  | .tup ds => d.flat = true ∧ ds.all D.flat = true ∧ P (.bl (if neg then !D.memb d ds else D.memb d ds))
  | .dic ks _ => ∃ k, d.key = some k ∧ P (.bl (if neg then !hasKey k ks else hasKey k ks))
  | _ => False
def rInD (K : Fg) (neg : Bool) : R2 := fun x y H Q => (∃ (c : Nat) (z : Str), x = .str ⟨#[c]⟩ ∧ y = .str z ∧ Q (.bl (if neg then !decide (c ∈ z.cps.toList) else decide (c ∈ z.cps.toList))) H) ∨ rIn K neg x y H Q ∨
  ∃ a o, y = .ref a ∧ DGet H a x o ∧ Q (.bl (if neg then !o.isSome else o.isSome)) H
theorem op_dIn {X : Cx} (hu : X.A.units + 1 < cLine) : OpR X (compareOp .In) (fun x y H Q => ∃ a o, y = .ref a ∧ DGet H a x o ∧ Q (.bl o.isSome) H) := by
  intro pins s σ H x y v u Q I rx ry h
  obtain ⟨a, o, rfl, g, q⟩ := h
  cases ry
  exact d_in hu I g rx fun s' I' => ⟨.bl o.isSome, H, I', rfl, q⟩
theorem op_dNotIn {X : Cx} (hu : X.A.units + 1 < cLine) : OpR X (compareOp .NotIn) (fun x y H Q => ∃ a o, y = .ref a ∧ DGet H a x o ∧ Q (.bl (!o.isSome)) H) := by
  intro pins s σ H x y v u Q I rx ry h
  obtain ⟨a, o, rfl, g, q⟩ := h
  cases ry
  exact d_notIn hu I g rx fun s' I' => ⟨.bl (!o.isSome), H, I', rfl, q⟩
theorem op_inD {X : Cx} (hu : X.A.units + 1 < cLine) : OpR X (compareOp .In) (rInD X.K false) := op_in_sign.or (op_in_seq.or (op_dIn hu))
theorem op_notInD {X : Cx} (hu : X.A.units + 1 < cLine) : OpR X (compareOp .NotIn) (rInD X.K true) := op_notIn_sign.or (op_notIn_seq.or (op_dNotIn hu))
theorem rf_in {neg : Bool} : Rf2 K (rInD K neg) (oIn neg) := by
  intro G H x y d e P Q s r1 r2 h k
  cases r2 with
  | str z =>
    obtain ⟨c, rfl, h⟩ := h
    cases r1
    exact .inl ⟨c, z, rfl, rfl, k _ h G H _ (.refl s) (.bl _)⟩
  | lst g t =>
    obtain ⟨h1, h2, h3⟩ := h
    refine .inr (.inl ⟨_, _, rfl, .inl (SqL.of (s _ _ g)), r1.flat h1, t.flat h2, ?_⟩)
    rw [inV_flat r1 h1 t h2]
    exact k _ h3 G H _ (.refl s) (.bl _)
  | tup g t =>
    obtain ⟨h1, h2, h3⟩ := h
    refine .inr (.inl ⟨_, _, rfl, .inr (sqT_mono s g), r1.flat h1, t.flat h2, ?_⟩)
    rw [inV_flat r1 h1 t h2]
    exact k _ h3 G H _ (.refl s) (.bl _)
  | @dic a kvs ks ds g ek t =>
    obtain ⟨kk, h1, h2⟩ := h
    have ex := r1.key h1
    subst ex
    refine .inr (.inr ⟨_, _, rfl, DGet.k (k := kk) (s _ _ g), ?_⟩)
    rw [valV_keys, ek]
    exact k _ h2 G H _ (.refl s) (.bl _)
  | _ => exact h.elim
/-- is None, is True, is False -/
def D.isN : D → Bool
  | .non => true
  | _ => false
def oIs (neg : Bool) : O2 := fun d e P => match e with
  | .non => P (.bl (if neg then !d.isN else d.isN))
  | .bl b => ∃ a, d = .bl a ∧ P (.bl (if neg then !decide (a = b) else decide (a = b)))
  | _ => False
def rIsD (neg : Bool) : R2 := fun x y H Q => (y = .non ∧ Q (.bl (if neg then !decide (x = .non) else decide (x = .non))) H) ∨ ∃ a b : Bool, x = .bl a ∧ y = .bl b ∧ Q (.bl (if neg then !decide (a = b) else decide (a = b))) H
theorem op_isD {X : Cx} : OpR X (compareOp .Is) (rIsD false) := op_isN.or op_isBl
theorem op_isNotD {X : Cx} : OpR X (compareOp .IsNot) (rIsD true) := op_notN.or op_notBl
theorem Rp.isN {G : Hp} {v : V} {d : D} (r : Rp K G v d) : decide (v = .non) = d.isN := by
  cases r <;> first | rfl | (unfold D.isN; exact decide_eq_false (fun z => nomatch z))
theorem rf_is {neg : Bool} : Rf2 K (rIsD neg) (oIs neg) := by
  intro G H x y d e P Q s r1 r2 h k
  cases r2 with
  | non =>
    refine .inl ⟨rfl, ?_⟩
    rw [r1.isN]
    exact k _ h G H _ (.refl s) (.bl _)
  | bl b =>
    obtain ⟨a, rfl, h⟩ := h
    cases r1
    exact .inr ⟨a, b, rfl, rfl, k _ h G H _ (.refl s) (.bl _)⟩
  | _ => exact h.elim

/-! ### x[i] -/
theorem RpL.atI {G : Hp} {vs : List V} {ds : List D} {i : Int} {d : D} (t : RpL K G vs ds) (h : L2.atI ds i = some d) : ∃ v, L2.atI vs i = some v ∧ Rp K G v d := by
  unfold L2.atI at h ⊢
  rw [t.length]
  cases e : ixN ds.length i with
  | none => rw [e] at h; cases h
  | some j =>
    rw [e] at h
    exact t.at h
def oIx : O2 := fun d e P => match d, e with
  | .lst ds, .int i => ∃ f, L2.atI ds i = some f ∧ P f
  | .tup ds, .int i => ∃ f, L2.atI ds i = some f ∧ P f
  | .str z, .int i => z.length ≤ sizeLine ∧ ∃ c, L2.atI z.cps.toList i = some c ∧ P (.str ⟨#[c]⟩)
  | _, _ => False
theorem rf_ix : Rf2 K (rIx K) oIx := by
  intro G H x y d e P Q s r1 r2 h k
  cases r1 with
  | lst g t =>
    cases r2 <;> first | exact h.elim | skip
    obtain ⟨f, h1, h2⟩ := h
    obtain ⟨v, h3, r⟩ := t.atI h1
    exact .inl ⟨_, _, _, v, rfl, rfl, SqL.of (s _ _ g), h3, k _ h2 G H _ (.refl s) r⟩
  | tup g t =>
    cases r2 <;> first | exact h.elim | skip
    obtain ⟨f, h1, h2⟩ := h
    obtain ⟨v, h3, r⟩ := t.atI h1
    exact .inr (.inl ⟨_, _, _, v, rfl, rfl, sqT_mono s g, h3, k _ h2 G H _ (.refl s) r⟩)
  | str z =>
    cases r2 <;> first | exact h.elim | skip
    obtain ⟨h1, c, h2, h3⟩ := h
    exact .inr (.inr ⟨z, _, c, rfl, rfl, h1, h2, k _ h3 G H _ (.refl s) (.str _)⟩)
  | _ => exact h.elim
/-- d[k] -/
def oGet : O2 := fun d e P => match d with
  | .dic ks ds => ∃ k f, e.key = some k ∧ atKey k ks ds = some f ∧ P f
  | _ => False
end
section
variable {X : Cx} {F : Fx} {W : WX} {a b c e : Expr} {es : List Expr} {α β γ : DE} {pos : Pos} {i : Nat} {x : Str} {τ : DA}
theorem qe_ix (ha : QE X F W a α) (hb : QE X F W b β) (hs : PlainIx b := by exact fun _ _ => rfl) : QE X F W (.Subscript a b pos) (dOp oIx α β) :=
  ⟨pe_imp (pe_ix ix_seq ha.run hb.run hs) fun _ _ _ h => LE.op rf_ix h⟩
theorem qe_get (hu : X.A.units + 1 < cLine) (ha : QE X F W a α) (hb : QE X F W b β) (hs : NoSl b := by exact fun _ _ => rfl) : QE X F W (.Subscript a b pos) (dOp oGet α β) :=
  ⟨pe_imp (pe_dget hu ha.run hb.run hs) fun σ H Q h => by
    obtain ⟨G, sl, E, P, R, h, k, kx⟩ := h
    refine ⟨G, sl, E, _, R, h, fun d sl1 h1 G1 H1 v1 s1 R1 r1 => ⟨G1, sl1, E, _, R1, h1, fun d2 sl2 h2 G2 H2 v2 s2 R2 r2 => ?_, kx.mono s1⟩, kx⟩
    cases r1 <;> first | exact h2.elim | skip
    rename_i aa kvs ks ds g ek t
    obtain ⟨kk, f, h3, h4, h5⟩ := h2
    have ex := r2.key h3
    subst ex ek
    obtain ⟨v, h6, r⟩ := valV_at kk t h4
    refine ⟨aa, v, rfl, ?_, k f sl2 h5 G2 H2 v (s1.trans s2) R2 (r.mono s2)⟩
    rw [← h6]
    exact DGet.k (R2.ex _ _ (s2 _ _ g))⟩
/-! ### x[i:j] -/
abbrev DO := Sl → XP → (Option Int → Sl → Prop) → Prop
def LO (K : Fg) (F : Fx) (W : WX) (δ : DO) : TO := fun σ H Q => ∃ G sl E P, Rel K F G σ H sl ∧ δ sl E P ∧ (∀ o sl', P o sl' → ∀ G' H', Same G G' → Rel K F G' σ H' sl' → Q o H') ∧ Thrown K F W G E
structure QO (X : Cx) (F : Fx) (W : WX) (e : Option Expr) (δ : DO) : Prop where
  run : PO X e (LO X.K F W δ)
theorem po_imp {X : Cx} {e : Option Expr} {t t' : TO} (h : PO X e t) (i : ∀ σ H Q, t' σ H Q → t σ H Q) : PO X e t' := ⟨fun pins s σ H Q I q => h.run pins s σ H Q I (i σ H Q q)⟩
def dNoPart : DO := fun sl _ P => P none sl
def dPart (α : DE) : DO := fun sl E P => α sl E fun d sl1 => ∃ i, d = .int i ∧ P (some i) sl1
theorem qo_none : QO X F W none dNoPart := ⟨po_imp po_none fun σ H Q h => by
  obtain ⟨G, sl, E, P, R, h, k, kx⟩ := h
  exact k none sl h G H (Same.refl _) R⟩
theorem qo_some (he : QE X F W e α) : QO X F W (some e) (dPart α) := ⟨po_imp (po_some he.run) fun σ H Q h => by
  obtain ⟨G, sl, E, P, R, h, k, kx⟩ := h
  refine ⟨G, sl, E, _, R, h, fun d sl1 h1 G1 H1 v1 s1 R1 r1 => ?_, kx⟩
  obtain ⟨i, rfl, p⟩ := h1
  cases r1
  exact ⟨i, rfl, k _ sl1 p G1 H1 s1 R1⟩⟩
def cutD (ds : List D) (lo hi : Option Int) : List D := (ds.drop (HT.sIx ds.length 0 lo)).take (HT.sIx ds.length ds.length hi - HT.sIx ds.length 0 lo)
theorem RpL.cut {K : Fg} {G : Hp} {vs : List V} {ds : List D} (t : RpL K G vs ds) (lo hi : Option Int) : RpL K G (cutV vs lo hi) (cutD ds lo hi) := by
  unfold cutV cutD
  rw [t.length]
  exact (t.drop _).take _
def oSl (d : D) (lo hi : Option Int) (P : D → Prop) : Prop := match d with
  | .lst ds => P (.lst (cutD ds lo hi))
  | .tup ds => ¬ (HT.sIx ds.length 0 lo = 0 ∧ HT.sIx ds.length ds.length hi = ds.length) ∧ P (.tup (cutD ds lo hi))
  | .str z => z.length ≤ sizeLine ∧ P (.str (cutS z lo hi))
  | _ => False
def dSl (α : DE) (l1 l2 : DO) : DE := fun sl E P => α sl E fun d sl1 => l1 sl1 E fun lo sl2 => l2 sl2 E fun hi sl3 => oSl d lo hi fun f => P f sl3
theorem qe_slice {lo hi : Option Expr} {p2 : Pos} {l1 l2 : DO} (he : QE X F W e α) (hl : QO X F W lo l1) (hh : QO X F W hi l2) : QE X F W (.Subscript e (.Slice lo hi none p2) pos) (dSl α l1 l2) :=
  ⟨pe_imp (pe_slice (sl_list.or (sl_tup.or sl_str)) he.run hl.run hh.run) fun σ H Q h => by
    obtain ⟨G, sl, E, P, R, h, k, kx⟩ := h
    refine ⟨G, sl, E, _, R, h, fun d sl1 h1 G1 H1 v1 s1 R1 r1 => ⟨G1, sl1, E, _, R1, h1, fun lo sl2 h2 G2 H2 s2 R2 => ⟨G2, sl2, E, _, R2, h2, fun hi sl3 h3 G3 H3 s3 R3 => ?_, (kx.mono s1).mono s2⟩, kx.mono s1⟩, kx⟩
    have r3 := (r1.mono s2).mono s3
    have ss := s1.trans (s2.trans s3)
    cases r3 with
    | lst g t =>
      refine .inl ⟨_, _, rfl, SqL.of (R3.ex _ _ g), fun p hp => ?_⟩
      exact k _ sl3 h3 _ _ _ (ss.trans (Grown.new R3.ex hp _).g) (R3.grown (Grown.new R3.ex hp _)) (.lst upd_same ((t.cut lo hi).mono (Grown.new R3.ex hp _).g))
    | tup g t =>
      refine .inr (.inl ⟨_, _, rfl, sqT_mono R3.ex g, by rw [t.length]; exact h3.1, fun p hp => ?_⟩)
      exact k _ sl3 h3.2 _ _ _ (ss.trans (Grown.new R3.ex hp _).g) (R3.grown (Grown.new R3.ex hp _)) (.tup (SqT.of upd_same) ((t.cut lo hi).mono (Grown.new R3.ex hp _).g))
    | str z => exact .inr (.inr ⟨z, rfl, h3.1, k _ sl3 h3.2 G3 H3 _ ss R3 (.str _)⟩)
    | _ => exact h3.elim⟩

/-! ### built-ins by their names -/
theorem LE.cl {r : List V → Hp → VK → Prop} {ρ : OA} (hr : RfA X.K r ρ) {σ : L2.St} {H : Hp} {Q : VK} (h : LE X.K F W (dCl ρ τ) σ H Q) : tCB r (LA X.K F W τ) σ H Q := by
  obtain ⟨G, sl, E, P, R, h, k, kx⟩ := h
  exact ⟨G, sl, E, _, R, h, fun ds sl1 h1 G1 H1 vs s1 R1 r1 => hr G1 H1 vs ds _ _ R1.ex r1 h1 fun f hf G3 H3 v3 g r3 => k f sl1 hf G3 H3 v3 (s1.trans g.g) (R1.grown g) r3, kx⟩
theorem qe_callB {id : String} {r : List V → Hp → VK → Prop} {ρ : OA} {p : Pos} (hc : CallR X (.builtin id) r) (hr : RfA X.K r ρ) (hg : Gl X x) (hm : X.mg x = none) (hv : bootBuiltins x = some (.builtin id)) (ha : QA X F W (e :: es) τ)
    (hn : x ≠ "__name__" := by decide) (hdb : (x == ("__debug__" : Str)) = false := by decide) (he : starEach (e :: es) X.env = (false, eval e X.env) :: starEach es X.env := by rfl) (hpl : (backTo pos (starEach es X.env)).any (·.1) = false := by rfl) :
    QE X F W (.Call (.Name x p) (e :: es) [] pos) (dCl ρ τ) := ⟨pe_imp (pe_callB hc hg hm hv ha.run hn hdb he hpl) fun _ _ _ h => LE.cl hr h⟩
theorem qe_callT {T : String} {r : List V → Hp → VK → Prop} {ρ : OA} {p : Pos} (hc : CallR X (.type T) r) (hr : RfA X.K r ρ) (hg : Gl X x) (hm : X.mg x = none) (hv : bootBuiltins x = some (.type T)) (ha : QA X F W (e :: es) τ)
    (hn : x ≠ "__name__" := by decide) (hdb : (x == ("__debug__" : Str)) = false := by decide) (he : starEach (e :: es) X.env = (false, eval e X.env) :: starEach es X.env := by rfl) (hpl : (backTo pos (starEach es X.env)).any (·.1) = false := by rfl) :
    QE X F W (.Call (.Name x p) (e :: es) [] pos) (dCl ρ τ) := ⟨pe_imp (pe_callTy hc hg hm hv ha.run hn hdb he hpl) fun _ _ _ h => LE.cl hr h⟩
end
section
variable {K : Fg}
def oLen : OA := fun ds P => match ds with
  | [.lst xs] => P (.int xs.length)
  | [.tup xs] => P (.int xs.length)
  | [.str z] => z.length ≤ sizeLine ∧ P (.int z.length)
  | [.dic ks _] => P (.int ks.length)
  | _ => False
def rLenD (K : Fg) : List V → Hp → VK → Prop := fun xs H Q => (∃ x n, xs = [x] ∧ LenV K x H n ∧ Q (.int n) H) ∨ ∃ a kvs, xs = [.ref a] ∧ Rd H a (.dK kvs) ∧ Q (.int kvs.length) H
theorem call_lenDic {X : Cx} : CallR X (.builtin "len") (fun xs H Q => ∃ a kvs, xs = [.ref a] ∧ Rd H a (.dK kvs) ∧ Q (.int kvs.length) H) := by
  intro pins s σ H xs us Q I r h
  obtain ⟨a, kvs, rfl, hd, q⟩ := h
  obtain ⟨u, rfl, rx⟩ := vals1 r
  cases rx
  exact d_len I hd fun t s' I' => ⟨.int _, H, I', ⟨t, rfl⟩, q⟩
theorem call_lenD {X : Cx} : CallR X (.builtin "len") (rLenD X.K) := call_len.or call_lenDic
theorem rf_len : RfA K (rLenD K) oLen := by
  intro G H xs ds P Q s r h k
  cases r with
  | nil => exact h.elim
  | cons r t =>
    cases t with
    | cons _ _ => cases r <;> exact h.elim
    | nil =>
      cases r with
      | lst g t => exact .inl ⟨_, _, rfl, .inl ⟨_, SqL.of (s _ _ g), rfl⟩, by rw [t.length]; exact k _ h G H _ (.refl s) (.int _)⟩
      | tup g t => exact .inl ⟨_, _, rfl, .inr ⟨_, sqT_mono s g, rfl⟩, by rw [t.length]; exact k _ h G H _ (.refl s) (.int _)⟩
      | str z => exact .inl ⟨_, _, rfl, ⟨h.1, rfl⟩, k _ h.2 G H _ (.refl s) (.int _)⟩
      | @dic a kvs ks ds g ek t => 
        refine .inr ⟨_, _, rfl, .inl (s _ _ g), ?_⟩
        have q := k _ h G H _ (.refl s) (.int _)
        rw [← ek, List.length_map] at q
        exact q
      | _ => exact h.elim
/-- int(n), abs(n), str(n) -/
def oInt : OA := fun ds P => match ds with
  | [.int i] => P (.int i)
  | [.bl b] => P (.int (if b then 1 else 0))
  | _ => False
theorem rf_int : RfA K (fun xs H Q => (∃ i, xs = [.int i] ∧ Q (.int i) H) ∨ ∃ k, xs = [.bl k] ∧ Q (.int (if k then 1 else 0)) H) oInt := by
  intro G H xs ds P Q s r h k
  cases r with
  | nil => exact h.elim
  | cons r t =>
    cases t with
    | cons _ _ => cases r <;> exact h.elim
    | nil =>
      cases r with
      | int i => exact .inl ⟨i, rfl, k _ h G H _ (.refl s) (.int _)⟩
      | bl i => exact .inr ⟨i, rfl, k _ h G H _ (.refl s) (.int _)⟩
      | _ => exact h.elim
def oI1 (C : Int → Prop) (f : Int → D) : OA := fun ds P => match ds with
  | [.int i] => C i ∧ P (f i)
  | _ => False
theorem rf_I1 {C : Int → Prop} {f : Int → D} {g : Int → V} (hf : ∀ G i, Rp K G (g i) (f i)) : RfA K (fun xs H Q => ∃ i, xs = [.int i] ∧ C i ∧ Q (g i) H) (oI1 C f) := by
  intro G H xs ds P Q s r h k
  cases r with
  | nil => exact h.elim
  | cons r t =>
    cases t with
    | cons _ _ => cases r <;> exact h.elim
    | nil =>
      cases r <;> first | exact h.elim | skip
      exact ⟨_, rfl, h.1, k _ h.2 G H _ (.refl s) (hf G _)⟩
abbrev oStrI : OA := oI1 (fun i => i.natAbs.log2 < 1920) fun i => .str (toString i)
theorem rf_strI : RfA K (fun xs H Q => ∃ i, xs = [.int i] ∧ i.natAbs.log2 < 1920 ∧ Q (.str (toString i)) H) oStrI := rf_I1 fun _ _ => .str _
def oAbs : OA := fun ds P => match ds with
  | [.int i] => P (.int (if i < 0 then -i else i))
  | _ => False
theorem rf_abs : RfA K (fun xs H Q => ∃ i, xs = [.int i] ∧ Q (.int (if i < 0 then -i else i)) H) oAbs := by
  intro G H xs ds P Q s r h k
  cases r with
  | nil => exact h.elim
  | cons r t =>
    cases t with
    | cons _ _ => cases r <;> exact h.elim
    | nil =>
      cases r <;> first | exact h.elim | skip
      exact ⟨_, rfl, k _ h G H _ (.refl s) (.int _)⟩
def oI2 (f : Int → Int → D) : OA := fun ds P => match ds with
  | [.int i, .int j] => P (f i j)
  | _ => False
theorem rf_I2 {f : Int → Int → D} {g : Int → Int → V} (hf : ∀ G i j, Rp K G (g i j) (f i j)) : RfA K (fun xs H Q => ∃ i j, xs = [.int i, .int j] ∧ Q (g i j) H) (oI2 f) := by
  intro G H xs ds P Q s r h k
  cases r with
  | nil => exact h.elim
  | cons r t =>
    cases t with
    | nil => cases r <;> exact h.elim
    | cons r2 t =>
      cases t with
      | cons _ _ => cases r <;> first | exact h.elim | (cases r2 <;> exact h.elim)
      | nil =>
        cases r <;> first | exact h.elim | skip
        cases r2 <;> first | exact h.elim | skip
        exact ⟨_, _, rfl, k _ h G H _ (.refl s) (hf G _ _)⟩
abbrev oMin2 : OA := oI2 fun i j => .int (if j < i then j else i)
abbrev oMax2 : OA := oI2 fun i j => .int (if j > i then j else i)
/-- divmod: a tuple -/
def oDivmod : OA := fun ds P => match ds with
  | [.int i, .int j] => CDiv i j ∧ P (.tup [.int (i / j), .int (i % j)])
  | _ => False
theorem rf_divmod : RfA K (fun xs H Q => ∃ i j, xs = [.int i, .int j] ∧ CDiv i j ∧ ∀ p, H p = none → Q (.ref p) (upd H p (.tup [.int (i / j), .int (i % j)]))) oDivmod := by
  intro G H xs ds P Q s r h k
  cases r with
  | nil => exact h.elim
  | cons r t =>
    cases t with
    | nil => cases r <;> exact h.elim
    | cons r2 t =>
      cases t with
      | cons _ _ => cases r <;> first | exact h.elim | (cases r2 <;> exact h.elim)
      | nil =>
        cases r <;> first | exact h.elim | skip
        cases r2 <;> first | exact h.elim | skip
        exact ⟨_, _, rfl, h.1, fun p hp => k _ h.2 _ _ _ (Grown.new s hp _) (.tup (SqT.of upd_same) (.cons (.int _) (.cons (.int _) .nil)))⟩
/-- list(x), tuple(x) of a list or a tuple -/
def oList : OA := fun ds P => match ds with
  | [.lst xs] => P (.lst xs)
  | [.tup xs] => P (.lst xs)
  | _ => False
theorem rf_list : RfA K (fun xs H Q => ∃ p ys, xs = [.ref p] ∧ (SqL K H p ys ∨ SqT K H p ys) ∧ ∀ l, H l = none → Q (.ref l) (upd H l (.lst ys))) oList := by
  intro G H xs ds P Q s r h k
  cases r with
  | nil => exact h.elim
  | cons r t =>
    cases t with
    | cons _ _ => cases r <;> exact h.elim
    | nil =>
      cases r with
      | lst g t => exact ⟨_, _, rfl, .inl (SqL.of (s _ _ g)), fun l hl => k _ h _ _ _ (Grown.new s hl _) (.lst upd_same (t.mono (Grown.new s hl _).g))⟩
      | tup g t => exact ⟨_, _, rfl, .inr (sqT_mono s g), fun l hl => k _ h _ _ _ (Grown.new s hl _) (.lst upd_same (t.mono (Grown.new s hl _).g))⟩
      | _ => exact h.elim
def oTuple : OA := fun ds P => match ds with
  | [.lst xs] => P (.tup xs)
  | [.tup xs] => P (.tup xs)
  | _ => False
theorem rf_tuple : RfA K (fun xs H Q => ∃ p ys, xs = [.ref p] ∧ ((SqL K H p ys ∧ ∀ l, H l = none → Q (.ref l) (upd H l (.tup ys))) ∨ (SqT K H p ys ∧ Q (.ref p) H))) oTuple := by
  intro G H xs ds P Q s r h k
  cases r with
  | nil => exact h.elim
  | cons r t =>
    cases t with
    | cons _ _ => cases r <;> exact h.elim
    | nil =>
      cases r with
      | lst g t => exact ⟨_, _, rfl, .inl ⟨SqL.of (s _ _ g), fun l hl => k _ h _ _ _ (Grown.new s hl _) (.tup (SqT.of upd_same) (t.mono (Grown.new s hl _).g))⟩⟩
      | tup g t => exact ⟨_, _, rfl, .inr ⟨sqT_mono s g, k _ h G H _ (.refl s) (.tup g t)⟩⟩
      | _ => exact h.elim
/-- x.upper() of a text -/
def oUpper : O1 := fun d P => match d with
  | .str z => z.length ≤ 5592405 ∧ P (.str (Txt.upper z))
  | _ => False
end
section
variable {X : Cx} {F : Fx} {W : WX} {a b c e o : Expr} {es : List Expr} {α β γ : DE} {pos : Pos} {i : Nat} {x : Str} {τ : DA}
theorem qe_upper {apos cpos : Pos} (ho : QE X F W o α) (hbase : attributeBase o "upper" X.env (eval o X.env) = eval o X.env := by rfl) (hline : (apos.endLine == cpos.line) = true := by rfl) :
    QE X F W (.Call (.Attribute o "upper" apos) [] [] cpos) (dUn oUpper α) :=
  ⟨pe_imp (pe_upper ho.run hbase hline) fun σ H Q h => by
    obtain ⟨G, sl, E, P, R, h, k, kx⟩ := h
    refine ⟨G, sl, E, _, R, h, fun d sl1 h1 G1 H1 v1 s1 R1 r1 => ?_, kx⟩
    cases r1 <;> first | exact h1.elim | skip
    exact ⟨⟨_, rfl⟩, _, rfl, rfl, h1.1, k _ sl1 h1.2 G1 H1 _ s1 R1 (.str _)⟩⟩
/-- list(x) as a new object of one's own -/
theorem qn_list {p : Pos} (hg : Gl X "list") (hm : X.mg "list" = none) (hv : bootBuiltins "list" = some (.type "list")) (ha : QA X F W (e :: es) τ)
    (he : starEach (e :: es) X.env = (false, eval e X.env) :: starEach es X.env := by rfl) (hpl : (backTo pos (starEach es X.env)).any (·.1) = false := by rfl) :
    QN X F W (.Call (.Name "list" p) (e :: es) [] pos) (dCl oList τ) :=
  ⟨pe_imp (pe_callTy call_list_of hg hm hv ha.run (by decide) (by decide) he hpl) fun σ H Q h => by
    obtain ⟨G, sl, E, P, R, h, k, kx⟩ := h
    refine ⟨G, sl, E, _, R, h, fun ds sl1 h1 G1 H1 vs s1 R1 r1 => ?_, kx⟩
    cases r1 with
    | nil => exact h1.elim
    | cons r t =>
      cases t with
      | cons _ _ => cases r <;> exact h1.elim
      | nil =>
        cases r with
        | lst g t => exact ⟨_, _, rfl, .inl (SqL.of (R1.ex _ _ g)), fun l hl => k _ sl1 h1 _ _ l s1 (R1.own hl _ ⟨_, upd_same, t⟩)⟩
        | tup g t => exact ⟨_, _, rfl, .inr (sqT_mono R1.ex g), fun l hl => k _ sl1 h1 _ _ l s1 (R1.own hl _ ⟨_, upd_same, t⟩)⟩
        | _ => exact h1.elim⟩
end
end Dx
namespace Dx
open PySem L2
/-! ### isinstance -/
/-- the built-in type of a tree -/
def D.ty : D → String
  | .non => "NoneType"
  | .bl _ => "bool"
  | .int _ => "int"
  | .str _ => "str"
  | .lst _ => "list"
  | .tup _ => "tuple"
  | .dic _ _ => "dict"
  | .obj _ _ _ => ""
  | .scr _ => ""
def tyNames : List String := ["NoneType", "bool", "int", "str", "list", "tuple", "dict"]
def D.isObj : D → Bool
  | .obj _ _ _ => true
  | .scr _ => true
  | _ => false
theorem Rp.tyX {K : Fg} {G H : Hp} {v : V} {d : D} (s : Same G H) (r : Rp K G v d) (h : d.isObj = false) : TyX K H v (.type d.ty) := by
  cases r with
  | non => exact .base .non
  | bl b => exact .base (.bl b)
  | int i => exact .base (.int i)
  | str x => exact .base (.str x)
  | lst g t => exact .base (.lst (s _ _ g))
  | tup g t =>
    rcases g with (g | ⟨o, g⟩) | ⟨o, its, n, hk, hc, _⟩
    · exact .base (.tup (s _ _ g))
    · exact .fTuple (s _ _ g)
    · exact .kTuple hk hc
  | dic g k t => exact .base (.dK (s _ _ g))
  | obj g k t => cases h
  | scr g => cases h
def subTy (a b : String) : Bool := decide (a = b) || (decide (a = "bool") && decide (b = "int"))
theorem kitB_all : ∀ a ∈ tyNames, ∀ b ∈ tyNames, kitB a b = some (subTy a b) := by decide +kernel
theorem ty_mem (d : D) (h : d.isObj = false) : d.ty ∈ tyNames := by
  cases d <;> first | (cases h; done) | (unfold D.ty tyNames; simp)
/-- isinstance(x, T), T a built-in type -/
def oIsi (T : String) : O1 := fun d P => d.isObj = false ∧ P (.bl (subTy d.ty T))
def oIsi2 (T U : String) : O1 := fun d P => d.isObj = false ∧ P (.bl (subTy d.ty T || subTy d.ty U))
section
variable {X : Cx} {F : Fx} {W : WX} {a b c e o : Expr} {es : List Expr} {α β γ : DE} {pos p p1 p2 p3 : Pos} {i : Nat} {x T U : Str} {τ : DA} {T' U' : String} {kk : Nat}
theorem qe_isi (hg : Gl X "isinstance") (hm : X.mg "isinstance" = none) (hv : bootBuiltins "isinstance" = some (.builtin "isinstance")) (gT : Gl X T) (mT : X.mg T = none) (vT : bootBuiltins T = some (.type T')) (hT : T' ∈ tyNames)
    (ha : QE X F W e α) (nT : T ≠ "__name__" := by decide) (dT : (T == ("__debug__" : Str)) = false := by decide) (he : starEach [e, .Name T p1] X.env = (false, eval e X.env) :: starEach [.Name T p1] X.env := by rfl) (hpl : (backTo pos (starEach [.Name T p1] X.env)).any (·.1) = false := by rfl)
    (he2 : starEach [.Name T p1] X.env = (false, eval (.Name T p1) X.env) :: starEach [] X.env := by rfl) :
    QE X F W (.Call (.Name "isinstance" p) [e, .Name T p1] [] pos) (dUn (oIsi T') α) :=
  ⟨pe_imp (pe_callB call_isi hg hm hv (pa_cons ha.run (pa_cons (pe_bltn gT mT vT (v := .ty T') rfl nT dT) pa_nil he2) he) (by decide) (by decide) he hpl) fun σ H Q h => by
    obtain ⟨G, sl, E, P, R, h, k, kx⟩ := h
    refine ⟨G, sl, E, _, R, h, fun d sl1 h1 G1 H1 v1 s1 R1 r1 => ?_, kx⟩
    exact ⟨v1, .ty T', _, _, _, rfl, .ty T', r1.tyX R1.ex h1.1, kit_ty (kitB_all _ (ty_mem d h1.1) _ hT), k _ sl1 h1.2 G1 H1 _ s1 R1 (.bl _)⟩⟩
theorem qe_isi2 (hg : Gl X "isinstance") (hm : X.mg "isinstance" = none) (hv : bootBuiltins "isinstance" = some (.builtin "isinstance")) (gT : Gl X T) (mT : X.mg T = none) (vT : bootBuiltins T = some (.type T')) (hT : T' ∈ tyNames)
    (gU : Gl X U) (mU : X.mg U = none) (vU : bootBuiltins U = some (.type U')) (hU : U' ∈ tyNames)
    (ha : QE X F W e α) (nT : T ≠ "__name__" := by decide) (dT : (T == ("__debug__" : Str)) = false := by decide) (nU : U ≠ "__name__" := by decide) (dU : (U == ("__debug__" : Str)) = false := by decide)
    (he : starEach [e, .Tuple [.Name T p1, .Name U p2] kk p3] X.env = (false, eval e X.env) :: starEach [.Tuple [.Name T p1, .Name U p2] kk p3] X.env := by rfl) (hpl : (backTo pos (starEach [.Tuple [.Name T p1, .Name U p2] kk p3] X.env)).any (·.1) = false := by rfl)
    (he2 : starEach [.Tuple [.Name T p1, .Name U p2] kk p3] X.env = (false, eval (.Tuple [.Name T p1, .Name U p2] kk p3) X.env) :: starEach [] X.env := by rfl)
    (he3 : starEach [.Name T p1, .Name U p2] X.env = (false, eval (.Name T p1) X.env) :: starEach [.Name U p2] X.env := by rfl) (he4 : starEach [.Name U p2] X.env = (false, eval (.Name U p2) X.env) :: starEach [] X.env := by rfl) :
    QE X F W (.Call (.Name "isinstance" p) [e, .Tuple [.Name T p1, .Name U p2] kk p3] [] pos) (dUn (oIsi2 T' U') α) :=
  ⟨pe_imp (pe_callB call_isiT hg hm hv (pa_cons ha.run (pa_cons (pe_tup (pa_cons (pe_bltn gT mT vT (v := .ty T') rfl nT dT) (pa_cons (pe_bltn gU mU vU (v := .ty U') rfl nU dU) pa_nil he4) he3)) pa_nil he2) he) (by decide) (by decide) he hpl) fun σ H Q h => by
    obtain ⟨G, sl, E, P, R, h, k, kx⟩ := h
    refine ⟨G, sl, E, _, R, h, fun d sl1 h1 G1 H1 v1 s1 R1 r1 => ?_, kx⟩
    refine ⟨(by show 2 ≤ sizeLine; rw [sizeLine_eq]; decide), fun tp htp => ?_⟩
    have g := Grown.new R1.ex htp (.tup [.ty T', .ty U'])
    have R2 := R1.grown g
    refine ⟨v1, tp, [.ty T', .ty U'], _, _, _, rfl, upd_same, .cons (.ty _) (.cons (.ty _) .nil), (r1.mono g.g).tyX R2.ex h1.1, kitAny_cons (kit_ty (kitB_all _ (ty_mem d h1.1) _ hT)) (r := subTy d.ty T' || subTy d.ty U') (fun hb => ?_) (fun hb => by rw [hb]; rfl), k _ sl1 h1.2 _ _ _ (s1.trans g.g) R2 (.bl _)⟩
    rw [hb, Bool.false_or]
    exact kitAny_cons (kit_ty (kitB_all _ (ty_mem d h1.1) _ hU)) (r := subTy d.ty U') (fun hb => by rw [hb]; rfl) fun hb => hb⟩
end
/-! ### what is walked -/
section
variable {X : Cx} {F : Fx} {W : WX} {tg e e2 : Expr} {es : List Expr} {α β : DE} {τ : DA} {pos p : Pos}
/-- a list, a tuple, a text -/
def dItems (f : D → Option (List D)) (α : DE) : DI := fun sl E P => α sl E fun d sl1 => ∃ ds, f d = some ds ∧ P ds sl1
def asLst : D → Option (List D)
  | .lst ds => some ds
  | .scr ns => some (ns.map .int)
  | _ => none
def asTup : D → Option (List D)
  | .tup ds => some ds
  | _ => none
def signs (z : Str) : List D := z.cps.toList.map fun c => .str ⟨#[c]⟩
def asStr : D → Option (List D)
  | .str z => some (signs z)
  | _ => none
theorem walked_list {K : Fg} {G : Hp} {a : Addr} {xs : List V} {ds : List D} (g : SqL K G a xs) (t : RpL K G xs ds) : Walked K G (Itl K a) ds := by
  intro i Gc H s1 s2
  have hq : SqL K H a xs := sqL_mono s2 (sqL_mono s1 g)
  refine ⟨fun d hd => ?_, fun h => ⟨xs, hq, by rw [t.length]; exact h⟩⟩
  obtain ⟨v, hv, r⟩ := t.at hd
  refine ⟨⟨xs, v, hq, hv⟩, fun x H' y => ?_⟩
  obtain ⟨rfl, y⟩ := y
  have e := (y xs hq).symm.trans hv
  cases e
  exact ⟨Gc, .refl s2, r.mono s1⟩
theorem walked_tup {K : Fg} {G : Hp} {a : Addr} {xs : List V} {ds : List D} (g : SqT K G a xs) (t : RpL K G xs ds) : Walked K G (Itt K a) ds := by
  intro i Gc H s1 s2
  have hq : SqT K H a xs := sqT_mono s2 (sqT_mono s1 g)
  refine ⟨fun d hd => ?_, fun h => ⟨xs, hq, by rw [t.length]; exact h⟩⟩
  obtain ⟨v, hv, r⟩ := t.at hd
  refine ⟨⟨xs, v, hq, hv⟩, fun x H' y => ?_⟩
  obtain ⟨rfl, y⟩ := y
  have e := (y xs hq).symm.trans hv
  cases e
  exact ⟨Gc, .refl s2, r.mono s1⟩
theorem walked_str {K : Fg} {G : Hp} {z : Str} : Walked K G (Its z) (signs z) := by
  intro i Gc H s1 s2
  unfold signs
  refine ⟨fun d hd => ?_, fun h => by show z.cps.size ≤ i; simpa using h⟩
  rw [List.getElem?_map] at hd
  obtain ⟨c, hc, rfl⟩ := Option.map_eq_some_iff.mp hd
  rw [Array.getElem?_toList] at hc
  refine ⟨?_, fun x H' y => ?_⟩
  · obtain ⟨h, _⟩ := Array.getElem?_eq_some_iff.mp hc
    exact h
  · obtain ⟨rfl, c', hc', rfl⟩ := y
    rw [hc] at hc'
    cases hc'
    exact ⟨Gc, .refl s2, .str _⟩
theorem qi_list (h : QE X F W e α) : QI X F W tg e (dItems asLst α) := ⟨pi_imp (pi_list h.run) fun σ H R h => by
  obtain ⟨G, sl, E, P, Re, h, k, kx⟩ := h
  refine ⟨G, sl, E, _, Re, h, fun d sl1 h1 G1 H1 v1 s1 R1 r1 => ?_, kx⟩
  obtain ⟨ds, h1, p⟩ := h1
  cases r1 with
  | lst g t =>
    cases h1
    exact ⟨_, rfl, ⟨_, SqL.of (R1.ex _ _ g)⟩, k ds sl1 p G1 H1 _ s1 R1 (walked_list (SqL.of g) t)⟩
  | scr g =>
    cases h1
    exact ⟨_, rfl, ⟨_, sqL_mono R1.ex g⟩, k _ sl1 p G1 H1 _ s1 R1 (walked_list g (RpL.ints _))⟩
  | _ => cases h1⟩
theorem qi_tup (h : QE X F W e α) : QI X F W tg e (dItems asTup α) := ⟨pi_imp (pi_tup h.run) fun σ H R h => by
  obtain ⟨G, sl, E, P, Re, h, k, kx⟩ := h
  refine ⟨G, sl, E, _, Re, h, fun d sl1 h1 G1 H1 v1 s1 R1 r1 => ?_, kx⟩
  obtain ⟨ds, h1, p⟩ := h1
  cases r1 <;> first | (cases h1; done) | skip
  rename_i g t
  cases h1
  exact ⟨_, rfl, ⟨_, sqT_mono R1.ex g⟩, k ds sl1 p G1 H1 _ s1 R1 (walked_tup g t)⟩⟩
theorem qi_str (h : QE X F W e α) : QI X F W tg e (dItems asStr α) := ⟨pi_imp (pi_str h.run) fun σ H R h => by
  obtain ⟨G, sl, E, P, Re, h, k, kx⟩ := h
  refine ⟨G, sl, E, _, Re, h, fun d sl1 h1 G1 H1 v1 s1 R1 r1 => ?_, kx⟩
  obtain ⟨ds, h1, p⟩ := h1
  cases r1 <;> first | (cases h1; done) | skip
  cases h1
  exact ⟨_, rfl, k _ sl1 p G1 H1 _ s1 R1 walked_str⟩⟩
/-- a list or a tuple -/
def asSeq : D → Option (List D)
  | .lst ds => some ds
  | .tup ds => some ds
  | _ => none
def iSeq (K : PySem.W.Frag) (te : TE) : TI := fun σ H R => te σ H fun x H1 => (∃ a, x = .ref a ∧ (∃ xs, SqL K H1 a xs) ∧ R (Itl K a) H1) ∨ (∃ a, x = .ref a ∧ (∃ xs, SqT K H1 a xs) ∧ R (Itt K a) H1) ∨ ∃ z, x = .str z ∧ R (Its z) H1
/-- rangeD from a number on -/
def rangeD (lo : Int) (n : Nat) : List D := (List.range n).map fun (k : Nat) => .int (lo + (k : Int))
theorem walked_range {K : Fg} {G : Hp} {lo : Int} {n : Nat} : Walked K G (Itr lo n) (rangeD lo n) := by
  intro i Gc H s1 s2
  unfold rangeD
  refine ⟨fun d hd => ?_, fun h => by show n ≤ i; simpa using h⟩
  rw [List.getElem?_map] at hd
  obtain ⟨c, hc, rfl⟩ := Option.map_eq_some_iff.mp hd
  obtain ⟨h, rfl⟩ := List.getElem?_eq_some_iff.mp hc
  rw [List.getElem_range] at *
  refine ⟨by show i < n; simpa using h, fun x H' y => ?_⟩
  obtain ⟨rfl, rfl⟩ := y
  exact ⟨Gc, .refl s2, .int _⟩
def dRange1 (τ : DA) : DI := fun sl E P => τ sl E fun ds sl1 => ∃ n : Int, ds = [.int n] ∧ -(2 ^ 62) ≤ n ∧ n < 2 ^ 62 ∧ P (rangeD 0 n.toNat) sl1
def dRange2 (τ : DA) : DI := fun sl E P => τ sl E fun ds sl1 => ∃ m n : Int, ds = [.int m, .int n] ∧ (-(2 ^ 62) ≤ m ∧ m < 2 ^ 62 ∧ -(2 ^ 62) ≤ n ∧ n < 2 ^ 62) ∧ P (rangeD m (n - m).toNat) sl1
theorem qi_range1 (hg : Gl X "range") (hm : X.mg "range" = none) (ha : QA X F W [e] τ) (hs : starEach [e] X.env = [(false, eval e X.env)] := by rfl) : QI X F W tg (.Call (.Name "range" p) [e] [] pos) (dRange1 τ) :=
  ⟨pi_imp (pi_range1 hg hm ha.run hs) fun σ H R h => by
    obtain ⟨G, sl, E, P, Re, h, k, kx⟩ := h
    refine ⟨G, sl, E, _, Re, h, fun ds sl1 h1 G1 H1 vs s1 R1 r1 => ?_, kx⟩
    obtain ⟨n, rfl, h2, h3, p⟩ := h1
    cases r1 with
    | cons r t =>
      cases t
      cases r
      exact ⟨n, rfl, h2, h3, k _ sl1 p G1 H1 _ s1 R1 walked_range⟩⟩
theorem qi_range2 (hg : Gl X "range") (hm : X.mg "range" = none) (ha : QA X F W [e, e2] τ) (hs : starEach [e, e2] X.env = [(false, eval e X.env), (false, eval e2 X.env)] := by rfl) (hs2 : starEach [e2] X.env = [(false, eval e2 X.env)] := by rfl) :
    QI X F W tg (.Call (.Name "range" p) [e, e2] [] pos) (dRange2 τ) :=
  ⟨pi_imp (pi_range2 hg hm ha.run hs hs2) fun σ H R h => by
    obtain ⟨G, sl, E, P, Re, h, k, kx⟩ := h
    refine ⟨G, sl, E, _, Re, h, fun ds sl1 h1 G1 H1 vs s1 R1 r1 => ?_, kx⟩
    obtain ⟨m, n, rfl, h2, p⟩ := h1
    cases r1 with
    | cons r t =>
      cases t with
      | cons r2 t =>
        cases t
        cases r
        cases r2
        exact ⟨m, n, rfl, h2, k _ sl1 p G1 H1 _ s1 R1 walked_range⟩⟩
/-- enumerate(list), zip(list, list): pairs in tuples -/
def numbered : Nat → List D → List D
  | _, [] => []
  | i, d :: ds => .tup [.int (i : Int), d] :: numbered (i + 1) ds
theorem numbered_at : ∀ (ds : List D) (k i : Nat), (numbered k ds)[i]? = (ds[i]?).map fun d => .tup [.int ((k + i : Nat) : Int), d]
  | [], _, _ => by simp [numbered]
  | d :: ds, k, 0 => by simp [numbered]
  | d :: ds, k, i + 1 => by
    unfold numbered
    rw [List.getElem?_cons_succ, List.getElem?_cons_succ, numbered_at ds (k + 1) i]
    have e : k + 1 + i = k + (i + 1) := by omega
    rw [e]
theorem numbered_len : ∀ (ds : List D) (k : Nat), (numbered k ds).length = ds.length
  | [], _ => rfl
  | d :: ds, k => by
    unfold numbered
    rw [List.length_cons, List.length_cons, numbered_len ds]
theorem walked_enum {K : Fg} {G : Hp} {a : Addr} {xs : List V} {ds : List D} (g : SqL K G a xs) (t : RpL K G xs ds) : Walked K G (Ite K a) (numbered 0 ds) := by
  intro i Gc H s1 s2
  have hq : SqL K H a xs := sqL_mono s2 (sqL_mono s1 g)
  refine ⟨fun d hd => ?_, fun h => ⟨xs, hq, by rw [t.length, ← numbered_len ds 0]; exact h⟩⟩
  rw [numbered_at] at hd
  obtain ⟨d', hd', rfl⟩ := Option.map_eq_some_iff.mp hd
  obtain ⟨v, hv, r⟩ := t.at hd'
  refine ⟨⟨xs, v, hq, hv⟩, fun x H' y => ?_⟩
  obtain ⟨T, w, rfl, hT, rfl, y⟩ := y
  have e := (y xs hq).symm.trans hv
  cases e
  refine ⟨_, Grown.new s2 hT _, .tup (SqT.of upd_same) (.cons ?_ (.cons ((r.mono s1).mono (Grown.new s2 hT _).g) .nil))⟩
  rw [Nat.zero_add]
  exact .int _
def dEnum (τ : DA) : DI := fun sl E P => τ sl E fun ds sl1 => ∃ d xs, ds = [d] ∧ asLst d = some xs ∧ P (numbered 0 xs) sl1
theorem qi_enum {elts : List Expr} {kk : Nat} {tpos : Pos} (hg : Gl X "enumerate") (hm : X.mg "enumerate" = none) (ha : QA X F W [e] τ) (hs : starEach [e] X.env = [(false, eval e X.env)] := by rfl) :
    QI X F W (.Tuple elts kk tpos) (.Call (.Name "enumerate" p) [e] [] pos) (dEnum τ) := ⟨pi_imp (pi_enum hg hm ha.run hs) fun σ H R h => by
  obtain ⟨G, sl, E, P, Re, h, k, kx⟩ := h
  refine ⟨G, sl, E, _, Re, h, fun ds sl1 h1 G1 H1 vs s1 R1 r1 => ?_, kx⟩
  obtain ⟨d, xs, rfl, e, p⟩ := h1
  cases r1 with
  | cons r t =>
    cases t
    cases r with
    | lst g t =>
      cases e
      exact ⟨_, _, rfl, SqL.of (R1.ex _ _ g), k _ sl1 p G1 H1 _ s1 R1 (walked_enum (SqL.of g) t)⟩
    | scr g =>
      cases e
      exact ⟨_, _, rfl, sqL_mono R1.ex g, k _ sl1 p G1 H1 _ s1 R1 (walked_enum g (RpL.ints _))⟩
    | _ => cases e⟩
end
/-! ### comprehensions -/
/-- what another block may not touch is out of its sight -/
def Slot.hid : Slot → Slot
  | .own _ => .un
  | s => s
def unsets (sl : Sl) : List Nat → Sl
  | [] => sl
  | v :: vs => (unsets sl vs).set v .un
section
variable {K : Fg} {F : Fx} {G G' H H' : Hp} {σ σ' : L2.St} {sl sl' : Sl}
theorem Sls.hide (hh : ∀ q, F.p = some q → (∃ xs, F.H0 q = some (.lst xs)) → ∃ xs, H q = some (.lst xs)) : ∀ {σ : L2.St} {sl : Sl} {as : List Addr}, Sls K F G H σ sl as → Sls K ⟨F.p, H, G⟩ G H σ (sl.map Slot.hid) []
  | _, _, _, .nil => .nil
  | _, _, _, .un t => .un (Sls.hide hh t)
  | _, _, _, .val r t => .val r (Sls.hide hh t)
  | _, _, _, .own _ _ _ _ _ t => .un (Sls.hide hh t)
  | _, _, _, .hand p lx t => .hand p (hh _ p lx) (Sls.hide hh t)
  | _, _, _, .pin p t => .pin p (Sls.hide hh t)
theorem Rel.inside (R : Rel K F G σ H sl) : Rel K ⟨F.p, H, G⟩ G σ H (sl.map Slot.hid) := by
  obtain ⟨as, s⟩ := R.sls
  refine ⟨R.ex, Same.refl _, fun _ _ h _ => h, fun _ _ h => .inl h, fun q hq => ⟨?_, (R.hand q hq).2⟩, [], s.hide fun q hq lx => ?_⟩
  · rcases (R.hand q hq).1 with ⟨_, h⟩ | ⟨C, dx, fs, _, h⟩
    · exact .inl ⟨(let ⟨_, _, _, _, _, z, _⟩ := h; ⟨_, z⟩), h⟩
    · exact .inr ⟨C, dx, fs, h, h⟩
  · rcases (R.hand q hq).1 with ⟨_, h⟩ | ⟨C, dx, fs, h, _⟩
    · exact (let ⟨_, _, _, _, _, z, _⟩ := h; ⟨_, z⟩)
    · obtain ⟨xs, lx⟩ := lx
      exact nomatch lx.symm.trans h
theorem Rel.outside (R : Rel K F G σ H sl) (R' : Rel K ⟨F.p, H, G⟩ G' σ' H' sl') : Rel K F G' σ H' sl := by
  obtain ⟨as, s⟩ := R.sls
  refine ⟨R'.ex, fun a o h => R'.g0 a o (R.g0 a o h), fun a o h n => R'.fr a o (R.fr a o h n) n, fun a o h => ?_, fun b hb => ?_, as, s.heap R'.g0 (fun a ha o h => R'.fr a o h (s.owned a ha).2.2.2) fun a ha => ?_⟩
  · rcases R'.gn a o h with z | z
    · exact R.gn a o z
    · exact .inr (R.new0 z).1
  · obtain ⟨c1, c2⟩ := R'.hand b hb
    refine ⟨?_, c2⟩
    rcases (R.hand b hb).1 with ⟨l, _, _, _, _, _, hl, _⟩ | ⟨C, dx, fs, l, hl⟩
    · rcases c1 with ⟨_, c1⟩ | ⟨C, dx, fs, z, _⟩
      · exact .inl ⟨l, c1⟩
      · exact nomatch hl.symm.trans (show H b = _ from z)
    · rcases c1 with ⟨⟨xs, z⟩, _⟩ | ⟨C', dx', fs', z, c1⟩
      · exact nomatch hl.symm.trans (show H b = _ from z)
      · cases hl.symm.trans (show H b = _ from z)
        exact .inr ⟨_, _, _, l, c1⟩
  · obtain ⟨⟨u, hu⟩, ga, _⟩ := s.owned a ha
    cases q : G' a with
    | none => rfl
    | some y =>
      rcases R'.gn a y q with z | z
      · exact nomatch (show G a = some y from z).symm.trans ga
      · exact nomatch (show H a = none from z).symm.trans hu
theorem Rel.wipe (R : Rel K F G σ H sl) : ∀ vs : List Nat, Rel K F G (L2.wipe σ vs) H (unsets sl vs)
  | [] => R
  | v :: vs => (Rel.wipe R vs).forget v none
theorem wipe_set {x : Option V} {i : Nat} : ∀ {vs : List Nat} {σ : L2.St}, i ∈ vs → L2.wipe (σ.set i x) vs = L2.wipe σ vs
  | v :: vs, σ, h => by
    unfold L2.wipe
    by_cases e : i ∈ vs
    · rw [wipe_set e]
    · rcases List.mem_cons.mp h with rfl | h
      · have q : ∀ (vs : List Nat) (σ : L2.St), i ∉ vs → L2.wipe (σ.set i x) vs = (L2.wipe σ vs).set i x := by
          intro vs
          induction vs with
          | nil => exact fun σ _ => rfl
          | cons v vs ih =>
            intro σ hn
            unfold L2.wipe
            rw [ih σ (fun z => hn (List.mem_cons_of_mem _ z)), List.set_comm _ _ (fun z => hn (by rw [z]; exact List.mem_cons_self))]
        rw [q vs σ e, List.set_set]
      · exact absurd h e
end
theorem wipe_sub {σ : L2.St} {vs : List Nat} : ∀ ws : List Nat, (∀ v ∈ ws, v ∈ vs) → L2.wipe (L2.wipe σ ws) vs = L2.wipe σ vs
  | [], _ => rfl
  | w :: ws, h => by
    show L2.wipe ((L2.wipe σ ws).set w none) vs = _
    rw [wipe_set (h w List.mem_cons_self)]
    exact wipe_sub ws fun v hv => h v (List.mem_cons_of_mem _ hv)
theorem wipe_idem (vs : List Nat) (σ : L2.St) : L2.wipe (L2.wipe σ vs) vs = L2.wipe σ vs := wipe_sub vs fun _ h => h
/-- a comprehension's target: it touches the slots vs alone -/
def LGc (K : Fg) (F : Fx) (vs : List Nat) (g : DG) : TG := fun v σ H Q => ∃ G sl d P, Rel K F G σ H sl ∧ Rp K G v d ∧ g d sl P ∧ ∀ sl', P sl' → ∀ G' σ' H', Same G G' → Rel K F G' σ' H' sl' → L2.wipe σ' vs = L2.wipe σ vs → Q σ' H'
def LGcs (K : Fg) (F : Fx) (vs : List Nat) (g : DGs) : TGs := fun us σ H Q => ∃ G sl ds P, Rel K F G σ H sl ∧ RpL K G us ds ∧ g ds sl P ∧ ∀ sl', P sl' → ∀ G' σ' H', Same G G' → Rel K F G' σ' H' sl' → L2.wipe σ' vs = L2.wipe σ vs → Q σ' H'
structure QGc (X : Cx) (F : Fx) (vs : List Nat) (t : Expr) (g : DG) : Prop where
  run : PG X t (LGc X.K F vs g)
structure QGcs (X : Cx) (F : Fx) (vs : List Nat) (t : List Expr) (g : DGs) : Prop where
  run : PGs X t (LGcs X.K F vs g)
structure QTs (X : Cx) (F : Fx) (W : WX) (es : List Expr) (δ : DT) : Prop where
  run : PTs X es (LT X.K F W δ)
theorem pts_imp {X : Cx} {e : List Expr} {t t' : TT} (h : PTs X e t) (i : ∀ σ H Q, t' σ H Q → t σ H Q) : PTs X e t' := ⟨fun pins s σ H Q I q => h.run pins s σ H Q I (i σ H Q q)⟩
def dYes : DT := fun sl _ P => P true sl
section
variable {X : Cx} {F : Fx} {W : WX} {e c : Expr} {es : List Expr} {pos : Pos} {i : Nat} {vs : List Nat} {τ : DT}
theorem qgc_name (h : PG X e (gName i)) (hi : i ∈ vs := by decide) : QGc X F vs e (hName i) := ⟨pg_imp h fun v σ H Q h => by
  obtain ⟨G, sl, d, P, R, r, h, k⟩ := h
  exact k _ h G _ H (Same.refl _) (R.put r i) (wipe_set hi)⟩
theorem qgcs_nil : QGcs X F vs [] hNil := ⟨pgs_imp pgs_nil fun v σ H Q h => by
  obtain ⟨G, sl, ds, P, R, r, ⟨rfl, h⟩, k⟩ := h
  cases r
  exact ⟨rfl, k _ h G _ H (Same.refl _) R rfl⟩⟩
theorem qgcs_cons {g : DG} {h : DGs} (h1 : QGc X F vs e g) (h2 : QGcs X F vs es h) (hs : (assignEach (e :: es) X.env).map (·.2) = assign e X.env :: (assignEach es X.env).map (·.2) := by rfl) : QGcs X F vs (e :: es) (hCons g h) :=
  ⟨pgs_imp (pgs_cons h1.run h2.run hs) fun v σ H Q h => by
    obtain ⟨G, sl, ds, P, R, r, ⟨d, rr, rfl, h⟩, k⟩ := h
    cases r with
    | cons r1 r2 => exact ⟨_, _, rfl, G, sl, d, _, R, r1, h, fun sl1 h1 G1 σ1 H1 s1 R1 w1 => ⟨G1, sl1, rr, P, R1, r2.mono s1, h1, fun sl2 p G2 σ2 H2 s2 R2 w2 => k sl2 p G2 σ2 H2 (s1.trans s2) R2 (w2.trans w1)⟩⟩⟩
theorem qgc_tup {k n : Nat} {g : DGs} (hc : X.calm = true) (h : QGcs X F vs es g) (hn : (assignEach es X.env).length = n := by rfl) (hst : (assignEach es X.env).findIdx? (·.1) = none := by rfl) : QGc X F vs (.Tuple es k pos) (hTup n g) :=
  ⟨pg_imp (pg_tup hc h.run hn hst) fun v σ H Q h => by
    obtain ⟨G, sl, d, P, R, r, ⟨ds, rfl, hl, h⟩, k⟩ := h
    cases r with
    | tup q t => exact ⟨_, _, rfl, sqT_mono R.ex q, by rw [t.length]; exact hl, G, sl, ds, P, R, t, h, k⟩⟩
theorem qts_nil : QTs X F W [] dYes := ⟨pts_imp pts_nil fun σ H Q h => by
  obtain ⟨G, sl, E, P, R, h, k, kx⟩ := h
  exact k _ _ h G H (Same.refl _) R⟩
theorem qts_one (h : QT X F W c τ) : QTs X F W [c] τ := ⟨pts_one h.run⟩
end
abbrev WF : WX := fun _ _ _ _ => False
abbrev EF : XP := fun _ _ => False
theorem thrownF {K : Fg} {F : Fx} {W : WX} {G : Hp} : Thrown K F W G EF := fun _ _ h => h.elim
/-- turn by turn: each begins with the slots base -/
def dTurns (g : DG) (τ : DT) (α : DE) (base : Sl) (P : List D → Prop) : List D → List D → Prop
  | [], acc => P acc
  | d :: r, acc => g d base fun sl1 => τ sl1 EF fun k sl2 => if k = true then α sl2 EF fun e _ => acc.length < sizeLine ∧ dTurns g τ α base P r (acc ++ [e]) else dTurns g τ α base P r acc
def dComp (ι : DI) (g : DG) (τ : DT) (α : DE) (vs : List Nat) : DE := fun sl E P => ι sl E fun ds sl1 => dTurns g τ α (unsets (sl1.map Slot.hid) vs) (fun acc => P (.lst acc) sl1) ds []
section
variable {K : Fg} {F : Fx} {W : WX} {ι : DI} {g : DG} {τ : DT} {α : DE} {vs : List Nat} {σ : L2.St} {H : Hp} {Q : VK}
theorem LN.comp {wi : TI} {gr : TG} {tt : TT} {te : TE} (hwi : ∀ R, LI K F W ι σ H R → wi σ H R) (hgr : ∀ F v σ H Q, LGc K F vs g v σ H Q → gr v σ H Q) (htt : ∀ F σ H Q, LT K F WF τ σ H Q → tt σ H Q) (hte : ∀ F σ H Q, LE K F WF α σ H Q → te σ H Q)
    (h : LN K F W (dComp ι g τ α vs) σ H Q) : tLc wi gr tt te vs σ H Q := by
  obtain ⟨G, sl, E, P, R, h, k, kx⟩ := h
  refine hwi _ ⟨G, sl, E, _, R, h, fun ds sl1 h1 G1 H1 J s1 R1 w => ?_, kx⟩
  intro Dl hD
  refine ⟨fun i m H2 => ∃ G2 ac, Same G1 G2 ∧ Rel K F G2 (some (.ref Dl) :: σ) H2 (.own (.lst ac) :: sl1) ∧ dTurns g τ α (unsets (sl1.map Slot.hid) vs) (fun acc => P (.lst acc) sl1) (ds.drop i) ac ∧ m = ds.length - i ∧ i ≤ ds.length,
    ⟨ds.length, G1, [], Same.refl _, R1.own hD _ ⟨[], upd_same, .nil⟩, h1, by simp, Nat.zero_le _⟩, ?_⟩
  rintro i m H2 ⟨G2, ac, s2, R2, h2, rfl, hi⟩
  by_cases hlt : i < ds.length
  · obtain ⟨hgo, hy⟩ := (w i G2 H2 s2 R2.ex).1 ds[i] (List.getElem?_eq_getElem hlt)
    rw [List.drop_eq_getElem_cons hlt] at h2
    refine .inr ⟨hgo, fun H3 => ∃ G3 ac3, Same G1 G3 ∧ Rel K F G3 (some (.ref Dl) :: σ) H3 (.own (.lst ac3) :: sl1) ∧ dTurns g τ α (unsets (sl1.map Slot.hid) vs) (fun acc => P (.lst acc) sl1) (ds.drop (i + 1)) ac3,
      fun H3 ⟨G3, ac3, q⟩ => ⟨ds.length - (i + 1), by omega, G3, ac3, q.1, q.2.1, q.2.2, rfl, hlt⟩, fun x H3 yx => ?_⟩
    obtain ⟨G3, gr3, r3⟩ := hy x H3 yx
    have R3 := R2.grown gr3
    have R4 := R3.tail.inside.wipe vs
    refine hgr _ x _ H3 _ ⟨G3, _, ds[i], _, R4, r3, h2, fun sl5 h5 G5 σ5 H5 s5 R5 w5 => ⟨by rw [w5]; exact wipe_idem vs σ, ?_⟩⟩
    refine htt _ σ5 H5 _ ⟨G5, sl5, EF, _, R5, h5, fun b sl6 h6 G6 H6 s6 R6 => ?_, thrownF⟩
    cases b with
    | true =>
      show te σ5 H6 _
      refine hte _ σ5 H6 _ ⟨G6, sl6, EF, _, R6, h6, fun e sl7 h7 G7 H7 v7 s7 R7 r7 => ?_, thrownF⟩
      have R8 : Rel K F G7 (some (.ref Dl) :: σ) H7 (.own (.lst ac) :: sl1) := R3.outside R7
      obtain ⟨a8, e8, ⟨xs, hx, tx⟩, _⟩ := R8.frontOwn
      cases e8
      refine ⟨xs, hx, by rw [tx.length]; exact h7.1, G7, ac ++ [e], s2.trans (gr3.g.trans (s5.trans (s6.trans s7))), R8.turn ⟨_, upd_same, tx.append (.cons r7 .nil)⟩, h7.2⟩
    | false =>
      exact ⟨G6, ac, s2.trans (gr3.g.trans (s5.trans s6)), R3.outside R6, h6⟩
  · have e : i = ds.length := by omega
    subst e
    rw [List.drop_length] at h2
    refine .inl ⟨(w _ G2 H2 s2 R2.ex).2 (Nat.le_refl _), k _ sl1 h2 G2 H2 Dl (s1.trans s2) R2⟩
theorem LE.ofN {δ : DE} (h : LE K F W δ σ H Q) : LN K F W δ σ H Q := by
  obtain ⟨G, sl, E, P, R, h, k, kx⟩ := h
  refine ⟨G, sl, E, P, R, h, fun d sl1 p G1 H1 a s1 R1 => ?_, kx⟩
  obtain ⟨G2, s2, R2, r2, _⟩ := R1.close
  exact k d sl1 p G2 H1 _ (s1.trans s2) R2 r2
end
section
variable {X : Cx} {F : Fx} {W : WX} {ι : DI} {g : DG} {τ : DT} {α : DE} {elt tg iter : Expr} {ifs : List Expr} {scope : Scope} {own : List (Str × Nat)} {pos spos : Pos} {i : Nat} {y : Str} {py : Pos}
/-- what a block's parts must be -/
structure Blk (X : Cx) (tg elt : Expr) (ifs : List Expr) (scope : Scope) (vs : List Nat) (g : DG) (τ : DT) (α : DE) : Prop where
  tg : ∀ (s : Shared) (H : Hp) (C : Addr) (cl : List (Str × Addr)) (fp : List Addr) (F : Fx), QGc (X.blk s H scope (PySem.compEnvC scope cl C X.env) fp) F vs tg g
  ifs : ∀ (s : Shared) (H : Hp) (C : Addr) (cl : List (Str × Addr)) (fp : List Addr) (F : Fx), QTs (X.blk s H scope (PySem.compEnvC scope cl C X.env) fp) F WF ifs τ
  elt : ∀ (s : Shared) (H : Hp) (C : Addr) (cl : List (Str × Addr)) (fp : List Addr) (F : Fx), QE (X.blk s H scope (PySem.compEnvC scope cl C X.env) fp) F WF elt α
theorem Blk.pg {vs : List Nat} (b : Blk X tg elt ifs scope vs g τ α) (s : Shared) (H : Hp) (C : Addr) (cl : List (Str × Addr)) (fp : List Addr) : PG (X.blk s H scope (PySem.compEnvC scope cl C X.env) fp) tg (fun v σ H Q => ∃ F, LGc X.K F vs g v σ H Q) :=
  ⟨fun pins s' σ H' v u Q I r ⟨F, q⟩ => (b.tg s H C cl fp F).run.run pins s' σ H' v u Q I r q⟩
theorem Blk.pts {vs : List Nat} (b : Blk X tg elt ifs scope vs g τ α) (s : Shared) (H : Hp) (C : Addr) (cl : List (Str × Addr)) (fp : List Addr) : PTs (X.blk s H scope (PySem.compEnvC scope cl C X.env) fp) ifs (fun σ H Q => ∃ F, LT X.K F WF τ σ H Q) :=
  ⟨fun pins s' σ H' Q I ⟨F, q⟩ => (b.ifs s H C cl fp F).run.run pins s' σ H' Q I q⟩
theorem Blk.pe {vs : List Nat} (b : Blk X tg elt ifs scope vs g τ α) (s : Shared) (H : Hp) (C : Addr) (cl : List (Str × Addr)) (fp : List Addr) : PE (X.blk s H scope (PySem.compEnvC scope cl C X.env) fp) elt (fun σ H Q => ∃ F, LE X.K F WF α σ H Q) :=
  ⟨fun pins s' σ H' Q I ⟨F, q⟩ => (b.elt s H C cl fp F).run.run pins s' σ H' Q I q⟩
theorem qn_comp (hc : X.calm = true) (hN : X.N.Nodup) (hi : QI X F W tg iter ι) (ok : BlkOk X.N X.env.scope scope own) (b : Blk X tg elt ifs scope (own.map (·.2)) g τ α) (hs : ∀ x, foldedSetIterable iter X.env x = pure x := by intro _; rfl) :
    QN X F W (.ListComp elt [⟨tg, iter, ifs, 0⟩] scope pos) (dComp ι g τ α (own.map (·.2))) :=
  ⟨pe_imp (pe_lc hc hN hi.run ok b.pg b.pts b.pe hs) fun σ H Q h => LN.comp (fun _ q => q) (fun F _ _ _ _ q => ⟨F, q⟩) (fun F _ _ _ q => ⟨F, q⟩) (fun F _ _ _ q => ⟨F, q⟩) h⟩
theorem qe_comp (hc : X.calm = true) (hN : X.N.Nodup) (hi : QI X F W tg iter ι) (ok : BlkOk X.N X.env.scope scope own) (b : Blk X tg elt ifs scope (own.map (·.2)) g τ α) (hs : ∀ x, foldedSetIterable iter X.env x = pure x := by intro _; rfl) :
    QE X F W (.ListComp elt [⟨tg, iter, ifs, 0⟩] scope pos) (dComp ι g τ α (own.map (·.2))) := ⟨pe_imp (qn_comp hc hN hi ok b hs).run fun σ H Q h => h.ofN⟩
/-- name = [..] -/
theorem qs_ownComp (hc : X.calm = true) (hN : X.N.Nodup) (hy : X.N[i]? = some y) (hyl : X.env.scope.names.lookup y = some .local) (hsw : swapsWith (.ListComp elt [⟨tg, iter, ifs, 0⟩] scope pos) (some (.Name y py)) spos.line X.env = pure true)
    (hi : QI X F W tg iter ι) (ok : BlkOk X.N X.env.scope scope own) (b : Blk X tg elt ifs scope (own.map (·.2)) g τ α) (hs : ∀ x, foldedSetIterable iter X.env x = pure x := by intro _; rfl) :
    QS X F W (.Assign [.Name y py] (.ListComp elt [⟨tg, iter, ifs, 0⟩] scope pos) spos) (dOwn i (dComp ι g τ α (own.map (·.2)))) :=
  qs_own (ps_imp (ps_setLc hc hN hy hyl hsw hi.run ok b.pg b.pts b.pe hs) fun D σ H h => LN.comp (fun _ q => q) (fun F _ _ _ _ q => ⟨F, q⟩) (fun F _ _ _ q => ⟨F, q⟩) (fun F _ _ _ q => ⟨F, q⟩) h)
theorem qs_setComp (hc : X.calm = true) (hN : X.N.Nodup) (hy : X.N[i]? = some y) (hyl : X.env.scope.names.lookup y = some .local) (hsw : swapsWith (.ListComp elt [⟨tg, iter, ifs, 0⟩] scope pos) (some (.Name y py)) spos.line X.env = pure true)
    (hi : QI X F W tg iter ι) (ok : BlkOk X.N X.env.scope scope own) (b : Blk X tg elt ifs scope (own.map (·.2)) g τ α) (hs : ∀ x, foldedSetIterable iter X.env x = pure x := by intro _; rfl) :
    QS X F W (.Assign [.Name y py] (.ListComp elt [⟨tg, iter, ifs, 0⟩] scope pos) spos) (dAsg (dComp ι g τ α (own.map (·.2))) (hName i)) :=
  qs_set (ps_imp (ps_setLc hc hN hy hyl hsw hi.run ok b.pg b.pts b.pe hs) fun D σ H h => LN.comp (fun _ q => q) (fun F _ _ _ _ q => ⟨F, q⟩) (fun F _ _ _ q => ⟨F, q⟩) (fun F _ _ _ q => ⟨F, q⟩) (LE.ofN h))
end
end Dx
namespace Dx
open PySem L2
/-! ### an object of one's own changes -/
def Sl.own (sl : Sl) (i : Nat) : Option D := match sl[i]? with
  | some (.own d) => some d
  | _ => none
theorem own_at {sl : Sl} {i : Nat} {d : D} (h : Sl.own sl i = some d) : sl[i]? = some (.own d) := by
  unfold Sl.own at h
  split at h
  · rename_i q; cases h; exact q
  · cases h
def isLst : Option D → Bool
  | some (.lst _) => true
  | _ => false
def isDic : Option D → Bool
  | some (.dic _ _) => true
  | _ => false
def isObj : Option D → Bool
  | some (.obj _ _ _) => true
  | _ => false
theorem isLst_of {o : Option D} (h : isLst o = true) : ∃ ds, o = some (.lst ds) := by
  unfold isLst at h
  split at h
  · exact ⟨_, rfl⟩
  · cases h
theorem isDic_of {o : Option D} (h : isDic o = true) : ∃ ks ds, o = some (.dic ks ds) := by
  unfold isDic at h
  split at h
  · exact ⟨_, _, rfl⟩
  · cases h
theorem isObj_of {o : Option D} (h : isObj o = true) : ∃ C ns ds, o = some (.obj C ns ds) := by
  unfold isObj at h
  split at h
  · exact ⟨_, _, _, rfl⟩
  · cases h
def lstOf : Option D → List D
  | some (.lst ds) => ds
  | _ => []
def keysOf : Option D → List Key
  | some (.dic ks _) => ks
  | _ => []
def valsOf : Option D → List D
  | some (.dic _ ds) => ds
  | _ => []
/-- x.append(e) -/
def dAppend (i : Nat) (α : DE) : DS := fun De sl => isLst (Sl.own sl i) = true ∧ α sl De.ex fun d sl1 => isLst (Sl.own sl1 i) = true ∧ (lstOf (Sl.own sl1 i)).length < sizeLine ∧ De.nx (sl1.set i (.own (.lst (lstOf (Sl.own sl1 i) ++ [d]))))
/-- x.pop(e), e a place from the front -/
def dPopAt (i : Nat) (α : DE) : DE := fun sl E P => isLst (Sl.own sl i) = true ∧ α sl E fun d sl1 => isLst (Sl.own sl1 i) = true ∧ ∃ (j : Nat) (f : D), d = .int (j : Int) ∧ (j : Int) < 2 ^ 62 ∧ (lstOf (Sl.own sl1 i))[j]? = some f ∧ P f (sl1.set i (.own (.lst ((lstOf (Sl.own sl1 i)).eraseIdx j))))
def dPop (i : Nat) : DE := fun sl E P => isLst (Sl.own sl i) = true ∧ ∃ f, (lstOf (Sl.own sl i)).getLast? = some f ∧ P f (sl.set i (.own (.lst (lstOf (Sl.own sl i)).dropLast)))
/-- x[e] = v -/
def dSetIx (i : Nat) (αv αe : DE) : DS := fun De sl => αv sl De.ex fun d sl1 => isLst (Sl.own sl1 i) = true ∧ αe sl1 De.ex fun e sl2 => isLst (Sl.own sl2 i) = true ∧ ∃ (j : Nat), e = .int (j : Int) ∧ j < (lstOf (Sl.own sl2 i)).length ∧ De.nx (sl2.set i (.own (.lst ((lstOf (Sl.own sl2 i)).set j d))))
def putKey (k : Key) (ks : List Key) : List Key := if hasKey k ks then ks else ks ++ [k]
def replVal (k : Key) (d : D) : List Key → List D → List D
  | k' :: ks, e :: ds => (if k' = k then d else e) :: replVal k d ks ds
  | _, _ => []
def putVal (k : Key) (d : D) (ks : List Key) (ds : List D) : List D := if hasKey k ks then replVal k d ks ds else ds ++ [d]
/-- x[k] = v, x a dict -/
def dPutK (i : Nat) (αv αe : DE) : DS := fun De sl => αv sl De.ex fun d sl1 => isDic (Sl.own sl1 i) = true ∧ αe sl1 De.ex fun e sl2 => isDic (Sl.own sl2 i) = true ∧ ∃ k, e.key = some k ∧ (keysOf (Sl.own sl2 i)).length < sizeLine ∧
  De.nx (sl2.set i (.own (.dic (putKey k (keysOf (Sl.own sl2 i))) (putVal k d (keysOf (Sl.own sl2 i)) (valsOf (Sl.own sl2 i))))))
section
variable {K : Fg} {F : Fx} {G : Hp} {H : Hp} {σ : L2.St} {sl : Sl} {i : Nat}
/-- the list of a slot -/
theorem Rel.takeL (R : Rel K F G σ H sl) (h : isLst (Sl.own sl i) = true) : ∃ a xs, σ[i]? = some (some (.ref a)) ∧ H a = some (.lst xs) ∧ RpL K G xs (lstOf (Sl.own sl i)) ∧ Rel K F G (some (.ref a) :: σ) H (.own (.lst (lstOf (Sl.own sl i))) :: sl.set i .un) := by
  obtain ⟨ds, e⟩ := isLst_of h
  obtain ⟨a, e1, R1⟩ := R.take (own_at e)
  obtain ⟨a', e2, ⟨xs, hx, t⟩, _⟩ := R1.frontOwn
  cases e2
  rw [e]
  exact ⟨a, xs, e1, hx, t, R1⟩
theorem Rel.takeD (R : Rel K F G σ H sl) (h : isDic (Sl.own sl i) = true) : ∃ a kvs, σ[i]? = some (some (.ref a)) ∧ H a = some (.dK kvs) ∧ kvs.map (·.1) = keysOf (Sl.own sl i) ∧ RpL K G (kvs.map (·.2)) (valsOf (Sl.own sl i)) ∧
    Rel K F G (some (.ref a) :: σ) H (.own (.dic (keysOf (Sl.own sl i)) (valsOf (Sl.own sl i))) :: sl.set i .un) := by
  obtain ⟨ks, ds, e⟩ := isDic_of h
  obtain ⟨a, e1, R1⟩ := R.take (own_at e)
  obtain ⟨a', e2, ⟨xs, hx, ek, t⟩, _⟩ := R1.frontOwn
  cases e2
  rw [e]
  exact ⟨a, xs, e1, hx, ek, t, R1⟩
theorem Rel.turnIn {a : Addr} {o : HO} {d d' : D} (R : Rel K F G (some (.ref a) :: σ) H (.own d :: sl.set i .un)) (e : σ[i]? = some (some (.ref a))) (ow : OwnAt K G (upd H a o) a d') : Rel K F G σ (upd H a o) (sl.set i (.own d')) := (R.turn ow).back e
theorem ix_nat {n j : Nat} (h : j < n) : seqIndex? (j : Int) n = some j := by
  refine (ixN_seq (n := n) (i := (j : Int)) (j := j) ?_).1
  unfold ixN
  rw [if_pos (by omega), if_pos (by omega)]
  simp
theorem putK_keys (k : Key) (v : V) : ∀ kvs : List (Key × V), (putK kvs k v).map (·.1) = putKey k (kvs.map (·.1)) := by
  intro kvs
  unfold putK putKey hasKey
  rw [List.any_map]
  have e : (List.any kvs ((fun k' => decide (k' = k)) ∘ fun x => x.1)) = kvs.any fun kv => decide (kv.1 = k) := rfl
  rw [e]
  split
  · rw [List.map_map]
    refine List.map_congr_left fun p _ => ?_
    show (if p.1 = k then (p.1, v) else p).1 = p.1
    split <;> rfl
  · rw [List.map_append]
    rfl
theorem repl_vals {k : Key} {v : V} {d : D} (r : Rp K G v d) : ∀ {kvs : List (Key × V)} {ds : List D}, RpL K G (kvs.map (·.2)) ds → RpL K G ((kvs.map fun kv => if kv.1 = k then (kv.1, v) else kv).map (·.2)) (replVal k d (kvs.map (·.1)) ds)
  | [], _, t => by cases t; exact .nil
  | p :: kvs, _, t => by
    rw [List.map_cons] at t
    cases t with
    | cons r1 t =>
      rw [List.map_cons, List.map_cons, List.map_cons]
      unfold replVal
      refine .cons ?_ (repl_vals r t)
      show Rp K G (if p.1 = k then (p.1, v) else p).2 (if p.1 = k then d else _)
      split
      · exact r
      · exact r1
theorem putK_vals {k : Key} {v : V} {d : D} (r : Rp K G v d) {kvs : List (Key × V)} {ds : List D} (t : RpL K G (kvs.map (·.2)) ds) : RpL K G ((putK kvs k v).map (·.2)) (putVal k d (kvs.map (·.1)) ds) := by
  unfold putK putVal hasKey
  rw [List.any_map]
  have e : (List.any kvs ((fun k' => decide (k' = k)) ∘ fun x => x.1)) = kvs.any fun kv => decide (kv.1 = k) := rfl
  rw [e]
  split
  · exact repl_vals r t
  · rw [List.map_append]
    exact t.append (.cons r .nil)
end
section
variable {X : Cx} {F : Fx} {W : WX} {st : Stmt} {e : Expr} {i : Nat} {α αv αe : DE}
theorem qs_append (h : PS X st (tDrop (tBM X.K "list" rAppend (tVar i) (tCons (LE X.K F W α) tNil)))) : QS X F W st (dAppend i α) := ⟨ps_imp h fun D σ H h => by
  obtain ⟨G, sl, De, R, ⟨hl, h⟩, f⟩ := h
  obtain ⟨a, xs, e1, hx, t, _⟩ := R.takeL hl
  refine ⟨_, e1, .inl ⟨rfl, xs, SqL.of hx⟩, G, sl, De.ex, _, R, h, fun d sl1 h1 G1 H1 v s1 R1 r1 => ?_, f.ex⟩
  obtain ⟨hl1, hz, p⟩ := h1
  obtain ⟨a1, xs1, e2, hx1, t1, R2⟩ := R1.takeL hl1
  rw [e1] at e2
  cases e2
  exact ⟨a, xs1, v, rfl, rfl, hx1, by rw [t1.length]; exact hz, f.nx _ p G1 σ _ s1 (R2.turnIn e1 ⟨_, upd_same, t1.append (.cons r1 .nil)⟩)⟩⟩
theorem qe_popAt (h : PE X e (tBM X.K "list" rPopAt (tVar i) (tCons (LE X.K F W α) tNil))) : QE X F W e (dPopAt i α) := ⟨pe_imp h fun σ H Q h => by
  obtain ⟨G, sl, E, P, R, ⟨hl, h⟩, k, kx⟩ := h
  obtain ⟨a, xs, e1, hx, t, _⟩ := R.takeL hl
  refine ⟨_, e1, .inl ⟨rfl, xs, SqL.of hx⟩, G, sl, E, _, R, h, fun d sl1 h1 G1 H1 v s1 R1 r1 => ?_, kx⟩
  obtain ⟨hl1, j, f, rfl, hj, hf, p⟩ := h1
  obtain ⟨a1, xs1, e2, hx1, t1, R2⟩ := R1.takeL hl1
  rw [e1] at e2
  cases e2
  cases r1
  obtain ⟨y, hy, ry⟩ := t1.at hf
  have hlt : j < xs1.length := (List.getElem?_eq_some_iff.mp hy).1
  exact ⟨a, xs1, _, j, y, rfl, rfl, hx1, by omega, by omega, ix_nat hlt, hy, k f _ p G1 _ y s1 (R2.turnIn e1 ⟨_, upd_same, t1.erase j⟩) ry⟩⟩
theorem qe_pop (h : PE X e (tBM0 X.K "list" rPop (tVar i))) : QE X F W e (dPop i) := ⟨pe_imp h fun σ H Q h => by
  obtain ⟨G, sl, E, P, R, ⟨hl, f, hf, p⟩, k, kx⟩ := h
  obtain ⟨a, xs, e1, hx, t, R2⟩ := R.takeL hl
  rw [List.getLast?_eq_getElem?] at hf
  obtain ⟨y, hy, ry⟩ := t.at hf
  refine ⟨_, e1, .inl ⟨rfl, xs, SqL.of hx⟩, a, xs, y, rfl, rfl, hx, by rw [t.length]; exact hy, k f _ p G _ y (Same.refl _) (R2.turnIn e1 ⟨_, upd_same, ?_⟩) ry⟩
  rw [List.dropLast_eq_take, List.dropLast_eq_take, t.length]
  exact t.take _⟩
theorem qs_setIx (h : PS X st (tAsg (LE X.K F W αv) (gSub (tVar i) (LE X.K F W αe) rSetL))) : QS X F W st (dSetIx i αv αe) := ⟨ps_imp h fun D σ H h => by
  obtain ⟨G, sl, De, R, h, f⟩ := h
  refine ⟨G, sl, De.ex, _, R, h, fun d sl1 h1 G1 H1 v s1 R1 r1 => ?_, f.ex⟩
  obtain ⟨hl, h1⟩ := h1
  obtain ⟨a, xs, e1, hx, t, _⟩ := R1.takeL hl
  refine ⟨_, e1, G1, sl1, De.ex, _, R1, h1, fun e sl2 h2 G2 H2 w s2 R2 r2 => ?_, f.ex.mono s1⟩
  obtain ⟨hl2, j, rfl, hj, p⟩ := h2
  obtain ⟨a1, xs1, e2, hx1, t1, R3⟩ := R2.takeL hl2
  rw [e1] at e2
  cases e2
  cases r2
  have hlt : j < xs1.length := by rw [t1.length]; exact hj
  refine ⟨a, xs1, _, j, rfl, rfl, hx1, ?_, f.nx _ p G2 σ _ (s1.trans s2) (R3.turnIn e1 ⟨_, upd_same, t1.set (r1.mono s2) j⟩)⟩
  unfold ixN
  rw [if_pos (by omega), if_pos (by omega)]
  simp⟩
theorem qs_putK (h : PS X st (sDPut (tVar i) (LE X.K F W αe) (LE X.K F W αv))) : QS X F W st (dPutK i αv αe) := ⟨ps_imp h fun D σ H h => by
  obtain ⟨G, sl, De, R, h, f⟩ := h
  refine ⟨G, sl, De.ex, _, R, h, fun d sl1 h1 G1 H1 v s1 R1 r1 => ?_, f.ex⟩
  obtain ⟨hl, h1⟩ := h1
  obtain ⟨a, kvs, e1, hx, ek, t, _⟩ := R1.takeD hl
  refine ⟨_, e1, G1, sl1, De.ex, _, R1, h1, fun e sl2 h2 G2 H2 w s2 R2 r2 => ?_, f.ex.mono s1⟩
  obtain ⟨hl2, kk, hk, hz, p⟩ := h2
  obtain ⟨a1, kvs1, e2, hx1, ek1, t1, R3⟩ := R2.takeD hl2
  rw [e1] at e2
  cases e2
  have ex := r2.key hk
  subst ex
  refine ⟨a, _, rfl, DPut.k (k := kk) hx1 (by rw [← List.length_map (f := (·.1)), ek1]; exact hz), f.nx _ p G2 σ _ (s1.trans s2) (R3.turnIn e1 ⟨_, upd_same, ?_, ?_⟩)⟩
  · rw [putK_keys, ek1]
  · have q := putK_vals (k := kk) (r1.mono s2) t1
    rw [ek1] at q
    exact q⟩
theorem qn_dict {pos : Pos} : QN X F W (.Dict [] [] pos) (dC (.dic [] [])) := ⟨pe_imp pe_dnewK fun σ H Q h => by
  obtain ⟨G, sl, E, P, R, h, k, kx⟩ := h
  exact fun p hp => k _ sl h G _ p (Same.refl _) (R.own hp _ ⟨[], upd_same, rfl, .nil⟩)⟩
/-- a value that nothing is done for: names that hold trees, constants, their places -/
structure QV (X : Cx) (F : Fx) (e : Expr) (δ : Sl → (D → Prop) → Prop) : Prop where
  run : PE X e fun σ H Q => ∃ G sl P, Rel X.K F G σ H sl ∧ δ sl P ∧ ∀ d v, P d → Rp X.K G v d → Q v H
theorem qv_var (hp : PE X e (tVar i)) : QV X F e (fun sl P => ∃ d, sl[i]? = some (.val d) ∧ P d) := ⟨pe_imp hp fun σ H Q h => by
  obtain ⟨G, sl, P, R, ⟨d, hd, p⟩, k⟩ := h
  obtain ⟨v, e1, r⟩ := R.valAt hd
  exact ⟨v, e1, k d v p r⟩⟩
theorem qv_const {v : V} {d : D} (hp : PE X e (tC v)) (r : ∀ G, Rp X.K G v d) : QV X F e (fun _ P => P d) := ⟨pe_imp hp fun σ H Q h => by
  obtain ⟨G, sl, P, R, p, k⟩ := h
  exact k d v p (r G)⟩
theorem qv_ix {a b : Expr} {α β : Sl → (D → Prop) → Prop} {pos : Pos} (ha : QV X F a α) (hb : QV X F b β) (hs : PlainIx b := by exact fun _ _ => rfl) : QV X F (.Subscript a b pos) (fun sl P => α sl fun d => β sl fun e => oIx d e P) :=
  ⟨pe_imp (pe_ix ix_seq ha.run hb.run hs) fun σ H Q h => by
    obtain ⟨G, sl, P, R, h, k⟩ := h
    refine ⟨G, sl, _, R, h, fun d v p r => ⟨G, sl, _, R, p, fun d2 v2 p2 r2 => ?_⟩⟩
    cases r with
    | lst g t =>
      cases r2 <;> first | exact p2.elim | skip
      obtain ⟨f, h1, h2⟩ := p2
      obtain ⟨w, h3, r⟩ := t.atI h1
      exact .inl ⟨_, _, _, w, rfl, rfl, SqL.of (R.ex _ _ g), h3, k _ _ h2 r⟩
    | tup g t =>
      cases r2 <;> first | exact p2.elim | skip
      obtain ⟨f, h1, h2⟩ := p2
      obtain ⟨w, h3, r⟩ := t.atI h1
      exact .inr (.inl ⟨_, _, _, w, rfl, rfl, sqT_mono R.ex g, h3, k _ _ h2 r⟩)
    | str z =>
      cases r2 <;> first | exact p2.elim | skip
      obtain ⟨h1, c, h2, h3⟩ := p2
      exact .inr (.inr ⟨z, _, c, rfl, rfl, h1, h2, k _ _ h3 (.str _)⟩)
    | _ => exact p2.elim⟩
/-- {k: v} -/
def dDisp1 (κ ν : Sl → (D → Prop) → Prop) : DE := fun sl E P => κ sl fun d => ν sl fun e => ∃ k, d.key = some k ∧ P (.dic [k] [e]) sl
theorem qe_disp1 {a b : Expr} {κ ν : Sl → (D → Prop) → Prop} {pos : Pos} (ha : QV X F a κ) (hb : QV X F b ν) : QE X F W (.Dict [some a] [b] pos) (dDisp1 κ ν) :=
  ⟨pe_imp (pe_disp (pps_cons ha.run hb.run pps_nil) rfl rfl (by simp) (by simp)) fun σ H Q h => by
    obtain ⟨G, sl, E, P, R, h, k, kx⟩ := h
    intro p hp
    have R1 : Rel X.K F G σ (upd H p (.dK [])) sl := R.grown (Grown.junk R.ex hp _)
    refine ⟨G, sl, _, R1, h, fun d v h1 r => ⟨G, sl, _, R1, h1, fun e w h2 r2 => ⟨upd_same, ?_⟩⟩⟩
    obtain ⟨kk, hk, p1⟩ := h2
    have ev := r.key hk
    subst ev
    refine ⟨[(kk, w)], rfl, (by simp), ?_⟩
    have em : mergeK [] [(kk, w)] = [(kk, w)] := rfl
    rw [em, upd_upd]
    exact k _ sl p1 _ _ _ (Grown.new R.ex hp _).g (R.grown (Grown.new R.ex hp _)) (.dic upd_same rfl (.cons (r2.mono (Grown.new R.ex hp _).g) .nil))⟩
end
end Dx
namespace Dx
open PySem L2
/-! ### looking at an object of one's own without giving it away -/
inductive Bi where
  | nm (i : Nat) | ex (δ : DE)
def Bi.te (K : Fg) (F : Fx) (W : WX) : Bi → TE
  | .nm i => tVar i
  | .ex δ => LE K F W δ
def tBs (K : Fg) (F : Fx) (W : WX) : List Bi → TA
  | [] => tNil
  | β :: r => tCons (β.te K F W) (tBs K F W r)
structure QB (X : Cx) (F : Fx) (W : WX) (e : Expr) (β : Bi) : Prop where
  run : PE X e (β.te X.K F W)
structure QBs (X : Cx) (F : Fx) (W : WX) (es : List Expr) (βs : List Bi) : Prop where
  run : PA X es (tBs X.K F W βs)
def peek (sl : Sl) (i : Nat) : Option D := match sl[i]? with
  | some (.val d) => some d
  | some (.own d) => some d
  | _ => none
def dBs : List Bi → DA
  | [] => dNil
  | .nm i :: r => fun sl E P => (peek sl i).isSome = true ∧ dBs r sl E fun ds sl1 => ∃ d, peek sl1 i = some d ∧ P (d :: ds) sl1
  | .ex δ :: r => dCons δ (dBs r)
def addG (G : Hp) (a : Addr) (H : Hp) : Hp := fun b => if b = a then H a else G b
section
variable {K : Fg} {F : Fx} {W : WX} {G Gt H : Hp} {σ : L2.St} {sl : Sl} {i : Nat} {d : D}
theorem addG_lo {a : Addr} (e : Same Gt H) : Same Gt (addG Gt a H) := fun b o h => by
  unfold addG
  by_cases hb : b = a
  · rw [if_pos hb, ← hb]; exact e b o h
  · rw [if_neg hb]; exact h
theorem addG_hi {a : Addr} (e : Same Gt H) : Same (addG Gt a H) H := fun b o h => by
  unfold addG at h
  by_cases hb : b = a
  · rw [if_pos hb] at h; rw [hb]; exact h
  · rw [if_neg hb] at h; exact e b o h
theorem addG_at {a : Addr} : addG Gt a H a = H a := if_pos rfl
theorem OwnAt.rp {a : Addr} (o : OwnAt K G H a d) (s : Same G Gt) (e : Gt a = H a) : Rp K Gt (.ref a) d := by
  cases d with
  | lst ds => obtain ⟨xs, h1, h2⟩ := o; exact .lst (by rw [e]; exact h1) (h2.mono s)
  | dic ks ds => obtain ⟨xs, h1, h2, h3⟩ := o; exact .dic (by rw [e]; exact h1) h2 (h3.mono s)
  | obj C ns ds => obtain ⟨dx, xs, h1, h2, h3⟩ := o; exact .obj (by rw [e]; exact h1) h2 (h3.mono s)
  | _ => exact o.elim
theorem Rel.peeked (R : Rel K F G σ H sl) (h : (peek sl i).isSome = true) : ∃ v, σ[i]? = some (some v) := by
  unfold peek at h
  split at h
  · rename_i d hd
    obtain ⟨v, e, _⟩ := R.valAt hd
    exact ⟨v, e⟩
  · rename_i d hd
    obtain ⟨a, e, _⟩ := R.take hd
    exact ⟨_, e⟩
  · cases h
theorem Rel.peekAt (R : Rel K F G σ H sl) (h : peek sl i = some d) (s1 : Same G Gt) (s2 : Same Gt H) : ∃ v G2, σ[i]? = some (some v) ∧ Same Gt G2 ∧ Same G2 H ∧ Rp K G2 v d := by
  unfold peek at h
  split at h
  · rename_i d hd
    cases h
    obtain ⟨v, e, r⟩ := R.valAt hd
    exact ⟨v, Gt, e, Same.refl _, s2, r.mono s1⟩
  · rename_i d hd
    cases h
    obtain ⟨a, e, R1⟩ := R.take hd
    obtain ⟨a', e', o, _⟩ := R1.frontOwn
    cases e'
    exact ⟨_, addG Gt a H, e, addG_lo s2, addG_hi s2, o.rp (s1.trans (addG_lo s2)) addG_at⟩
  · cases h
theorem bs_run : ∀ (βs : List Bi) {G H : Hp} {sl : Sl} {E : XP} {P : List D → Sl → Prop} {Q : List V → Hp → Prop}, Rel K F G σ H sl → dBs βs sl E P → Thrown K F W G E →
    (∀ ds sl', P ds sl' → ∀ G' Gt H' vs, Same G G' → Rel K F G' σ H' sl' → Same G' Gt → Same Gt H' → RpL K Gt vs ds → Q vs H') → tBs K F W βs σ H Q
  | [], G, H, sl, E, P, Q, R, h, kx, k => k [] sl h G G H [] (Same.refl _) R (Same.refl _) R.ex .nil
  | .nm i :: r, G, H, sl, E, P, Q, R, h, kx, k => by
    obtain ⟨v, hv⟩ := R.peeked h.1
    refine ⟨v, hv, bs_run r R h.2 kx fun ds sl1 p G1 Gt H1 vs s1 R1 s2 s3 t => ?_⟩
    obtain ⟨d, hd, p⟩ := p
    obtain ⟨v', G2, hv', s4, s5, r⟩ := R1.peekAt hd s2 s3
    rw [hv] at hv'
    cases hv'
    exact k _ sl1 p G1 G2 H1 _ s1 R1 (s2.trans s4) s5 (.cons r (t.mono s4))
  | .ex δ :: r, G, H, sl, E, P, Q, R, h, kx, k => by
    refine ⟨G, sl, E, _, R, h, fun d sl1 h1 G1 H1 v s1 R1 r1 => ?_, kx⟩
    exact bs_run r R1 h1 (kx.mono s1) fun ds sl2 p G2 Gt H2 vs s2 R2 s3 s4 t => k _ sl2 p G2 Gt H2 _ (s1.trans s2) R2 s3 s4 (.cons (r1.mono (s2.trans s3)) t)
theorem Rp.flatTo {G G' : Hp} {v : V} {d : D} (r : Rp K G v d) (h : d.flat = true) : Rp K G' v d := by
  cases r <;> first | (cases h; done) | skip
  · exact .non
  · exact .bl _
  · exact .int _
  · exact .str _
theorem Rel.junked {G2 H2 : Hp} (R : Rel K F G σ H sl) (g : Grown Gt H G2 H2) : Rel K F G σ H2 sl := R.ext (Same.refl _) (R.ex.trans g.h) g.h fun _ _ h => .inl h
end
def dOpB (ρ : O2) (β1 β2 : Bi) : DE := fun sl E P => dBs [β1, β2] sl E fun ds sl1 => match ds with
  | [d, e] => ρ d e fun f => f.flat = true ∧ P f sl1
  | _ => False
def dClB (ρ : OA) (βs : List Bi) : DE := fun sl E P => dBs βs sl E fun ds sl1 => ρ ds fun f => f.flat = true ∧ P f sl1
section
variable {X : Cx} {F : Fx} {W : WX} {a b c e : Expr} {es : List Expr} {α β γ δ : DE} {β1 β2 : Bi} {βs : List Bi} {pos : Pos} {i : Nat} {x : Str}
theorem qb_nm (hp : PE X e (tVar i)) : QB X F W e (.nm i) := ⟨hp⟩
theorem qb_ex (h : QE X F W e δ) : QB X F W e (.ex δ) := ⟨h.run⟩
theorem qbs_nil : QBs X F W [] [] := ⟨pa_nil⟩
theorem qbs_cons (ha : QB X F W e β1) (hr : QBs X F W es βs) (hs : starEach (e :: es) X.env = (false, eval e X.env) :: starEach es X.env := by rfl) : QBs X F W (e :: es) (β1 :: βs) := ⟨pa_cons ha.run hr.run hs⟩
theorem LE.opB {r : R2} {ρ : O2} (hr : Rf2 X.K r ρ) {σ : L2.St} {H : Hp} {Q : VK} (h : LE X.K F W (dOpB ρ β1 β2) σ H Q) : tOp r (β1.te X.K F W) (β2.te X.K F W) σ H Q := by
  obtain ⟨G, sl, E, P, R, h, k, kx⟩ := h
  have q := bs_run (K := X.K) (F := F) (W := W) (σ := σ) [β1, β2] (Q := fun vs H' => ∀ v w, vs = [v, w] → r v w H' Q) R h kx fun ds sl' p G' Gt H' vs s1 R1 s2 s3 t => by
    rintro v w rfl
    cases t with
    | cons r1 t =>
      cases t with
      | cons r2 t =>
        cases t
        exact hr Gt H' v w _ _ _ _ s3 r1 r2 p fun f hf G3 H3 v3 g r3 => k f sl' hf.2 G' H3 v3 s1 (R1.junked g) (r3.flatTo hf.1)
  have imp : ∀ (β : Bi) (σ : L2.St) (H : Hp) (Q Q' : VK), (∀ v H', Q v H' → Q' v H') → β.te X.K F W σ H Q → β.te X.K F W σ H Q' := fun β σ H Q Q' i h => by
    cases β with
    | nm j => obtain ⟨v, e, q⟩ := h; exact ⟨v, e, i _ _ q⟩
    | ex δ => obtain ⟨G, sl, E, P, R, h, k, kx⟩ := h; exact ⟨G, sl, E, P, R, h, fun d sl' p G' H' v s R r => i _ _ (k d sl' p G' H' v s R r), kx⟩
  exact imp β1 σ H _ _ (fun v H1 q1 => imp β2 σ H1 _ _ (fun w H2 q2 => q2 v w rfl) q1) q
theorem qe_opB {op : Operator} {r : R2} {ρ : O2} (ho : OpR X (binaryOp op) r) (hr : Rf2 X.K r ρ) (ha : QB X F W a β1) (hb : QB X F W b β2) : QE X F W (.BinOp a op b pos) (dOpB ρ β1 β2) :=
  ⟨pe_imp (pe_op ho ha.run hb.run) fun _ _ _ h => h.opB hr⟩
theorem qe_cmpB {op : CmpOp} {r : R2} {ρ : O2} (ho : OpR X (compareOp op) r) (hr : Rf2 X.K r ρ) (ha : QB X F W a β1) (hb : QB X F W b β2) (hm : behindInMarks op b = false) : QE X F W (.Compare a [op] [b] pos) (dOpB ρ β1 β2) :=
  ⟨pe_imp (pe_cmpR ho ha.run hb.run hm) fun _ _ _ h => h.opB hr⟩
theorem qt_cmpB {op : CmpOp} {r : R2} {ρ : O2} (ho : OpR X (compareOp op) r) (hr : Rf2 X.K r ρ) (ha : QB X F W a β1) (hb : QB X F W b β2) (hm : behindInMarks op b = false) : QT X F W (.Compare a [op] [b] pos) (dTest (dOpB ρ β1 β2)) :=
  ⟨pt_imp (pt_cmpR ho ha.run hb.run hm) fun σ H Q h => by
    obtain ⟨G, sl, E, P, R, h, k, kx⟩ := h
    refine LE.opB (W := W) (F := F) hr (Q := fun x H' => ∃ k, x = .bl k ∧ Q k H') ⟨G, sl, E, _, R, h, fun d sl1 h1 G1 H1 v1 s1 R1 r1 => ?_, kx⟩
    obtain ⟨c, rfl, p⟩ := h1
    cases r1
    exact ⟨c, rfl, k c sl1 p G1 H1 s1 R1⟩⟩
theorem LE.clB {r : List V → Hp → VK → Prop} {ρ : OA} (hr : RfA X.K r ρ) {σ : L2.St} {H : Hp} {Q : VK} (h : LE X.K F W (dClB ρ βs) σ H Q) : tCB r (tBs X.K F W βs) σ H Q := by
  obtain ⟨G, sl, E, P, R, h, k, kx⟩ := h
  exact bs_run βs R h kx fun ds sl' p G' Gt H' vs s1 R1 s2 s3 t => hr Gt H' vs ds _ _ s3 t p fun f hf G3 H3 v3 g r3 => k f sl' hf.2 G' H3 v3 s1 (R1.junked g) (r3.flatTo hf.1)
theorem qe_callBB {id : String} {r : List V → Hp → VK → Prop} {ρ : OA} {p : Pos} (hc : CallR X (.builtin id) r) (hr : RfA X.K r ρ) (hg : Gl X x) (hm : X.mg x = none) (hv : bootBuiltins x = some (.builtin id)) (ha : QBs X F W (e :: es) βs)
    (hn : x ≠ "__name__" := by decide) (hdb : (x == ("__debug__" : Str)) = false := by decide) (he : starEach (e :: es) X.env = (false, eval e X.env) :: starEach es X.env := by rfl) (hpl : (backTo pos (starEach es X.env)).any (·.1) = false := by rfl) :
    QE X F W (.Call (.Name x p) (e :: es) [] pos) (dClB ρ βs) := ⟨pe_imp (pe_callB hc hg hm hv ha.run hn hdb he hpl) fun _ _ _ h => LE.clB hr h⟩
/-- a def called with such arguments: it hands back something flat, raises nothing -/
def dCallB (n : Nat) (φ : Phi) (βs : List Bi) : DE := fun sl E P => dBs βs sl E fun ds sl1 => ds.length = n ∧ φ ds (fun r => (∃ d, r = .val d) ∧ r.d.flat = true ∧ P r.d sl1) fun _ => False
theorem qe_callDB {k n : Nat} {f : Addr} {fd : FuncData} {ps : List Str} {φ : Phi} {p : Pos} (G : FnOk X.prog X.w X.K X.mg X.base (L2.CX X.prog X.w) k f fd ps (SpP X.K n φ)) (hr : Room k X.A) (hg : Gl X x) (hm : X.mg x = some (.ref f)) (hk : PySem.W.keepIn X.K (.ref f) = true) (hb : Binds X.K fd ps []) (tk : Takes X W)
    (ha : QBs X F W (e :: es) βs) (hdb : (x == ("__debug__" : Str)) = false := by decide) (he : starEach (e :: es) X.env = (false, eval e X.env) :: starEach es X.env := by rfl) (hpl : (backTo pos (starEach es X.env)).any (·.1) = false := by rfl) :
    QE X F W (.Call (.Name x p) (e :: es) [] pos) (dCallB n φ βs) :=
  ⟨pe_imp (pe_callS G hr hg hm hk hb (fun σ => passAt tk σ) ha.run hdb he hpl) fun σ H Q h => by
    obtain ⟨G, sl, E, P, R, h, k, kx⟩ := h
    refine bs_run βs R h kx fun ds sl' p G' Gt H' vs s1 R1 s2 s3 t => ?_
    refine ⟨Gt, ds, _, _, p.1, s3, t, p.2, fun r q G2 H2 v s R2 => ?_, fun _ q => q.elim⟩
    obtain ⟨⟨d, rfl⟩, hf, q⟩ := q
    obtain ⟨v', e, r⟩ := R2.frontVal
    cases e
    have eh : ∀ a o, H' a = some o → H2 a = some o := fun a o h => R2.fr a o h (fun z => nomatch z)
    exact k d sl' q G' H2 v s1 (R1.ext (Same.refl _) (R1.ex.trans eh) eh fun _ _ h => .inl h) (r.flatTo hf)⟩
/-- list(x), x one's own: a new list with what it holds -/
def dListB (i : Nat) : DE := fun sl _ P => isLst (peek sl i) = true ∧ P (.lst (lstOf (peek sl i))) sl
theorem Rel.peekL {K : Fg} {G H : Hp} {σ : L2.St} {sl : Sl} (R : Rel K F G σ H sl) (h : isLst (peek sl i) = true) : ∃ a xs, σ[i]? = some (some (.ref a)) ∧ H a = some (.lst xs) ∧ RpL K G xs (lstOf (peek sl i)) := by
  obtain ⟨ds, hd⟩ := isLst_of h
  rw [hd]
  unfold peek at hd
  split at hd
  · rename_i d e
    cases hd
    obtain ⟨v, e, r⟩ := R.valAt e
    cases r with
    | lst g t => exact ⟨_, _, e, R.ex _ _ g, t⟩
  · rename_i d e
    cases hd
    obtain ⟨a, e, R1⟩ := R.take e
    obtain ⟨a', e', o, _⟩ := R1.frontOwn
    cases e'
    obtain ⟨xs, h1, h2⟩ := o
    exact ⟨_, _, e, h1, h2⟩
  · cases hd
theorem qn_listB {p : Pos} (hg : Gl X "list") (hm : X.mg "list" = none) (hv : bootBuiltins "list" = some (.type "list")) (he : PE X e (tVar i))
    (hs : starEach [e] X.env = (false, eval e X.env) :: starEach [] X.env := by rfl) (hpl : (backTo pos (starEach [] X.env)).any (·.1) = false := by rfl) :
    QN X F W (.Call (.Name "list" p) [e] [] pos) (dListB i) :=
  ⟨pe_imp (pe_callTy call_list_of hg hm hv (pa_cons he pa_nil hs) (by decide) (by decide) hs hpl) fun σ H Q h => by
    obtain ⟨G, sl, E, P, R, h, k, kx⟩ := h
    obtain ⟨a, xs, e1, h1, t⟩ := R.peekL h.1
    exact ⟨_, e1, _, _, rfl, .inl (SqL.of h1), fun l hl => k _ sl h.2 _ _ l (Same.refl _) (R.own hl _ ⟨_, upd_same, t⟩)⟩⟩
theorem qe_listB {p : Pos} (hg : Gl X "list") (hm : X.mg "list" = none) (hv : bootBuiltins "list" = some (.type "list")) (he : PE X e (tVar i))
    (hs : starEach [e] X.env = (false, eval e X.env) :: starEach [] X.env := by rfl) (hpl : (backTo pos (starEach [] X.env)).any (·.1) = false := by rfl) :
    QE X F W (.Call (.Name "list" p) [e] [] pos) (dListB i) :=
  ⟨pe_imp (pe_callTy call_list_of hg hm hv (pa_cons he pa_nil hs) (by decide) (by decide) hs hpl) fun σ H Q h => by
    obtain ⟨G, sl, E, P, R, h, k, kx⟩ := h
    obtain ⟨a, xs, e1, h1, t⟩ := R.peekL h.1
    exact ⟨_, e1, _, _, rfl, .inl (SqL.of h1), fun l hl => k _ sl h.2 _ _ _ (Grown.new R.ex hl _).g (R.grown (Grown.new R.ex hl _)) (.lst upd_same (t.mono (Grown.new R.ex hl _).g))⟩⟩
/-- x[k], x one's own list -/
def dIxB (i : Nat) (α : DE) : DE := fun sl E P => (peek sl i).isSome = true ∧ α sl E fun d sl1 => isLst (peek sl1 i) = true ∧ ∃ j f, d = .int j ∧ L2.atI (lstOf (peek sl1 i)) j = some f ∧ P f sl1
theorem qe_ixB (ha : PE X a (tVar i)) (hb : QE X F W b α) (hs : PlainIx b := by exact fun _ _ => rfl) : QE X F W (.Subscript a b pos) (dIxB i α) :=
  ⟨pe_imp (pe_ix ix_seq ha hb.run hs) fun σ H Q h => by
    obtain ⟨G, sl, E, P, R, h, k, kx⟩ := h
    obtain ⟨v, hv⟩ := R.peeked h.1
    refine ⟨v, hv, G, sl, E, _, R, h.2, fun d sl1 h1 G1 H1 w s1 R1 r1 => ?_, kx⟩
    obtain ⟨hl, j, f, rfl, hj, p⟩ := h1
    obtain ⟨a', xs, e1, h2, t⟩ := R1.peekL hl
    cases hv.symm.trans e1
    cases r1
    obtain ⟨u, h3, r⟩ := t.atI hj
    exact .inl ⟨_, _, _, u, rfl, rfl, SqL.of h2, h3, k f sl1 p G1 H1 u s1 R1 r⟩⟩
/-- return x, x one's own -/
def dRetOwn (i : Nat) : DS := fun De sl => ∃ d, sl[i]? = some (.own d) ∧ De.rt (.own d)
theorem qs_retOwn (he : PE X e (tVar i)) : QS X F W (.Return (some e) pos) (dRetOwn i) := ⟨ps_imp (ps_ret he) fun D σ H h => by
  obtain ⟨G, sl, De, R, ⟨d, hd, h⟩, f⟩ := h
  obtain ⟨a, e, R1⟩ := R.take hd
  exact ⟨_, e, f.rt (.own d) h G H _ (Same.refl _) R1.retO⟩⟩
/-- what the module holds -/
theorem qe_glob {v : V} {u : Value} {d : D} (hg : Gl X x) (hm : X.mg x = some u) (r : RelV v u) (rp : ∀ G, Rp X.K G v d) (hd : (x == ("__debug__" : Str)) = false := by decide) : QE X F W (.Name x pos) (dC d) := qe_const (pe_glob hg hm r hd) rp
/-- a op b op' c -/
theorem LE.chain {r r' : R2} {ρ ρ' : O2} (hr : Rf2 X.K r ρ) (hr' : Rf2 X.K r' ρ') {σ : L2.St} {H : Hp} {Q : VK} (h : LE X.K F W (dChain ρ ρ' α β γ) σ H Q) : tChain r r' (LE X.K F W α) (LE X.K F W β) (LE X.K F W γ) σ H Q := by
  obtain ⟨G, sl, E, P, R, h, k, kx⟩ := h
  refine ⟨G, sl, E, _, R, h, fun d sl1 h1 G1 H1 v1 s1 R1 r1 => ⟨G1, sl1, E, _, R1, h1, fun d2 sl2 h2 G2 H2 v2 s2 R2 r2 => ?_, kx.mono s1⟩, kx⟩
  refine hr G2 H2 v1 v2 d d2 _ _ R2.ex (r1.mono s2) r2 h2 fun f hf G3 H3 v3 g r3 => ?_
  obtain ⟨c, rfl, hf⟩ := hf
  cases r3
  refine ⟨c, rfl, ?_⟩
  have s13 := s1.trans (s2.trans g.g)
  cases c with
  | true =>
    exact ⟨G3, sl2, E, _, R2.grown g, hf, fun d4 sl4 h4 G4 H4 v4 s4 R4 r4 => hr' G4 H4 v2 v4 d2 d4 _ _ R4.ex (r2.mono (g.g.trans s4)) r4 h4 fun f5 hf5 G5 H5 v5 g5 r5 => k f5 sl4 hf5 G5 H5 v5 (s13.trans (s4.trans g5.g)) (R4.grown g5) r5, kx.mono s13⟩
  | false => exact k _ sl2 hf G3 H3 _ s13 (R2.grown g) (.bl false)
theorem qe_chain {op op' : CmpOp} {r r' : R2} {ρ ρ' : O2} (ho : OpR X (compareOp op) r) (hr : Rf2 X.K r ρ) (ho' : OpR X (compareOp op') r') (hr' : Rf2 X.K r' ρ') (ha : QE X F W a α) (hb : QE X F W b β) (hc : QE X F W c γ)
    (hm : lastMarks [op, op'] [b, c] = false := by with_unfolding_all rfl) : QE X F W (.Compare a [op, op'] [b, c] pos) (dChain ρ ρ' α β γ) :=
  ⟨pe_imp (pe_chain ho ho' ha.run hb.run hc.run hm) fun _ _ _ h => LE.chain hr hr' h⟩
theorem qt_chain {op op' : CmpOp} {r r' : R2} {ρ ρ' : O2} (ho : OpR X (compareOp op) r) (hr : Rf2 X.K r ρ) (ho' : OpR X (compareOp op') r') (hr' : Rf2 X.K r' ρ') (ha : QE X F W a α) (hb : QE X F W b β) (hc : QE X F W c γ)
    (hm : lastMarks [op, op'] [b, c] = false := by with_unfolding_all rfl) : QT X F W (.Compare a [op, op'] [b, c] pos) (dTest (dChain ρ ρ' α β γ)) :=
  ⟨pt_imp (pt_chain ho ho' ha.run hb.run hc.run hm) fun σ H Q h => by
    obtain ⟨G, sl, E, P, R, h, k, kx⟩ := h
    refine LE.chain (F := F) (W := W) hr hr' (Q := fun x H' => ∃ k, x = .bl k ∧ Q k H') ⟨G, sl, E, _, R, h, fun d sl1 h1 G1 H1 v1 s1 R1 r1 => ?_, kx⟩
    obtain ⟨c, rfl, p⟩ := h1
    cases r1
    exact ⟨c, rfl, k c sl1 p G1 H1 s1 R1⟩⟩
end
end Dx
namespace Dx
open PySem L2 PySem.Spec PyProof.Rows
/-! ### repr, where nothing is being shown yet -/
section
variable {X : Cx} {F : Fx} {W : WX} {e : Expr} {τ : DA} {pos : Pos}
def rRepr (K : Fg) : List V → Hp → VK → Prop := fun xs H Q => ∃ x p, xs = [x] ∧ Dp K H x p ∧ p.showable = true ∧ p.hasDict = false ∧ p.depth ≤ 60 ∧ p.shown.length ≤ sizeLine ∧ Q (.str p.shown) H
theorem call_reprD (hg : X.A.guards = some []) (hu : X.A.units + 200 < cLine) : CallR X (.builtin "repr") (rRepr X.K) := by
  intro pins s σ H xs us Q I r h
  obtain ⟨x, p, rfl, hp, hs, hd, h60, hz, q⟩ := h
  obtain ⟨u, rfl, rv⟩ := vals1 r
  obtain ⟨as, rr⟩ := Dp.reads I p x u hp rv
  have go : ∀ (h' : Heap) (u tk : Nat), (∀ b o, s.heap.get? b = some o → h'.get? b = some o) → EP X pins σ Q (.str p.shown u) { s with heap := h', toks := tk } := fun h' u tk hk => ⟨.str p.shown, H, I.kept hk, ⟨u, rfl⟩, q⟩
  cases rr with
  | none => exact PySem.P.repr_of_none (go s.heap _ _ fun _ _ z => z)
  | bool b => exact PySem.P.repr_of_bool (go s.heap _ _ fun _ _ z => z)
  | int i t => exact PySem.P.repr_of_int (of_decide_eq_true hs) (go s.heap _ _ fun _ _ z => z)
  | str z t => exact PySem.P.repr_of_str (go s.heap _ _ fun _ _ z => z) hz
  | list h1 h2 h3 h4 => exact repr_of_reads' (.list h1 h2 h3 h4) hs (fun z => nomatch hd.symm.trans z) hg (by omega) (fun _ _ z => z) go hz
  | tuple h1 h2 h3 h4 => exact repr_of_reads' (.tuple h1 h2 h3 h4) hs (fun z => nomatch hd.symm.trans z) hg (by omega) (fun _ _ z => z) go hz
  | dict h1 h2 h3 h4 h5 => exact repr_of_reads' (.dict h1 h2 h3 h4 h5) hs (fun z => nomatch hd.symm.trans z) hg (by omega) (fun _ _ z => z) go hz
def oRepr : OA := fun ds P => match ds with
  | [d] => ∃ p, d.py = some p ∧ p.showable = true ∧ p.hasDict = false ∧ p.depth ≤ 60 ∧ p.shown.length ≤ sizeLine ∧ P (.str p.shown)
  | _ => False
theorem rf_repr {K : Fg} : RfA K (rRepr K) oRepr := by
  intro G H xs ds P Q s r h k
  cases r with
  | nil => exact h.elim
  | cons r t =>
    cases t with
    | cons _ _ => exact h.elim
    | nil =>
      obtain ⟨p, h1, h2, h3, h4, h5, h6⟩ := h
      exact ⟨_, p, rfl, r.dp s h1, h2, h3, h4, h5, k _ h6 G H _ (.refl s) (.str _)⟩
end
/-! ### the law's def at the caller's place -/
structure LawAt (P : Program) (w : World) (K : Fg) (mg : Str → Option Value) (base : Heap) (f : Addr) (fd : FuncData) (x : Str) (sp : Sp) : Prop where
  run : ∀ (st0 : Shared) (H : Hp) (u : Value) (v : V) (Q : VK) (E : XK), Env0 P w K mg base callerA [] st0 H → BindsTo st0 fd ⟨[u], []⟩ [(x, u)] → RelV v u → sp [v] H Q E →
    codeAny (model P w) callerA (.call (.ref f) ⟨[u], []⟩) (CR (L2.CX P w) [] P w H st0 Q E) st0
theorem law_at {P : Program} {w : World} {K : Fg} {mg : Str → Option Value} {base : Heap} {x name qual : Str} {st : Stmt} {f : Addr} {fd : FuncData} {N : List Str} {sp : Sp} (Fu : Fun K name qual st f fd) (S : FnScope N [x] (defScope st))
    (body : ∀ (cdv : Value) (st0 : Shared) (H : Hp) (v : V) (Q : VK) (E : XK), sp [v] H Q E → ∃ t, PSs (cxOf (L2.CX P w) P w K mg base N qual (defScope st) f cdv callerA [] st0 H E) (defBody st) t ∧ t { nx := fun _ H' => Q .non H', rt := Q } (start N [v]) H) :
    LawAt P w K mg base f fd x sp := by
  obtain ⟨oc, od, kV, doc, pm, an, cdv, ct, osl, rfl, lk, hcd⟩ := Fu.ex
  refine ⟨fun st0 H u v Q E z0 hb rv hq => ?_⟩
  have old : ∀ b o, base.get? b = some o → st0.heap.get? b = some o := fun b o e => (z0.bs b o e).1
  have kin : K.In st0.heap := z0.mod.kin.keeps old
  have far : callerA.depth < recursionLimit := by decide
  refine codeAny_call_function far (kin _ _ lk) rfl S.co S.gen rfl (PySem.W.codeRec_of kin hcd) (hb _ _ _ _ ?_)
  refine wpAny_newFunctionEnv_cells S.kind (fun y hy => ?_) fun env he st1 xx => ?_
  · have e : y = (x, u) := List.mem_singleton.mp hy
    subst e
    exact (S.par x List.mem_cons_self).imp_right fun z => ⟨z, PySem.W.cellsFrom_some _ _ _ (.inl z)⟩
  subst he
  refine ⟨(z0.mod.nolimit.keeps old).keeps xx.toInCall.keep, codeAny_func ?_⟩
  obtain ⟨t, ht, hh⟩ := body cdv st0 H v Q E hq
  have I : Inv (cxOf (L2.CX P w) P w K mg base N qual (defScope st) f cdv callerA [] st0 H E) [] (start N [v]) H st1 := inv_start (us := [u]) (vs := [v]) S rfl z0 rfl (.cons rv .nil) xx
  refine wpAny_mono (ht.run [] st1 (start N [v]) H _ I hh) (fun fl s' hs => ?_) fun _ _ z => z
  cases fl with
  | brk =>
    obtain ⟨_, _, _, z⟩ := hs
    exact False.elim z
  | cont =>
    obtain ⟨_, _, _, z⟩ := hs
    exact False.elim z
  | next =>
    obtain ⟨σ', H', J, z⟩ := hs
    exact ⟨V.non, H', J.os, J.bare, J.base, J.hok, rfl, z⟩
  | ret u' =>
    obtain ⟨v', σ', H', J, r', z⟩ := hs
    exact ⟨v', H', J.os, J.bare, J.base, J.hok, r', z⟩
/-- the law's promise, the script s heap either tracked or one of the module's own objects -/
theorem law_core {P : Program} {w : World} {K : Fg} {mg mb : Str → Option Value} {fa a : Addr} {fd : FuncData} {x : Str} {sp : Sp} {st1 : Shared} {vs : List Value} {H : Hp}
    (kx : K.In st1.heap) (ns0 : st1.heap.Ns mainGlobals mg) (ns1 : st1.heap.Ns builtinsNs mb) (blt : ∀ y : Str, y ≠ "__name__" → mb y = bootBuiltins y) (lim : st1.heap.NoLimit) (gens : st1.gens = #[])
    (ea : st1.heap.get? a = some { cls := .type "list", data := .seq vs.toArray })
    (at_ : ∀ base : Heap, K.In base → base.Ns mainGlobals mg → LawAt P w K mg base fa fd x sp) (bind : ∀ (s : Shared) (u : Value), BindsTo s fd ⟨[u], []⟩ [(x, u)])
    (only : ∀ b, H b ≠ none → b = a ∧ ∃ o xs, H b = some (.frz o (.lst xs))) (hok : HOk P w H st1.heap) (free : H a ≠ none → K.lookup a = none) (hsp : sp [.ref a] H (fun v _ => v = .bl true) fun _ _ _ => False) :
    codeAny (model P w) callerA (.call (.ref fa) ⟨[.ref a], []⟩) (fun r s' => r = .ok (.ret (.bool true)) ∧ OldK st1.heap s'.heap ∧ s'.os = st1.os ∧ AllBare s'.gens) st1 := by
  have notA : ∀ {b : Addr}, b ≠ a → H b = none := fun {b} hb => Classical.byContradiction fun z => hb (only b z).1
  have low : ∀ {b : Addr} {o : Obj}, st1.heap.get? b = some o → H b = none → (hidT st1.heap H).get? b = some o := fun z n => hidT_get z n
  have dictLow : ∀ {b : Addr} {m : Str → Option Value}, st1.heap.Ns b m → (hidT st1.heap H).Ns b m := fun {b m} ⟨o, es, ep, z, d, r⟩ => ⟨o, es, ep, low z (notA fun q => by
    subst q
    cases ea.symm.trans z
    exact nomatch (show Data.seq vs.toArray _ = Data.dict es ep from d)), d, r⟩
  have kb : K.In (hidT st1.heap H) := fun b o z => low (kx b o z) (by
    by_cases hb : b = a
    · subst hb
      cases q : H b with
      | none => rfl
      | some y => exact nomatch (free (by rw [q]; exact fun z => nomatch z)).symm.trans z
    · exact notA hb)
  have mo : Mod K mg (hidT st1.heap H) := ⟨kb, dictLow ns0, ⟨mb, dictLow ns1, blt⟩, ⟨lim.choose, dictLow lim.choose_spec.1, lim.choose_spec.2⟩⟩
  have z0 : Env0 P w K mg (hidT st1.heap H) callerA [] st1 H := ⟨rfl, mo, fun _ _ z => of_hidT z, Nat.le_of_eq (hidT_size _ _), trivial, (fun b hb => (by cases (show b ∈ ([] : List Addr) from hb))), hok, .of_eq gens⟩
  refine codeAny_mono ((at_ _ kb (dictLow ns0)).run st1 H (.ref a) (.ref a) _ _ z0 (bind st1 (.ref a)) rfl hsp) fun r s' h => ?_
  match r, h with
  | .error e, h =>
    obtain ⟨_, _, _, _, _, _, _, _, _, _, _, _, z⟩ := h
    exact False.elim z
  | .ok .next, h => exact False.elim h
  | .ok .brk, h => exact False.elim h
  | .ok .cont, h => exact False.elim h
  | .ok (.ret u), h =>
    obtain ⟨v, H', os, bare, un, hok', rv, q⟩ := h
    cases (show v = .bl true from q)
    cases (show u = Value.bool true from rv)
    refine ⟨rfl, OldK.of_keep fun b o z => ?_, os, bare⟩
    by_cases hn : H b = none
    · exact un.keep b o z hn (fun w => (by cases (show b ∈ ([] : List Addr) from w))) (by simp)
    · obtain ⟨_, ob, xs, hb⟩ := only b hn
      cases z.symm.trans (hok b _ hb).1
      exact (hok' b _ (un.frzs b _ _ hb)).1
theorem law_here {P : Program} {w : World} {K : Fg} {mg mb : Str → Option Value} {fa a : Addr} {fd : FuncData} {x : Str} {sp : Sp} {st1 : Shared} {vs : List Value} {ns : List Int}
    (kx : K.In st1.heap) (ns0 : st1.heap.Ns mainGlobals mg) (ns1 : st1.heap.Ns builtinsNs mb) (blt : ∀ y : Str, y ≠ "__name__" → mb y = bootBuiltins y) (lim : st1.heap.NoLimit) (gens : st1.gens = #[])
    (ea : st1.heap.get? a = some { cls := .type "list", data := .seq vs.toArray }) (hi : IntsAre vs ns) (hl : ns.length ≤ sizeLine)
    (at_ : ∀ base : Heap, K.In base → base.Ns mainGlobals mg → LawAt P w K mg base fa fd x sp) (bind : ∀ (s : Shared) (u : Value), BindsTo s fd ⟨[u], []⟩ [(x, u)])
    (hsp : ∀ H : Hp, SqL K H a (ns.map V.int) → sp [.ref a] H (fun v _ => v = .bl true) fun _ _ _ => False) :
    codeAny (model P w) callerA (.call (.ref fa) ⟨[.ref a], []⟩) (fun r s' => r = .ok (.ret (.bool true)) ∧ OldK st1.heap s'.heap ∧ s'.os = st1.os ∧ AllBare s'.gens) st1 := by
  have rv := vals_ints hi
  cases hk : K.lookup a with
  | none =>
    obtain ⟨H, hH, hN⟩ : ∃ H : Hp, H a = some (.frz { cls := .type "list", data := .seq vs.toArray } (.lst (ns.map V.int))) ∧ ∀ b, b ≠ a → H b = none :=
      ⟨fun b => if b = a then some (.frz { cls := .type "list", data := .seq vs.toArray } (.lst (ns.map V.int))) else none, if_pos rfl, fun b hb => if_neg hb⟩
    have isA : ∀ b, H b ≠ none → b = a := fun b z => Classical.byContradiction fun q => z (hN b q)
    refine law_core (H := H) kx ns0 ns1 blt lim gens ea at_ bind (fun b z => ⟨isA b z, { cls := .type "list", data := .seq vs.toArray }, ns.map V.int, (isA b z).symm ▸ hH⟩) (fun b y z => ?_) (fun _ => hk) (hsp H (.inl (.inr ⟨_, hH⟩)))
    cases isA b (by rw [z]; exact fun q => nomatch q)
    cases hH.symm.trans z
    exact ⟨ea, by rw [List.length_map]; exact hl, vs, _, rv, ea⟩
  | some o =>
    cases ea.symm.trans (kx a o hk)
    exact law_core (H := fun _ => none) kx ns0 ns1 blt lim gens ea at_ bind (fun b z => absurd rfl z) (fun b y z => nomatch (show (none : Option HO) = some y from z)) (fun z => absurd rfl z)
      (hsp _ (.inr ⟨_, vs.toArray, _, hk, rfl, rfl, rfl, by rw [List.size_toArray, hi.length]; exact hl, by simpa using rv⟩))
theorem walk_here {l : PySem.W.OpenLaw} {n : Nat} {q : Program} {loose : List Str} {XP : (Str → Option Value) → Heap → Prop} {YP : World → Heap → Prop} {d : DefRec} {K : Params → Fg} {sp : Fg → Sp} {x : Str}
    (hn : l.most = some n) (hn2 : n ≤ sizeLine) (hdf : d.params.defaults = []) (hY : ∀ (w : World) (h : Heap), YP w h → (K w.params).In h)
    (Fo : ∀ (w : World) (mg : Str → Option Value) (fa : Addr) (h : Heap), (K w.params).In h → h.Ns mainGlobals mg → mg d.name = some (.ref fa) →
      ∃ fd : FuncData, (∀ (s : Shared) (u : Value), BindsTo s fd ⟨[u], []⟩ [(x, u)]) ∧ ∀ base : Heap, (K w.params).In base → base.Ns mainGlobals mg → LawAt l.prog w (K w.params) mg base fa fd x (sp (K w.params)))
    (hsp : ∀ (K : Fg) (H : Hp) (a : Addr) (ns : List Int), ns.length ≤ n → SqL K H a (ns.map V.int) → sp K [.ref a] H (fun v _ => v = .bl true) fun _ _ _ => False) :
    PySem.W.WalkO q loose XP YP l.row.toRowW d [] (fun f vs => PySem.call f vs) := by
  refine Att.attach_call hn hdf fun w _ st1 mg mb fa _ _ _ _ a vs ns G Y _ _ _ hmg hobj hints hlen hg => ?_
  obtain ⟨fd, hb, hF⟩ := Fo w mg fa _ (hY w _ Y) G.T.g hmg
  exact law_here (hY w _ Y) G.T.g G.T.b G.T.builtins G.T.nolimit hg hobj hints (Nat.le_trans hlen hn2) hF hb fun H hS => hsp _ H a ns hlen hS
end Dx
namespace Dx
open PySem L2
/-! ### the text's defs, packed -/
structure DefAt (K : Fg) (mg : Str → Option Value) (x : Str) (st : Stmt) (ps : List Str) : Prop where
  ex : ∃ f fd, Fun K x x st f fd ∧ Binds K fd ps [] ∧ mg x = some (.ref f)
def OkP (P : Program) (w : World) (K : Fg) (mg : Str → Option Value) (base : Heap) (k : Nat) (x : Str) (n : Nat) (φ : Phi) : Prop :=
  ∃ f fd ps, FnOk P w K mg base (L2.CX P w) k f fd ps (SpP K n φ) ∧ mg x = some (.ref f) ∧ PySem.W.keepIn K (.ref f) = true ∧ Binds K fd ps []
def OkH (P : Program) (w : World) (K : Fg) (mg : Str → Option Value) (base : Heap) (k : Nat) (x : Str) (n : Nat) (φ : Phi) : Prop :=
  ∃ f fd ps, FnOk P w K mg base (L2.CX P w) k f fd ps (SpH K n φ) ∧ mg x = some (.ref f) ∧ PySem.W.keepIn K (.ref f) = true ∧ Binds K fd ps []
section
variable {P : Program} {w : World} {K : Fg} {mg : Str → Option Value} {base : Heap}
theorem okP_of {x : Str} {st : Stmt} {N ps : List Str} {k n : Nat} {φ : Phi} {δ : DS} (D : DefAt K mg x st ps) (S : FnScope N ps (defScope st)) (hn : ps.length = n)
    (hb : ∀ f, BodyD P w K mg base N x st f k δ) (hd : ∀ ds Q QE, ds.length = n → φ ds Q QE → δ (endsD Q QE) (startD N ds)) : OkP P w K mg base (k + 1) x n φ := by
  obtain ⟨f, fd, Fu, bi, hm⟩ := D.ex
  exact ⟨f, fd, ps, fn_P Fu S hn (hb f) hd, hm, Fu.kp, bi⟩
theorem okH_of {x : Str} {st : Stmt} {N ps : List Str} {k n : Nat} {φ : Phi} {δ : DS} (D : DefAt K mg x st ps) (S : FnScope N ps (defScope st)) (hn : ps.length = n + 1)
    (hb : ∀ f, BodyD P w K mg base N x st f k δ) (hd : ∀ ds Q QE, ds.length = n → φ ds Q QE → δ (endsD Q QE) (startH N ds)) : OkH P w K mg base (k + 1) x n φ := by
  obtain ⟨f, fd, Fu, bi, hm⟩ := D.ex
  exact ⟨f, fd, ps, fn_H Fu S hn (hb f) hd, hm, Fu.kp, bi⟩
end
section
variable {X : Cx} {F : Fx} {W : WX} {k n i : Nat} {φ : Phi} {x : Str} {p pos : Pos} {e o : Expr} {es : List Expr} {τ : DA} {βs : List Bi}
theorem qe_cP (G : OkP X.prog X.w X.K X.mg X.base k x n φ) (hr : Room k X.A) (hg : Gl X x) (tk : Takes X W) (ha : QA X F W (e :: es) τ)
    (hdb : (x == ("__debug__" : Str)) = false := by decide) (he : starEach (e :: es) X.env = (false, eval e X.env) :: starEach es X.env := by rfl) (hpl : (backTo pos (starEach es X.env)).any (·.1) = false := by rfl) :
    QE X F W (.Call (.Name x p) (e :: es) [] pos) (dCall n φ τ) := by
  obtain ⟨f, fd, ps, G, hm, hk, hb⟩ := G
  exact qe_call G hr hg hm hk hb tk ha hdb he hpl
theorem qn_cP (G : OkP X.prog X.w X.K X.mg X.base k x n φ) (hr : Room k X.A) (hg : Gl X x) (tk : Takes X W) (ha : QA X F W (e :: es) τ)
    (hdb : (x == ("__debug__" : Str)) = false := by decide) (he : starEach (e :: es) X.env = (false, eval e X.env) :: starEach es X.env := by rfl) (hpl : (backTo pos (starEach es X.env)).any (·.1) = false := by rfl) :
    QN X F W (.Call (.Name x p) (e :: es) [] pos) (dCallN n φ τ) := by
  obtain ⟨f, fd, ps, G, hm, hk, hb⟩ := G
  exact qn_call G hr hg hm hk hb tk ha hdb he hpl
theorem qe_cB (G : OkP X.prog X.w X.K X.mg X.base k x n φ) (hr : Room k X.A) (hg : Gl X x) (tk : Takes X W) (ha : QBs X F W (e :: es) βs)
    (hdb : (x == ("__debug__" : Str)) = false := by decide) (he : starEach (e :: es) X.env = (false, eval e X.env) :: starEach es X.env := by rfl) (hpl : (backTo pos (starEach es X.env)).any (·.1) = false := by rfl) :
    QE X F W (.Call (.Name x p) (e :: es) [] pos) (dCallB n φ βs) := by
  obtain ⟨f, fd, ps, G, hm, hk, hb⟩ := G
  exact qe_callDB G hr hg hm hk hb tk ha hdb he hpl
theorem qe_cH (G : OkH X.prog X.w X.K X.mg X.base k x n φ) (hr : Room k X.A) (hg : Gl X x) (tk : Takes X W) (hh : PE X o (tVar i)) (ha : QA X F W es τ)
    (hdb : (x == ("__debug__" : Str)) = false := by decide) (he : starEach (o :: es) X.env = (false, eval o X.env) :: starEach es X.env := by rfl) (hpl : (backTo pos (starEach es X.env)).any (·.1) = false := by rfl) :
    QE X F W (.Call (.Name x p) (o :: es) [] pos) (dCallH i n φ τ) := by
  obtain ⟨f, fd, ps, G, hm, hk, hb⟩ := G
  exact qe_callH G hr hg hm hk hb tk hh ha hdb he hpl
theorem qn_cH (G : OkH X.prog X.w X.K X.mg X.base k x n φ) (hr : Room k X.A) (hg : Gl X x) (tk : Takes X W) (hh : PE X o (tVar i)) (ha : QA X F W es τ)
    (hdb : (x == ("__debug__" : Str)) = false := by decide) (he : starEach (o :: es) X.env = (false, eval o X.env) :: starEach es X.env := by rfl) (hpl : (backTo pos (starEach es X.env)).any (·.1) = false := by rfl) :
    QN X F W (.Call (.Name x p) (o :: es) [] pos) (dCallHN i n φ τ) := by
  obtain ⟨f, fd, ps, G, hm, hk, hb⟩ := G
  exact qn_callH G hr hg hm hk hb tk hh ha hdb he hpl
theorem boot_at {x : Str} {v : Value} (h : bootBuiltins x = some v) : bootBuiltins x = some v := h
end
theorem bb_len : bootBuiltins "len" = some (.builtin "len") := by decide +kernel
theorem bb_abs : bootBuiltins "abs" = some (.builtin "abs") := by decide +kernel
theorem bb_min : bootBuiltins "min" = some (.builtin "min") := by decide +kernel
theorem bb_max : bootBuiltins "max" = some (.builtin "max") := by decide +kernel
theorem bb_divmod : bootBuiltins "divmod" = some (.builtin "divmod") := by decide +kernel
theorem bb_repr : bootBuiltins "repr" = some (.builtin "repr") := by decide +kernel
theorem bb_isinstance : bootBuiltins "isinstance" = some (.builtin "isinstance") := by decide +kernel
theorem bb_int : bootBuiltins "int" = some (.type "int") := by decide +kernel
theorem bb_str : bootBuiltins "str" = some (.type "str") := by decide +kernel
theorem bb_bool : bootBuiltins "bool" = some (.type "bool") := by decide +kernel
theorem bb_list : bootBuiltins "list" = some (.type "list") := by decide +kernel
theorem bb_tuple : bootBuiltins "tuple" = some (.type "tuple") := by decide +kernel
theorem bb_dict : bootBuiltins "dict" = some (.type "dict") := by decide +kernel

/-! ### the law's hand: made, drawn from -/
def phHand : Phi := fun ds P _ => ∃ ns : List Int, ds = [.scr ns] ∧ ns.length ≤ 63 ∧ ∀ t : Int, 0 ≤ t → t < 2147483629 → P (.own (.lst [.lst (ns.map fun n => .int (n.natAbs : Int)), .int 0, .int 0, .int t]))
def phDraw : Phi := fun ds P _ => ∃ m : Int, ds = [.int m] ∧ 0 < m ∧ m.natAbs.log2 < 4000 ∧ ∀ r : Int, 0 ≤ r → r < m → P (.val (.int r))
def phMix : Phi := fun ds P _ => ∃ a b : Int, ds = [.int a, .int b] ∧ 0 ≤ a ∧ a < 2147483647 ∧ 0 ≤ b ∧ b ≤ 64 ∧ ∀ r : Int, 0 ≤ r → P (.val (.int r))
def spLaw (K : Fg) : Sp := fun vs H Q _ => ∃ (a : Addr) (ns : List Int), vs = [.ref a] ∧ ns.length ≤ 63 ∧ SqL K H a (ns.map V.int) ∧ ∀ H', Q (.bl true) H'
/-- the law's slots behind the hand's making -/
def lawSl (N : List Str) (ns : List Int) : Sl := .val (.scr ns) :: .hand :: List.replicate (N.length - 2) .un
def dHand : DS := dOwn 1 (dCallN 1 phHand (dCons (dVar 0) dNil))
theorem sls_uns {K : Fg} {F F' : Fx} {G H : Hp} : ∀ {n : Nat} {σ : L2.St} {as : List Addr}, Sls K F G H σ (List.replicate n .un) as → Sls K F' G H σ (List.replicate n .un) []
  | 0, _, _, .nil => .nil
  | n + 1, _, _, .un t => .un (sls_uns t)
theorem law_hand {P : Program} {w : World} {K : Fg} {mg : Str → Option Value} {base : Heap} {x name qual : Str} {st s1 : Stmt} {rest : List Stmt} {f : Addr} {fd : FuncData} {N : List Str} {δ : DS} (Fu : Fun K name qual st f fd) (S : FnScope N [x] (defScope st)) (hN : 2 ≤ N.length)
    (hb : defBody st = s1 :: rest)
    (h1 : ∀ (cdv : Value) (st0 : Shared) (H : Hp) (E : XK) (F : Fx), QS (cxOf (L2.CX P w) P w K mg base N qual (defScope st) f cdv callerA [] st0 H E) F (WOut E) s1 dHand)
    (h2 : ∀ (cdv : Value) (st0 : Shared) (H : Hp) (E : XK) (F : Fx), QSs (cxOf (L2.CX P w) P w K mg base N qual (defScope st) f cdv callerA [] st0 H E) F (WOut E) rest δ)
    (hd : ∀ ns : List Int, ns.length ≤ 63 → δ (endsD (fun r => r = .val (.bl true)) fun _ => False) (lawSl N ns)) : LawAt P w K mg base f fd x (spLaw K) := by
  refine law_at Fu S fun cdv st0 H v Q E h => ?_
  obtain ⟨a, ns, e, hl, hS, k⟩ := h
  cases e
  rw [hb]
  refine ⟨_, pss_cons (u := fun D σ H' => ∃ F, LS K F (WOut E) δ D σ H') (h1 cdv st0 H E ⟨none, H, H⟩).run ⟨fun pins s σ H' D I ⟨F, q⟩ => (h2 cdv st0 H E F).run.run pins s σ H' D I q⟩, ?_⟩
  have R0 : Rel K ⟨none, H, H⟩ H (L2.start N [.ref a]) H (startD N [.scr ns]) := start_P (Same.refl _) (.cons (.scr hS) .nil)
  obtain ⟨m, hm⟩ : ∃ m, N.length = m + 2 := ⟨N.length - 2, by omega⟩
  have e0 : startD N [.scr ns] = .val (.scr ns) :: .un :: List.replicate m .un := by
    unfold startD
    rw [hm]
    rfl
  rw [e0] at R0
  refine ⟨H, _, { nx := fun sl => ∃ t : Int, 0 ≤ t ∧ t < 2147483629 ∧ sl = .val (.scr ns) :: .own (.lst [.lst (ns.map fun n => .int (n.natAbs : Int)), .int 0, .int 0, .int t]) :: List.replicate m .un, rt := fun _ => False, bk := fun _ => False, ct := fun _ => False, ex := fun _ _ => False }, R0, ?_, ?_⟩
  · refine ⟨rfl, ns, rfl, hl, fun t t0 t1 => ?_⟩
    exact ⟨_, rfl, t, t0, t1, rfl⟩
  · refine ⟨fun sl' hsl G' σ' H' s R => ?_, fun _ z => False.elim z, fun _ z => False.elim z, fun _ z => False.elim z, fun _ _ z => False.elim z⟩
    obtain ⟨t, t0, t1, rfl⟩ := hsl
    obtain ⟨g1, g2, g3, g4, g5, as, ss⟩ := R
    cases ss with
    | val rv ss =>
      cases ss with
      | @own q d σ'' _ as' o gq hq pq nq ss =>
        obtain ⟨xs, e1, rr⟩ := o
        cases rr with
        | cons r1 rr =>
          cases rr with
          | cons r2 rr =>
            cases rr with
            | cons r3 rr =>
              cases rr with
              | cons r4 rr =>
                cases rr
                cases r1 with
                | lst gc tc =>
                  cases r2
                  cases r3
                  cases r4
                  have ec := RpL.toInts (K := K) (G := G') (ns := ns.map fun n => (n.natAbs : Int)) (by rw [List.map_map]; exact tc)
                  refine ⟨⟨some q, H', G'⟩, G', lawSl N ns, endsD (fun r => r = .val (.bl true)) (fun _ => False), ?_, hd ns hl, ?_⟩
                  · unfold lawSl
                    rw [hm]
                    refine ⟨g1, Same.refl _, fun _ _ z _ => z, fun _ _ z => .inl z, fun p hp => ?_, [], .val rv (.hand rfl ⟨_, e1⟩ (sls_uns ss))⟩
                    cases hp
                    refine ⟨.inl ⟨⟨_, e1⟩, _, ns.map fun n => (n.natAbs : Int), 0, 0, t, e1, ?_, ?_, ?_, Int.le_refl _, ?_, Int.le_refl _, t0, t1⟩, gq⟩
                    · rw [← ec]
                      exact SqL.of gc
                    · intro x hx
                      obtain ⟨n, _, rfl⟩ := List.mem_map.mp hx
                      exact Int.natCast_nonneg _
                    · rw [List.length_map]; exact hl
                    · exact Int.natCast_nonneg _
                  · refine ⟨fun _ z => ?_, fun _ z => False.elim z, fun _ z => False.elim z, fun r z G2 H2 v _ R2 => ?_, fun _ _ z => False.elim z⟩
                    · exact nomatch (show Ret.val .non = Ret.val (.bl true) from z)
                    · cases (show r = .val (.bl true) from z)
                      obtain ⟨v', e, r⟩ := R2.frontVal
                      cases e
                      cases r
                      exact k H2
end Dx
namespace Dx
open PySem L2
section
variable {X : Cx} {F : Fx} {W : WX} {e tg iter : Expr} {α β : DE} {ι κ : DI}
def dAltI (ι κ : DI) : DI := fun sl E P => ι sl E P ∨ κ sl E P
def dAlt (α β : DE) : DE := fun sl E P => α sl E P ∨ β sl E P
theorem qi_alt (h1 : QI X F W tg iter ι) (h2 : QI X F W tg iter κ) : QI X F W tg iter (dAltI ι κ) := ⟨⟨fun pins s σ H R I q => by
  obtain ⟨G, sl, E, P, Re, h, k, kx⟩ := q
  rcases h with h | h
  · exact h1.run.run pins s σ H R I ⟨G, sl, E, P, Re, h, k, kx⟩
  · exact h2.run.run pins s σ H R I ⟨G, sl, E, P, Re, h, k, kx⟩⟩⟩
theorem qe_alt (h1 : QE X F W e α) (h2 : QE X F W e β) : QE X F W e (dAlt α β) := ⟨⟨fun pins s σ H Q I q => by
  obtain ⟨G, sl, E, P, Re, h, k, kx⟩ := q
  rcases h with h | h
  · exact h1.run.run pins s σ H Q I ⟨G, sl, E, P, Re, h, k, kx⟩
  · exact h2.run.run pins s σ H Q I ⟨G, sl, E, P, Re, h, k, kx⟩⟩⟩
theorem qe_gStr {x z : Str} {pos : Pos} (hg : Gl X x) (hm : ∃ t, X.mg x = some (.str z t)) (hd : (x == ("__debug__" : Str)) = false := by decide) : QE X F W (.Name x pos) (dC (.str z)) := by
  obtain ⟨t, hm⟩ := hm
  exact qe_glob (v := .str z) hg hm ⟨t, rfl⟩ (fun _ => .str _) hd
theorem qe_gInt {x : Str} {n : Int} {pos : Pos} (hg : Gl X x) (hm : ∃ t, X.mg x = some (.int n t)) (hd : (x == ("__debug__" : Str)) = false := by decide) : QE X F W (.Name x pos) (dC (.int n)) := by
  obtain ⟨t, hm⟩ := hm
  exact qe_glob (v := .int n) hg hm ⟨t, rfl⟩ (fun _ => .int _) hd
theorem room200 {A : Around} {k : Nat} (hr : Room k A) : A.units + 200 < cLine := Nat.lt_of_le_of_lt (by omega) hr.un
end
end Dx
namespace Dx
open PySem L2
/-! ### drawing -/
abbrev hIx (K : Fg) (n : Int) : TE := tOp (rIx K) (tVar 0) (tC (.int n))
abbrev rLenS (K : Fg) : List V → Hp → VK → Prop := fun xs H Q => ∃ p ys, xs = [V.ref p] ∧ (SqL K H p ys ∨ SqT K H p ys) ∧ Q (.int (ys.length : Int)) H
abbrev rInt1 : List V → Hp → VK → Prop := fun xs H Q => (∃ i, xs = [V.int i] ∧ Q (.int i) H) ∨ ∃ k, xs = [V.bl k] ∧ Q (.int (if k = true then 1 else 0)) H
abbrev tMod (a b : TE) : TE := tOp (rI (fun _ j => 0 < j) fun i j => .int (i % j)) a b
abbrev tMix (K : Fg) (E : XK) (a b : TE) : TE := tCallS (SpP K 2 phMix) (fun σ => WE (WOut E) σ) (tCons a (tCons b tNil))
def tDraw (K : Fg) (E : XK) : TS :=
  tSeq (tIfS (tAnd (tTest (tOp rEq (hIx K 2) (tC (.int 0)))) (tTest (tOp (rI0 fun i j => .bl (decide (i < j))) (hIx K 1) (tCB (rLenS K) (tCons (hIx K 0) tNil)))))
    (tSeq (tAsg (tOp (rIx K) (hIx K 0) (hIx K 1)) (gName 2)) (tSeq (tAsg (tOp (rI0 fun i j => .int (i + j)) (hIx K 1) (tC (.int 1))) (gSub (tVar 0) (tC (.int 1)) rSetL))
      (tSeq (tIfS (tTest (tOp (rI0 fun i j => .bl (decide (i < j))) (tVar 2) (tOp (rI CPow fun i j => .int (i ^ j.toNat)) (tC (.int 10)) (tC (.int 18)))))
        (tRet (tMod (tCB rInt1 (tCons (tMix K E (tMod (tCB rInt1 (tCons (tVar 2) tNil)) (tC (.int 2147483647))) (hIx K 1)) tNil)) (tVar 1))) tNext)
      (tAsg (tVar 2) (gSub (tVar 0) (tC (.int 2)) rSetL))))) tNext)
  (tSeq (tIfS (tTest (tOp (rI0 fun i j => .bl (decide (j < i))) (hIx K 2) (tC (.int 0))))
    (tSeq (tAsg (hIx K 2) (gName 3)) (tSeq (tAsg (tOp (rI CDivW fun i j => .int (i / j)) (tVar 3) (tVar 1)) (gSub (tVar 0) (tC (.int 2)) rSetL))
      (tRet (tMod (tCB rInt1 (tCons (tVar 3) tNil)) (tVar 1))))) tNext)
  (tSeq (tAsg (tMod (tCB rInt1 (tCons (tOp (rI0 fun i j => .int (i + j)) (hIx K 3) (tC (.int 1))) tNil)) (tC (.int 2147483629))) (gSub (tVar 0) (tC (.int 3)) rSetL))
  (tRet (tMod (tCB rInt1 (tCons (tMix K E (hIx K 3) (hIx K 1)) tNil)) (tVar 1)))))
section
variable {K : Fg} {E : XK} {q c : Addr} {i r t m : Int} {cells : List Int} {H : Hp} {G : Hp}
abbrev hL (c : Addr) (i r t : Int) : HO := .lst [.ref c, .int i, .int r, .int t]
theorem hIx_at {σ : L2.St} {n : Int} {xs : List V} {v : V} {Q : VK} (e : σ[0]? = some (some (.ref q))) (hq : H q = some (.lst xs)) (hn : atI xs n = some v) (k : Q v H) : hIx K n σ H Q :=
  ⟨_, e, .inl ⟨q, xs, n, v, rfl, rfl, SqL.of hq, hn, k⟩⟩
theorem mix_at {H : Hp} {a b : Int} {Q : VK} {E' : XK} (h1 : 0 ≤ a) (h2 : a < 2147483647) (h3 : 0 ≤ b) (h4 : b ≤ 64) (k : ∀ (H' : Hp) (v : Int), Same H H' → 0 ≤ v → Q (.int v) H') : SpP K 2 phMix [.int a, .int b] H Q E' := by
  refine ⟨fun _ => none, [.int a, .int b], fun r => ∃ v : Int, r = .val (.int v) ∧ 0 ≤ v, fun _ => False, rfl, fun _ _ z => (nomatch (show (none : Option HO) = some _ from z)), .cons (.int _) (.cons (.int _) .nil), ⟨a, b, rfl, h1, h2, h3, h4, fun v hv => ⟨v, rfl, hv⟩⟩, fun r p G' H' v _ R => ?_, fun _ z => z.elim⟩
  obtain ⟨n, rfl, hn⟩ := p
  obtain ⟨v', e, rr⟩ := R.frontVal
  cases e
  cases rr
  exact k H' n (fun b o z => R.fr b o z (fun w => nomatch w)) hn
theorem draw_end {H' : Hp} {v m : Int} {σ : L2.St} {Q : VK} (em : σ[1]? = some (some (.int m))) (hm : 0 < m) (k : ∀ w : Int, 0 ≤ w → w < m → Q (.int w) H') : ∀ te : TE, (∀ Q' : VK, Q' (.int v) H' → te σ H' Q') → tMod te (tVar 1) σ H' Q := fun te h =>
  h _ ⟨_, em, v, m, rfl, rfl, hm, k _ (Int.emod_nonneg _ (by omega)) (Int.emod_lt_of_pos _ hm)⟩
theorem draw_reads {Q : VK} (hq : H q = some (hL c i r t)) (hc : SqL K G c (cells.map V.int)) (gh : Same G H) (gq : G q = none) (pos : ∀ x ∈ cells, 0 ≤ x) (l63 : cells.length ≤ 63) (i0 : 0 ≤ i) (il : i ≤ cells.length) (r0 : 0 ≤ r) (t0 : 0 ≤ t) (t1 : t < 2147483629) (hm : 0 < m) (ml : m.natAbs.log2 < 4000)
    (k : ∀ (H' : Hp) (v i' r' t' : Int), 0 ≤ v → v < m → (∀ b o, b ≠ q → H b = some o → H' b = some o) → H' q = some (hL c i' r' t') → 0 ≤ i' → i' ≤ cells.length → 0 ≤ r' → 0 ≤ t' → t' < 2147483629 → Q (.int v) H') :
    tDraw K E { nx := fun _ H' => Q .non H', rt := Q } [some (.ref q), some (.int m), none, none] H := by
  -- the tail
  have last : ∀ (σ : L2.St) (H : Hp) (i r t : Int), σ[0]? = some (some (.ref q)) → σ[1]? = some (some (.int m)) → H q = some (hL c i r t) → 0 ≤ i → i ≤ cells.length → 0 ≤ r → 0 ≤ t → t < 2147483629 →
      (∀ (H' : Hp) (v i' r' t' : Int), 0 ≤ v → v < m → (∀ b o, b ≠ q → H b = some o → H' b = some o) → H' q = some (hL c i' r' t') → 0 ≤ i' → i' ≤ cells.length → 0 ≤ r' → 0 ≤ t' → t' < 2147483629 → Q (.int v) H') →
      (tSeq (tAsg (tMod (tCB rInt1 (tCons (tOp (rI0 fun i j => .int (i + j)) (hIx K 3) (tC (.int 1))) tNil)) (tC (.int 2147483629))) (gSub (tVar 0) (tC (.int 3)) rSetL))
        (tRet (tMod (tCB rInt1 (tCons (tMix K E (hIx K 3) (hIx K 1)) tNil)) (tVar 1)))) { nx := fun _ H' => Q .non H', rt := Q } σ H := by
    intro σ H i r t e0 e1 hq i0 il r0 t0 t1 k
    refine hIx_at e0 hq rfl ⟨_, _, rfl, rfl, .inl ⟨_, rfl, _, _, rfl, rfl, (show (0 : Int) < 2147483629 by decide), _, e0, q, _, _, 3, rfl, rfl, hq, rfl, ?_⟩⟩
    have hq2 : (upd H q (.lst ([V.ref c, .int i, .int r, .int t].set 3 (.int ((t + 1) % 2147483629))))) q = some (hL c i r ((t + 1) % 2147483629)) := upd_same
    have n0 := Int.emod_nonneg (t + 1) (show (2147483629 : Int) ≠ 0 by decide)
    have n1 := Int.emod_lt_of_pos (t + 1) (show (0 : Int) < 2147483629 by decide)
    refine hIx_at e0 hq2 rfl (hIx_at e0 hq2 rfl (mix_at n0 (by omega) i0 (by omega) fun H3 v s3 v0 => .inl ⟨_, rfl, _, e1, _, _, rfl, rfl, hm, ?_⟩))
    exact k H3 _ i r _ (Int.emod_nonneg _ (by omega)) (Int.emod_lt_of_pos _ hm) (fun b o hb e => s3 b o (by rw [upd_ne hb]; exact e)) (s3 _ _ hq2) i0 il r0 n0 n1
  have mid : ∀ (σ : L2.St) (H : Hp) (i r t : Int) (x3 : Option V), σ = [some (.ref q), some (.int m), x3, none] → H q = some (hL c i r t) → 0 ≤ i → i ≤ cells.length → 0 ≤ r → 0 ≤ t → t < 2147483629 →
      (∀ (H' : Hp) (v i' r' t' : Int), 0 ≤ v → v < m → (∀ b o, b ≠ q → H b = some o → H' b = some o) → H' q = some (hL c i' r' t') → 0 ≤ i' → i' ≤ cells.length → 0 ≤ r' → 0 ≤ t' → t' < 2147483629 → Q (.int v) H') →
      (tSeq (tIfS (tTest (tOp (rI0 fun i j => .bl (decide (j < i))) (hIx K 2) (tC (.int 0))))
        (tSeq (tAsg (hIx K 2) (gName 3)) (tSeq (tAsg (tOp (rI CDivW fun i j => .int (i / j)) (tVar 3) (tVar 1)) (gSub (tVar 0) (tC (.int 2)) rSetL))
          (tRet (tMod (tCB rInt1 (tCons (tVar 3) tNil)) (tVar 1))))) tNext)
        (tSeq (tAsg (tMod (tCB rInt1 (tCons (tOp (rI0 fun i j => .int (i + j)) (hIx K 3) (tC (.int 1))) tNil)) (tC (.int 2147483629))) (gSub (tVar 0) (tC (.int 3)) rSetL))
        (tRet (tMod (tCB rInt1 (tCons (tMix K E (hIx K 3) (hIx K 1)) tNil)) (tVar 1))))) { nx := fun _ H' => Q .non H', rt := Q } σ H := by
    rintro σ H i r t x3 rfl hq i0 il r0 t0 t1 k
    refine hIx_at rfl hq rfl ⟨_, _, rfl, rfl, _, rfl, ?_⟩
    refine ite2 (fun _ => ?_) (fun _ => last _ H i r t rfl rfl hq i0 il r0 t0 t1 k)
    refine hIx_at rfl hq rfl ⟨_, rfl, _, rfl, _, _, rfl, rfl, ⟨hm, by omega⟩, _, rfl, q, _, _, 2, rfl, rfl, hq, rfl, _, rfl, .inl ⟨_, rfl, _, rfl, _, _, rfl, rfl, hm, ?_⟩⟩
    exact k _ _ i _ t (Int.emod_nonneg _ (by omega)) (Int.emod_lt_of_pos _ hm) (fun b o hb e => by rw [upd_ne hb]; exact e) upd_same i0 il (Int.ediv_nonneg r0 (by omega)) t0 t1
  have hcH : SqL K H c (cells.map V.int) := sqL_mono gh hc
  refine hIx_at rfl hq rfl ⟨by rfl, _, rfl, ?_⟩
  refine ite2 (fun _ => ?_) (fun _ => mid _ H i r t _ rfl hq i0 il r0 t0 t1 k)
  refine hIx_at rfl hq rfl (hIx_at rfl hq rfl ⟨c, _, rfl, .inl hcH, _, _, rfl, rfl, _, rfl, ?_⟩)
  refine ite2 (fun hlt => ?_) (fun _ => mid _ H i r t _ rfl hq i0 il r0 t0 t1 k)
  have hlt := of_decide_eq_true hlt
  rw [List.length_map] at hlt
  obtain ⟨n, rfl⟩ := Int.eq_ofNat_of_zero_le i0
  have hn : n < cells.length := by omega
  have hx : atI (cells.map V.int) (n : Int) = some (.int cells[n]) := by
    unfold atI ixN
    rw [if_pos (Int.natCast_nonneg n), List.length_map, if_pos (by omega)]
    simp [hn]
  refine hIx_at rfl hq rfl (hIx_at rfl hq rfl (.inl ⟨c, _, _, _, rfl, rfl, hcH, hx, ?_⟩))
  refine hIx_at rfl hq rfl ⟨_, _, rfl, rfl, _, rfl, q, _, _, 1, rfl, rfl, hq, rfl, ?_⟩
  have cz : 0 ≤ cells[n] := pos _ (List.getElem_mem hn)
  have hq2 : (upd H q (.lst ([V.ref c, .int (n : Int), .int r, .int t].set 1 (.int ((n : Int) + 1))))) q = some (hL c ((n : Int) + 1) r t) := upd_same
  have far : ∀ b o, b ≠ q → H b = some o → (upd H q (.lst ([V.ref c, .int (n : Int), .int r, .int t].set 1 (.int ((n : Int) + 1))))) b = some o := fun b o hb e => by rw [upd_ne hb]; exact e
  refine ⟨_, rfl, _, _, rfl, rfl, ⟨by decide, by decide, by decide⟩, _, _, rfl, rfl, _, rfl, ?_⟩
  refine ite2 (fun hsm => ?_) (fun _ => ?_)
  · refine ⟨_, rfl, .inl ⟨_, rfl, _, _, rfl, rfl, (show (0 : Int) < 2147483647 by decide), hIx_at rfl hq2 rfl (mix_at (Int.emod_nonneg _ (by decide)) (Int.emod_lt_of_pos _ (by decide)) (by omega) (by omega) fun H3 v s3 v0 => .inl ⟨_, rfl, _, rfl, _, _, rfl, rfl, hm, ?_⟩)⟩⟩
    exact k H3 _ _ r t (Int.emod_nonneg _ (by omega)) (Int.emod_lt_of_pos _ hm) (fun b o hb e => s3 b o (far b o hb e)) (s3 _ _ hq2) (by omega) (by omega) r0 t0 t1
  · refine ⟨_, rfl, _, rfl, q, _, _, 2, rfl, rfl, hq2, rfl, ?_⟩
    refine mid _ _ ((n : Int) + 1) cells[n] t _ rfl upd_same (by omega) (by omega) cz t0 t1 fun H' v i' r' t' v0 v1 s' hq' => k H' v i' r' t' v0 v1 (fun b o hb e => s' b o hb (by rw [upd_ne hb]; exact far b o hb e)) hq'
theorem draw_ok {P : Program} {w : World} {K : Fg} {mg : Str → Option Value} {base : Heap} {st : Stmt} {f : Addr} {fd : FuncData} {k : Nat} {x : Str} {N : List Str} (hN : N.length = 4) (Fu : Fun K x x st f fd) (bi : Binds K fd ["_law_hand_here", "_law_many"] []) (hmg : mg x = some (.ref f)) (S : FnScope N ["_law_hand_here", "_law_many"] (defScope st))
    (body : ∀ (cdv : Value) (A : Around) (outer : List Env) (s : Shared) (H : Hp) (E : XK), Room k (A.deeper (PyProof.Rows.envOfC x (defScope st) s.heap.objs.size f cdv)) → PSs (cxD P w K mg base N x st f cdv A outer s H E) (defBody st) (tDraw K E)) :
    OkH P w K mg base (k + 1) x 1 phDraw := by
  refine ⟨f, fd, _, Fu.okX S (fun vs H Q E h => h.len) (fun cdv A outer s H vs Q E hr h => ?_), hmg, Fu.kp, bi⟩
  obtain ⟨q, vs', G, ds, P', PE, e, hl, s1, hq, gq, rr, hφ, to⟩ := h
  subst e
  obtain ⟨m, rfl, hm, ml, kk⟩ := hφ
  refine ⟨_, body cdv A outer s H E hr, ?_⟩
  cases rr with
  | cons r1 rr =>
    cases rr
    cases r1
    obtain ⟨c, cells, i, r, t, h1, h2, h3, h4, h5, h6, h7, h8, h9⟩ := hq
    have eN : L2.start N [.ref q, .int m] = [some (.ref q), some (.int m), none, none] := by
      unfold L2.start
      rw [hN]
      rfl
    rw [eN]
    refine draw_reads h1 h2 s1 gq h3 h4 h5 h6 h7 h8 h9 hm ml fun H' v i' r' t' v0 v1 s' hq' a1 a2 a3 a4 a5 => ?_
    have s2 : Same G H' := fun b o z => s' b o (fun e => by rw [e, gq] at z; cases z) (s1 b o z)
    refine to.1 _ (kk v v0 v1) G H' _ (Same.refl _) ⟨s2, Same.refl _, fun b o z hb => s' b o (fun e => hb (by rw [e])) z, fun _ _ z => .inl z, fun p hp => ?_, [], .val (.int v) .nil⟩
    cases hp
    exact ⟨.inl ⟨⟨_, h1⟩, c, cells, i', r', t', hq', h2, h3, h4, a1, a2, a3, a4, a5⟩, gq⟩
end
end Dx
namespace Dx
open PySem L2
/-! ### steps over readings -/
theorem seq_step {δ ε : DS} {De : DEnds} {sl : Sl} (h : ∀ k : Sl → Prop, (∀ s, ε De s → k s) → δ { De with nx := k } sl) : dSeq δ ε De sl := h (ε De) fun _ h => h
theorem fo_of {g : DG} {δ : DS} {De : DEnds} (I : List D → Sl → Prop) (hn : ∀ s, I [] s → De.nx s)
    (hc : ∀ d r s, I (d :: r) s → ∀ k : Sl → Prop, (∀ s', I r s' → k s') → g d s fun s1 => δ { De with nx := k, ct := k, bk := De.nx } s1) : ∀ {ds : List D} {sl : Sl}, I ds sl → dFo g δ De ds sl
  | [], sl, h => hn sl h
  | d :: r, sl, h => hc d r sl h _ fun s' h' => fo_of I hn hc h'
theorem wh_of {τ : DT} {δ : DS} {De : DEnds} (I : Nat → Sl → Prop)
    (hc : ∀ n s, I n s → ∀ k : Sl → Prop, (∀ m s', m < n → I m s' → k s') → τ s De.ex fun b s1 => if b = true then δ { De with nx := k, ct := k, bk := De.nx } s1 else De.nx s1) {n : Nat} {sl : Sl} (h : I n sl) : dWhile τ δ De sl := by
  have go : ∀ (f n : Nat) (s : Sl), n < f → I n s → dWh τ δ De f s := by
    intro f
    induction f with
    | zero => exact fun n s h => absurd h (Nat.not_lt_zero _)
    | succ f ih => exact fun n s h hI => hc n s hI _ fun m s' hm hI' => ih m s' (by omega) hI'
  exact ⟨n + 1, go _ n sl (Nat.lt_succ_self _) h⟩
/-- a comprehension, one by one -/
theorem tu_of {g : DG} {τ : DT} {α : DE} {base : Sl} {P : List D → Prop} (I : List D → List D → Prop) (hn : ∀ acc, I [] acc → P acc)
    (hc : ∀ d r acc, I (d :: r) acc → ∀ Q : List D → Prop, (∀ acc', I r acc' → Q acc') → g d base fun s1 => τ s1 EF fun b s2 => if b = true then α s2 EF fun e _ => acc.length < sizeLine ∧ Q (acc ++ [e]) else Q acc) :
    ∀ {ds acc : List D}, I ds acc → dTurns g τ α base P ds acc
  | [], acc, h => hn acc h
  | d :: r, acc, h => hc d r acc h _ fun acc' h' => tu_of I hn hc h'
theorem hCons_cons {g : DG} {h : DGs} {d : D} {r : List D} {sl : Sl} {P : Sl → Prop} : hCons g h (d :: r) sl P ↔ g d sl fun sl1 => h r sl1 P := by
  unfold hCons
  constructor
  · rintro ⟨d', r', e, q⟩
    cases e
    exact q
  · exact fun q => ⟨d, r, rfl, q⟩
theorem hNil_nil {sl : Sl} {P : Sl → Prop} : hNil [] sl P ↔ P sl := by
  unfold hNil
  simp
theorem hTup_tup {n : Nat} {h : DGs} {ds : List D} {sl : Sl} {P : Sl → Prop} : hTup n h (.tup ds) sl P ↔ ds.length = n ∧ h ds sl P := by
  unfold hTup
  constructor
  · rintro ⟨ds', e, q⟩
    cases e
    exact q
  · exact fun q => ⟨ds, rfl, q⟩
/-! ### texts, places -/
def wd (l : List Nat) : Str := ⟨l.toArray⟩
theorem wd_cps (l : List Nat) : (wd l).cps.toList = l := rfl
theorem wd_len (l : List Nat) : (wd l).length = l.length := by
  show l.toArray.size = l.length
  simp
theorem wd_of (z : Str) : wd z.cps.toList = z := by
  cases z
  rfl
theorem wd_app (a b : List Nat) : wd a ++ wd b = wd (a ++ b) := by
  show (⟨a.toArray ++ b.toArray⟩ : Str) = ⟨(a ++ b).toArray⟩
  simp
theorem wd_inj {a b : List Nat} (h : wd a = wd b) : a = b := by
  have h2 : (wd a).cps.toList = (wd b).cps.toList := by rw [h]
  exact h2
theorem wd_nil : (Str.ofString "" : Str) = wd [] := by decide +kernel
theorem wd_one (c : Nat) : (⟨#[c]⟩ : Str) = wd [c] := rfl
abbrev abc : Str := Str.ofString "abcdefghijklmnopqrstuvwxyz"
theorem abc_wd : abc = wd ((List.range 26).map fun i => 97 + i) := by decide +kernel
theorem abc_len : abc.length = 26 := by decide +kernel
theorem atI_nat {α : Type} {xs : List α} {n : Nat} (h : n < xs.length) : L2.atI xs (n : Int) = some xs[n] := by
  unfold L2.atI ixN
  rw [if_pos (Int.natCast_nonneg n), if_pos (by omega)]
  simp [h]
theorem atI_mem {α : Type} {xs : List α} {r : Int} (h0 : 0 ≤ r) (h1 : r < xs.length) : ∃ f, L2.atI xs r = some f ∧ f ∈ xs := by
  obtain ⟨n, rfl⟩ := Int.eq_ofNat_of_zero_le h0
  have hn : n < xs.length := by omega
  exact ⟨_, atI_nat hn, List.getElem_mem hn⟩
theorem abc_at {r : Int} (h0 : 0 ≤ r) (h1 : r < 26) : L2.atI abc.cps.toList r = some (97 + r.toNat) := by
  obtain ⟨n, rfl⟩ := Int.eq_ofNat_of_zero_le h0
  have e : abc.cps.toList = (List.range 26).map fun i => 97 + i := by rw [abc_wd]; rfl
  have hn : n < abc.cps.toList.length := by rw [e]; simp; omega
  rw [atI_nat hn]
  simp [e]
theorem abc_mem {c : Nat} : c ∈ abc.cps.toList ↔ 97 ≤ c ∧ c ≤ 122 := by
  have e : abc.cps.toList = (List.range 26).map fun i => 97 + i := by rw [abc_wd]; rfl
  rw [e]
  simp only [List.mem_map, List.mem_range]
  constructor
  · rintro ⟨i, h, rfl⟩
    omega
  · intro h
    exact ⟨c - 97, by omega, by omega⟩
theorem log_small {n : Nat} (h : n < 4000) : n.log2 < 4000 := Nat.lt_of_le_of_lt (Nat.log2_le_self n) h
theorem plain_int {i : Int} : (D.int i).plain := ⟨rfl, by simp [D.dep]⟩
theorem plain_bl {i : Bool} : (D.bl i).plain := ⟨rfl, by simp [D.dep]⟩
theorem plain_non : (D.non).plain := ⟨rfl, by simp [D.dep]⟩
def validS (z : Str) : Bool := z.cps.toList.all fun c => decide (c < 1114112)
theorem plain_str {z : Str} (h : validS z = true) : (D.str z).plain := by
  refine ⟨?_, by simp [D.dep]⟩
  unfold D.py
  have e : z.cps.all (· < 0x110000) = true := by
    unfold validS at h
    simpa using h
  rw [if_pos e]
  rfl
theorem pys_strs : ∀ {ws : List Str}, (∀ z ∈ ws, validS z = true) → (D.pys (ws.map .str)).isSome = true ∧ D.deps (ws.map .str) ≤ 1
  | [], _ => ⟨rfl, by simp [D.deps]⟩
  | z :: r, h => by
    have h1 := (plain_str (h z List.mem_cons_self)).1
    obtain ⟨h2, h3⟩ := pys_strs (ws := r) fun w hw => h w (List.mem_cons_of_mem _ hw)
    obtain ⟨a, ha⟩ := Option.isSome_iff_exists.mp h1
    obtain ⟨b, hb⟩ := Option.isSome_iff_exists.mp h2
    refine ⟨?_, ?_⟩
    · rw [List.map_cons]
      unfold D.pys
      rw [ha, hb]
      rfl
    · rw [List.map_cons]
      simp [D.deps, D.dep]
      omega
theorem plain_lst {ds : List D} (h : (D.pys ds).isSome = true ∧ D.deps ds ≤ 60) : (D.lst ds).plain := by
  obtain ⟨b, hb⟩ := Option.isSome_iff_exists.mp h.1
  refine ⟨?_, ?_⟩
  · unfold D.py
    rw [hb]
    rfl
  · have := h.2
    unfold D.dep
    omega
theorem plain_tup {ds : List D} (h : (D.pys ds).isSome = true ∧ D.deps ds ≤ 60) : (D.tup ds).plain := by
  obtain ⟨b, hb⟩ := Option.isSome_iff_exists.mp h.1
  refine ⟨?_, ?_⟩
  · unfold D.py
    rw [hb]
    rfl
  · have := h.2
    unfold D.dep
    omega
theorem plain_strsL {ws : List Str} (h : ∀ z ∈ ws, validS z = true) : (D.lst (ws.map .str)).plain := plain_lst ⟨(pys_strs h).1, Nat.le_trans (pys_strs h).2 (by decide)⟩
theorem plain_strsT {ws : List Str} (h : ∀ z ∈ ws, validS z = true) : (D.tup (ws.map .str)).plain := plain_tup ⟨(pys_strs h).1, Nat.le_trans (pys_strs h).2 (by decide)⟩
theorem eqvs_strs : ∀ ws : List Str, D.eqvs (ws.map .str) (ws.map .str) = true
  | [] => rfl
  | z :: r => by
    rw [List.map_cons]
    unfold D.eqvs D.eqv
    rw [eqvs_strs r]
    simp
theorem log_lt {n : Nat} (k : Nat) (hk : 0 < k) (h : n < 2 ^ k) : n.log2 < k := by
  by_cases hn : n = 0
  · subst hn
    simpa using hk
  · exact (Nat.log2_lt hn).mpr h
theorem log_mid {n : Nat} (h : n < 1267650600228229401496703205376) : n.log2 < 4000 := Nat.lt_trans (log_lt 100 (by decide) h) (by decide)
theorem dq_int {i j : Int} : D.eqv (.int i) (.int j) = (i == j) := by unfold D.eqv; rfl
theorem dq_bl {i j : Bool} : D.eqv (.bl i) (.bl j) = (i == j) := by unfold D.eqv; rfl
theorem dq_bi {i : Bool} {j : Int} : D.eqv (.bl i) (.int j) = ((if i then 1 else 0) == j) := by unfold D.eqv; rfl
theorem dq_ib {i : Int} {j : Bool} : D.eqv (.int i) (.bl j) = (i == (if j then 1 else 0)) := by unfold D.eqv; rfl
theorem dq_str {i j : Str} : D.eqv (.str i) (.str j) = (i == j) := by unfold D.eqv; rfl
theorem dq_non : D.eqv .non .non = true := by unfold D.eqv; rfl
theorem dq_lst {i j : List D} : D.eqv (.lst i) (.lst j) = D.eqvs i j := by unfold D.eqv; rfl
theorem dq_tup {i j : List D} : D.eqv (.tup i) (.tup j) = D.eqvs i j := by unfold D.eqv; rfl
theorem dq_nil : D.eqvs [] [] = true := by unfold D.eqvs; rfl
theorem dq_cons {a b : D} {i j : List D} : D.eqvs (a :: i) (b :: j) = (D.eqv a b && D.eqvs i j) := by
  conv => lhs; unfold D.eqvs
theorem ite_any {c A B : Prop} {inst : Decidable c} (h1 : c → A) (h2 : ¬ c → B) : @ite Prop c inst A B := by
  cases inst with
  | isTrue h => exact h1 h
  | isFalse h => exact h2 h
theorem size_ge : 16777216 ≤ sizeLine := by rw [PySem.sizeLine_eq]; exact Nat.le_refl _
theorem divW {i j : Int} (h : 0 < j) (h2 : j < 4000) : CDivW i j := ⟨h, Nat.lt_trans (log_small (n := j.natAbs) (by omega)) (by decide)⟩
theorem mul64l {i j : Int} (h1 : 0 ≤ i) (h2 : i < 18446744073709551616) : CMul i j := .inl ⟨by omega, by omega⟩
theorem mul64r {i j : Int} (h1 : 0 ≤ j) (h2 : j < 18446744073709551616) : CMul i j := .inr ⟨by omega, by omega⟩
end Dx
namespace Dx
open PySem L2 PySem.Spec
/-! ### own objects: attributes, methods -/
def lookD (f : Str) : List Str → List D → Option D
  | n :: ns, d :: ds => if f = n then some d else lookD f ns ds
  | _, _ => none
def attrOf (C : Addr) (f : Str) : D → Option D
  | .obj C' ns ds => if C' = C then lookD f ns ds else none
  | _ => none
def hasAttr (f : Str) : List Str → Bool
  | [] => false
  | n :: ns => decide (f = n) || hasAttr f ns
/-- an instance of C that has no attribute m of its own -/
def instOf (C : Addr) (m : Str) : D → Bool
  | .obj C' ns _ => decide (C' = C) && !hasAttr m ns
  | _ => false
theorem lookD_at {K : Fg} {G : Hp} {f : Str} : ∀ {fs : List (Str × V)} {ns : List Str} {ds : List D} {d : D}, fs.map (·.1) = ns → RpL K G (fs.map (·.2)) ds → lookD f ns ds = some d → ∃ v, fs.lookup f = some v ∧ Rp K G v d
  | [], _, _, _, rfl, _, h => by cases h
  | (n, v) :: fs, _, _, d, rfl, .cons r t, h => by
    have h : (if f = n then some _ else lookD f (fs.map (·.1)) _) = some d := h
    rw [List.lookup_cons]
    by_cases e : f = n
    · rw [if_pos e] at h
      cases h
      have : (f == n) = true := by simp [e]
      rw [this]
      exact ⟨v, rfl, r⟩
    · rw [if_neg e] at h
      have : (f == n) = false := by simp [e]
      rw [this]
      exact lookD_at rfl t h
theorem hasAttr_not {f : Str} : ∀ {fs : List (Str × V)}, hasAttr f (fs.map (·.1)) = false → fs.lookup f = none
  | [], _ => rfl
  | (n, v) :: fs, h => by
    have h : (decide (f = n) || hasAttr f (fs.map (·.1))) = false := h
    rw [Bool.or_eq_false_iff] at h
    rw [List.lookup_cons]
    have e : ¬ f = n := of_decide_eq_false h.1
    have : (f == n) = false := by simp [e]
    rw [this]
    exact hasAttr_not h.2
def dFld (C : Addr) (f : Str) (α : DE) : DE := fun sl E P => α sl E fun d sl1 => ∃ e, attrOf C f d = some e ∧ P e sl1
def dMeth (C : Addr) (m : Str) (n : Nat) (φ : Phi) (α : DE) (τ : DA) : DE := fun sl E P => α sl E fun d sl1 => instOf C m d = true ∧ τ sl1 E fun ds sl2 => ds.length = n ∧ φ (d :: ds) (fun r => P r.d sl2) fun x => E x sl2
section
variable {X : Cx} {F : Fx} {W : WX} {k n i : Nat} {f C : Addr} {fd : FuncData} {ps : List Str} {φ : Phi} {x m : Str} {p pos apos : Pos} {e o : Expr} {es : List Expr} {τ : DA} {α : DE} {sp : Sp} {ta : TE} {t : TA} {E : St → XK}
theorem qe_fld (he : QE X F W e α) (c : Cls X.K C) (hn : NoAttr X.K C m) (hb : attributeBase e m X.env (eval e X.env) = eval e X.env := by rfl) : QE X F W (.Attribute e m pos) (dFld C m α) :=
  ⟨pe_imp (pe_fld he.run hb) fun σ H Q h => by
    obtain ⟨G, sl, E, P, R, h, k, kx⟩ := h
    refine ⟨G, sl, E, _, R, h, fun d sl1 h1 G1 H1 v1 s1 R1 r1 => ?_, kx⟩
    obtain ⟨d', h2, p⟩ := h1
    cases r1 with
    | obj g kn t =>
      simp only [attrOf] at h2
      split at h2
      · rename_i e
        subst e
        obtain ⟨v, h3, r⟩ := lookD_at kn t h2
        exact ⟨_, _, _, _, v, rfl, R1.ex _ _ g, c, hn, h3, k d' sl1 p G1 H1 v s1 R1 r⟩
      · cases h2
    | _ => cases h2⟩
def tMethAt (C : Addr) (m : Str) (sp : Sp) (E : St → XK) (ta : TE) (t : TA) : TE := fun σ H Q => ta σ H fun x H1 => ∃ a dx fs, x = .ref a ∧ H1 a = some (.ins C dx fs) ∧ fs.lookup m = none ∧ t σ H1 fun vs H2 => sp (x :: vs) H2 Q (E σ)
theorem pe_methAt {pl : Sem Bool} (he : PE X o ta) (c : Cls X.K C) (hm : Meth X.K C m f) (G : FnOk X.prog X.w X.K X.mg X.base (L2.CX X.prog X.w) k f fd ps sp) (hr : Room k X.A) (hb : Binds X.K fd ps []) (hx : ∀ σ, PassesAt (L2.CX X.prog X.w) X σ (E σ)) (ha : PA X (e :: es) t)
    (hst : starEach (e :: es) X.env = (false, eval e X.env) :: starEach es X.env) (hpl : (backTo pos (starEach es X.env)).any (·.1) = false)
    (ht : eval (.Call (.Attribute o m apos) (e :: es) [] pos) X.env = (do
      let ov ← eval o X.env
      standAt apos.atName
      let (f, first) ← holding [ov] (getMethod ov m pl)
      callWith pos f first (backTo pos (starEach (e :: es) X.env)) (backToKw pos (keywordEach [] X.env)))) : PE X (.Call (.Attribute o m apos) (e :: es) [] pos) (tMethAt C m sp E ta t) :=
  ⟨fun pins s σ H Q I h => PySem.W.methodCall_KW (pl := pl) (thn (he.run pins s σ H _ I h) fun u s1 ⟨x, H1, I1, rx, a, dx, fs, ex, ea, l, q⟩ => by
    subst ex
    obtain rfl : u = Value.ref a := rx
    refine getmeth_ok I1 ea c hm l (PySem.W.callWith_K (first := [.ref a]) (h₀ := X.base) I.ok.mod.kin hm.kp (thn (ha.run pos pins s1 σ H1 _ I1 q) fun us s2 ⟨vs, H2, I2, r, q2⟩ => ⟨I2.kIn, ?_⟩) hst hpl)
    exact run_fnS (us := .ref a :: us) (vs := .ref a :: vs) G hr hb (hx σ) I2 (.cons rfl r) q2) ht⟩
theorem pe_methAt0 {pl : Sem Bool} (he : PE X o ta) (c : Cls X.K C) (hm : Meth X.K C m f) (G : FnOk X.prog X.w X.K X.mg X.base (L2.CX X.prog X.w) k f fd ps sp) (hr : Room k X.A) (hb : Binds X.K fd ps []) (hx : ∀ σ, PassesAt (L2.CX X.prog X.w) X σ (E σ))
    (ht : eval (.Call (.Attribute o m apos) [] [] pos) X.env = (do
      let ov ← eval o X.env
      standAt apos.atName
      let (f, first) ← holding [ov] (getMethod ov m pl)
      callWith pos f first (backTo pos (starEach [] X.env)) (backToKw pos (keywordEach [] X.env)))) : PE X (.Call (.Attribute o m apos) [] [] pos) (tMethAt C m sp E ta tNil) :=
  ⟨fun pins s σ H Q I h => PySem.W.methodCall_KW (pl := pl) (thn (he.run pins s σ H _ I h) fun u s1 ⟨x, H1, I1, rx, a, dx, fs, ex, ea, l, q⟩ => by
    subst ex
    obtain rfl : u = Value.ref a := rx
    exact getmeth_ok I1 ea c hm l (PySem.W.callWith_K0 (first := [.ref a]) I1.kIn hm.kp (run_fnS (us := [.ref a]) (vs := [.ref a]) G hr hb (hx σ) I1 (.cons rfl .nil) q))) ht⟩
theorem LE.meth {σ : L2.St} {H : Hp} {Q : VK} (h : LE X.K F W (dMeth C m n φ α τ) σ H Q) : tMethAt C m (SpP X.K (n + 1) φ) (fun σ => WE W σ) (LE X.K F W α) (LA X.K F W τ) σ H Q := by
  obtain ⟨G, sl, E, P, R, h, k, kx⟩ := h
  refine ⟨G, sl, E, _, R, h, fun d sl1 h1 G1 H1 v1 s1 R1 r1 => ?_, kx⟩
  obtain ⟨hi, h2⟩ := h1
  cases r1 with
  | obj g kn t =>
    unfold instOf at hi
    rw [Bool.and_eq_true] at hi
    have eC := of_decide_eq_true hi.1
    subst eC
    refine ⟨_, _, _, rfl, R1.ex _ _ g, hasAttr_not (by rw [kn]; simpa using hi.2), G1, sl1, E, _, R1, h2, fun ds sl2 h3 G2 H2 vs s2 R2 r2 => ?_, kx.mono s1⟩
    refine sp_P (n := n + 1) R2 (.cons ((Rp.obj g kn t).mono s2) r2) (by rw [List.length_cons, h3.1]) h3.2 (fun r p G3 H3 v R3 => ?_) (kx.mono (s1.trans s2))
    obtain ⟨G4, s4, R4, r4⟩ := R2.called R3
    exact k _ sl2 p G4 H3 v ((s1.trans s2).trans s4) R4 r4
  | _ => cases hi
theorem qe_meth {pl : Sem Bool} (he : QE X F W o α) (c : Cls X.K C) (hm : Meth X.K C m f) (G : FnOk X.prog X.w X.K X.mg X.base (L2.CX X.prog X.w) k f fd ps (SpP X.K (n + 1) φ)) (hr : Room k X.A) (hb : Binds X.K fd ps []) (tk : Takes X W) (ha : QA X F W (e :: es) τ)
    (hst : starEach (e :: es) X.env = (false, eval e X.env) :: starEach es X.env := by rfl) (hpl : (backTo pos (starEach es X.env)).any (·.1) = false := by rfl)
    (ht : eval (.Call (.Attribute o m apos) (e :: es) [] pos) X.env = (do
      let ov ← eval o X.env
      standAt apos.atName
      let (f, first) ← holding [ov] (getMethod ov m pl)
      callWith pos f first (backTo pos (starEach (e :: es) X.env)) (backToKw pos (keywordEach [] X.env))) := by rfl) : QE X F W (.Call (.Attribute o m apos) (e :: es) [] pos) (dMeth C m n φ α τ) :=
  ⟨pe_imp (pe_methAt he.run c hm G hr hb (fun σ => passAt tk σ) ha.run hst hpl ht) fun _ _ _ h => LE.meth h⟩
theorem qe_meth0 {pl : Sem Bool} (he : QE X F W o α) (c : Cls X.K C) (hm : Meth X.K C m f) (G : FnOk X.prog X.w X.K X.mg X.base (L2.CX X.prog X.w) k f fd ps (SpP X.K (0 + 1) φ)) (hr : Room k X.A) (hb : Binds X.K fd ps []) (tk : Takes X W)
    (ht : eval (.Call (.Attribute o m apos) [] [] pos) X.env = (do
      let ov ← eval o X.env
      standAt apos.atName
      let (f, first) ← holding [ov] (getMethod ov m pl)
      callWith pos f first (backTo pos (starEach [] X.env)) (backToKw pos (keywordEach [] X.env))) := by rfl) : QE X F W (.Call (.Attribute o m apos) [] [] pos) (dMeth C m 0 φ α dNil) :=
  ⟨pe_imp (pe_methAt0 he.run c hm G hr hb (fun σ => passAt tk σ) ht) fun σ H Q h => by
    obtain ⟨G, sl, E, P, R, h, k, kx⟩ := LE.meth h
    refine ⟨G, sl, E, P, R, h, fun d sl1 h1 G1 H1 v1 s1 R1 r1 => ?_, kx⟩
    obtain ⟨a, dx, fs, e1, e2, e3, q⟩ := k d sl1 h1 G1 H1 v1 s1 R1 r1
    refine ⟨a, dx, fs, e1, e2, e3, ?_⟩
    obtain ⟨G2, sl2, E2, P2, R2, h2, k2, _⟩ := q
    exact k2 [] sl2 h2 G2 H1 [] (Same.refl _) R2 .nil⟩
end
end Dx
namespace Dx
open PySem L2 PySem.Spec
/-! ### an object is made -/
/-- __init__'s promise: n arguments behind self; P, what the object then is -/
abbrev PhI := List D → (D → Prop) → (D → Prop) → Prop
/-- behind __init__: nothing but x has changed, x is a finished tree -/
structure Made (K : Fg) (G H : Hp) (x : Addr) (d : D) (G' H' : Hp) : Prop where
  g : Same G G'
  ex : Same G' H'
  h : ∀ a o, H a = some o → a ≠ x → H' a = some o
  n : ∀ a o, G' a = some o → G a = some o ∨ H a = none ∨ a = x
  r : Rp K G' (.ref x) d
def SpI (K : Fg) (C : Addr) (n : Nat) (φ : PhI) : Sp := fun vs H Q E => ∃ x dx vs' G ds P PE, vs = .ref x :: vs' ∧ ds.length = n ∧ Same G H ∧ H x = some (.ins C dx []) ∧ G x = none ∧ RpL K G vs' ds ∧ φ ds P PE ∧
  (∀ d, P d → ∀ G' H', Made K G H x d G' H' → Q .non H') ∧ ∀ xd, PE xd → ∀ G' H' cls dd, Same G G' → Rel K ⟨some x, H, G⟩ G' [] H' [] → ExnAt K G' H' cls dd xd → E cls dd H'
theorem SpI.len {K : Fg} {C : Addr} {n : Nat} {φ : PhI} {vs : List V} {H : Hp} {Q : VK} {E : XK} (h : SpI K C n φ vs H Q E) : vs.length = n + 1 := by
  obtain ⟨x, dx, vs', G, ds, P, PE, e, hl, _, _, _, r, _⟩ := h
  rw [e, List.length_cons, r.length, hl]
def startI (N : List Str) (ds : List D) : Sl := .pin :: (ds.map .val ++ List.replicate (N.length - (ds.length + 1)) .un)
theorem start_I {K : Fg} {G H : Hp} {N : List Str} {x C dx : Addr} {fs : List (Str × V)} {vs : List V} {ds : List D} (s : Same G H) (hx : H x = some (.ins C dx fs)) (gx : G x = none) (r : RpL K G vs ds) : Rel K ⟨some x, H, G⟩ G (L2.start N (.ref x :: vs)) H (startI N ds) := by
  refine ⟨s, Same.refl _, fun _ _ h _ => h, fun _ _ h => .inl h, fun p h => by cases h; exact ⟨.inr ⟨C, dx, fs, hx, hx⟩, gx⟩, [], ?_⟩
  unfold L2.start startI
  rw [List.length_cons, r.length]
  exact .pin rfl (Sls.vals (Sls.unk _) r)
def putN (f : Str) : List Str → List Str
  | [] => [f]
  | n :: ns => if n = f then n :: ns else n :: putN f ns
def putD (f : Str) (d : D) : List Str → List D → List D
  | n :: ns, e :: ds => if n = f then d :: ds else e :: putD f d ns ds
  | _, _ => [d]
theorem putF_ns (f : Str) (v : V) : ∀ fs : List (Str × V), (putF f v fs).map (·.1) = putN f (fs.map (·.1))
  | [] => rfl
  | (n, w) :: fs => by
    show (if n = f then (n, v) :: fs else (n, w) :: putF f v fs).map (·.1) = if n = f then n :: fs.map (·.1) else n :: putN f (fs.map (·.1))
    by_cases e : n = f
    · rw [if_pos e, if_pos e]
      rfl
    · rw [if_neg e, if_neg e, List.map_cons, putF_ns f v fs]
theorem putF_ds {K : Fg} {G : Hp} {f : Str} {v : V} {d : D} (r : Rp K G v d) : ∀ {fs : List (Str × V)} {ds : List D}, RpL K G (fs.map (·.2)) ds → RpL K G ((putF f v fs).map (·.2)) (putD f d (fs.map (·.1)) ds)
  | [], _, .nil => .cons r .nil
  | (n, w) :: fs, _, .cons r1 t => by
    show RpL K G ((if n = f then (n, v) :: fs else (n, w) :: putF f v fs).map (·.2)) (if n = f then d :: _ else _ :: putD f d (fs.map (·.1)) _)
    by_cases e : n = f
    · rw [if_pos e, if_pos e]
      exact .cons r t
    · rw [if_neg e, if_neg e]
      exact .cons r1 (putF_ds r t)
/-- self.f1 = e1; self.f2 = e2; .. at the end of an __init__ -/
def dTail (C : Addr) : List (Str × DE) → List Str → List D → Sl → (D → Prop) → Prop
  | [], ns, ds, _, P => P (.obj C ns ds)
  | (f, α) :: r, ns, ds, sl, P => ns.length < 900 ∧ α sl EF fun d sl1 => dTail C r (putN f ns) (putD f d ns ds) (sl1.map Slot.hid) P
theorem Sls.hide2 {K : Fg} {F F' : Fx} {G H H' : Hp} (e : F'.p = F.p) (hh : ∀ q, F.p = some q → (∃ xs, F.H0 q = some (.lst xs)) → ∃ xs, F'.H0 q = some (.lst xs)) : ∀ {σ : L2.St} {sl : Sl} {as : List Addr}, Sls K F G H σ sl as → Sls K F' G H' σ (sl.map Slot.hid) []
  | _, _, _, .nil => .nil
  | _, _, _, .un t => .un (Sls.hide2 e hh t)
  | _, _, _, .val r t => .val r (Sls.hide2 e hh t)
  | _, _, _, .own _ _ _ _ _ t => .un (Sls.hide2 e hh t)
  | _, _, _, .hand p lx t => .hand (e.trans p) (hh _ p lx) (Sls.hide2 e hh t)
  | _, _, _, .pin p t => .pin (e.trans p) (Sls.hide2 e hh t)
/-- the state ahead of such a tail -/
def TlS (K : Fg) (C : Addr) (ts : List (Str × DE)) : TS := fun De σ H => ∃ (x dx : Addr) (G : Hp) (sl : Sl) (fs : List (Str × V)) (ds : List D) (P : D → Prop), σ[0]? = some (some (.ref x)) ∧ H x = some (.ins C dx fs) ∧ RpL K G (fs.map (·.2)) ds ∧ Rel K ⟨some x, H, G⟩ G σ H sl ∧
  dTail C ts (fs.map (·.1)) ds sl P ∧ ∀ d, P d → ∀ G' H' σ', Made K G H x d G' H' → De.nx σ' H'
structure QTl (X : Cx) (C : Addr) (st : List Stmt) (ts : List (Str × DE)) : Prop where
  run : PSs X st (TlS X.K C ts)
theorem Made.trans {K : Fg} {G G1 G2 H H1 H2 : Hp} {x : Addr} {d : D} (g : Same G G1) (h : ∀ a o, H a = some o → a ≠ x → H1 a = some o) (n : ∀ a o, G1 a = some o → G a = some o ∨ H a = none ∨ a = x) (b : ∀ a, H1 a = none → H a = none) (m : Made K G1 H1 x d G2 H2) : Made K G H x d G2 H2 :=
  ⟨g.trans m.g, m.ex, fun a o q e => m.h a o (h a o q e) e, fun a o q => by
    rcases m.n a o q with z | z | z
    · exact n a o z
    · exact .inr (.inl (b a z))
    · exact .inr (.inr z), m.r⟩
section
variable {X : Cx} {C : Addr} {f : Str} {st : Stmt} {rest : List Stmt} {ts : List (Str × DE)} {α : DE}
theorem qtl_nil : QTl X C [] [] := ⟨pss_imp pss_nil fun D σ H h => by
  obtain ⟨x, dx, G, sl, fs, ds, P, e, hx, r, R, h, k⟩ := h
  have gx := (R.hand x rfl).2
  have s1 : Same G (upd G x (.ins C dx fs)) := same_new gx
  refine k _ h (upd G x (.ins C dx fs)) H σ ⟨s1, fun b o q => ?_, fun a o q _ => q, fun a o q => ?_, .obj upd_same rfl (r.mono s1)⟩
  · by_cases hb : b = x
    · subst hb
      rw [upd_same] at q
      cases q
      exact hx
    · rw [upd_ne hb] at q
      exact R.ex b o q
  · by_cases hb : a = x
    · exact .inr (.inr hb)
    · rw [upd_ne hb] at q
      exact .inl q⟩
theorem qtl_cons (cl : Cls X.K C) (hn : NoAttr X.K C f) (h1 : ∀ F, PS X st (sFld X.K (tVar 0) (LE X.K F WF α) f)) (h2 : QTl X C rest ts) : QTl X C (st :: rest) ((f, α) :: ts) := by
  have h1' : PS X st (fun D σ H => ∃ F, sFld X.K (tVar 0) (LE X.K F WF α) f D σ H) := ⟨fun pins s σ H D I ⟨F, q⟩ => (h1 F).run pins s σ H D I q⟩
  refine ⟨pss_imp (pss_cons h1' h2.run) fun D σ H h => ?_⟩
  obtain ⟨x, dx, G, sl, fs, ds, P, e, hx, r, R, ⟨hl, h⟩, k⟩ := h
  refine ⟨⟨some x, H, G⟩, G, sl, EF, _, R, h, fun d sl1 p G1 H1 v s1 R1 r1 => ?_, thrownF⟩
  have hx1 : H1 x = some (.ins C dx fs) := by
    rcases (R1.hand x rfl).1 with ⟨⟨xs, z⟩, _⟩ | ⟨C', dx', fs', z, z1⟩
    · exact nomatch hx.symm.trans (show H x = _ from z)
    · cases hx.symm.trans (show H x = _ from z)
      exact z1
  have gx1 := (R1.hand x rfl).2
  refine ⟨_, e, x, C, dx, fs, rfl, hx1, cl, hn, Nat.lt_of_lt_of_le (by simpa using hl) (by decide), ?_⟩
  have ex2 : Same G1 (upd H1 x (.ins C dx (putF f v fs))) := fun b o q => by rw [upd_ne (fun z => by rw [z, gx1] at q; cases q)]; exact R1.ex b o q
  obtain ⟨as, ss⟩ := R1.sls
  have ss2 : Sls X.K ⟨some x, upd H1 x (.ins C dx (putF f v fs)), G1⟩ G1 (upd H1 x (.ins C dx (putF f v fs))) σ (sl1.map Slot.hid) [] := Sls.hide2 (F' := ⟨some x, upd H1 x (.ins C dx (putF f v fs)), G1⟩) (show some x = some x from rfl) (fun q hq lx => by
    cases hq
    obtain ⟨xs, lx⟩ := lx
    exact nomatch hx.symm.trans (show H x = _ from lx)) ss
  refine ⟨x, dx, G1, sl1.map Slot.hid, putF f v fs, putD f d (fs.map (·.1)) ds, P, e, upd_same, putF_ds r1 (r.mono s1), ⟨ex2, Same.refl _, fun _ _ z _ => z, fun _ _ z => .inl z, fun q hq => ?_, [], ss2⟩, by rw [putF_ns]; exact p, fun d' p' G' H' σ' m => k d' p' G' H' σ' ?_⟩
  · cases hq
    exact ⟨.inr ⟨C, dx, _, upd_same, upd_same⟩, gx1⟩
  · refine m.trans s1 (fun a o q ne => ?_) (fun a o q => ?_) fun a q => ?_
    · rw [upd_ne ne]
      exact R1.fr a o q fun z => ne (Option.some.inj z).symm
    · rcases R1.gn a o q with z | z
      · exact .inl z
      · exact .inr (.inl z)
    · by_cases ha : a = x
      · rw [ha, upd_same] at q
        cases q
      · rw [upd_ne ha] at q
        cases z : H a with
        | none => rfl
        | some o => exact nomatch q.symm.trans (R1.fr a o z fun w => ha (Option.some.inj w).symm)
end
/-! ### the whole __init__ -/
abbrev DIn := DEnds → (D → Prop) → Sl → Prop
/-- an __init__ that still runs: x as it was at the entry -/
def LIn (K : Fg) (C : Addr) (F : Fx) (W : WX) (δ : DIn) : TS := fun D σ H => ∃ x dx G sl De P, F.p = some x ∧ F.H0 x = some (.ins C dx []) ∧ Rel K F G σ H sl ∧ δ De P sl ∧ Thrown K F W F.G0 De.ex ∧
  ∀ d, P d → ∀ G' H' σ', Made K F.G0 F.H0 x d G' H' → D.nx σ' H'
structure QIn (X : Cx) (C : Addr) (F : Fx) (W : WX) (st : List Stmt) (δ : DIn) : Prop where
  run : PSs X st (LIn X.K C F W δ)
def jSeq (δ : DS) (ε : DIn) : DIn := fun De P sl => δ { De with nx := ε De P, rt := fun _ => False, bk := fun _ => False, ct := fun _ => False } sl
def jTail (C : Addr) (ts : List (Str × DE)) : DIn := fun _ P sl => sl[0]? = some .pin ∧ dTail C ts [] [] (sl.map Slot.hid) P
section
variable {X : Cx} {C : Addr} {F : Fx} {W : WX} {st : Stmt} {rest : List Stmt} {ts : List (Str × DE)} {δ : DS} {ε : DIn}
theorem qin_cons (h1 : QS X F W st δ) (h2 : QIn X C F W rest ε) : QIn X C F W (st :: rest) (jSeq δ ε) := ⟨pss_imp (pss_cons h1.run h2.run) fun D σ H h => by
  obtain ⟨x, dx, G, sl, De, P, hp, h0, R, h, kx, k⟩ := h
  refine ⟨G, sl, _, R, h, ?_⟩
  refine ⟨fun sl' q G' σ' H' s R' => ⟨x, dx, G', sl', De, P, hp, h0, R', q, kx, k⟩, fun _ q => q.elim, fun _ q => q.elim, fun _ q => q.elim, fun y sl' q G' σ' H' c d s R' z => kx y sl' q G' σ' H' c d (R.g0.trans s) R' z⟩⟩
theorem qin_tail (h : QTl X C rest ts) : QIn X C F W rest (jTail C ts) := ⟨pss_imp h.run fun D σ H h => by
  obtain ⟨x, dx, G, sl, De, P, hp, h0, R, ⟨hpin, h⟩, kx, k⟩ := h
  obtain ⟨as, ss⟩ := R.sls
  obtain ⟨q, hq, e⟩ := ss.pinAt hpin
  cases hp.symm.trans hq
  have hx : H x = some (.ins C dx []) := by
    rcases (R.hand x hp).1 with ⟨⟨xs, z⟩, _⟩ | ⟨C', dx', fs', z, z1⟩
    · exact nomatch h0.symm.trans z
    · cases h0.symm.trans z
      exact z1
  have R1 := R.inside
  rw [hp] at R1
  refine ⟨x, dx, G, sl.map Slot.hid, [], [], P, e, hx, .nil, R1, h, fun d p G' H' σ' m => k d p G' H' σ' (m.trans R.g0 (fun a o q ne => R.fr a o q fun z => ne (Option.some.inj (hp.symm.trans z)).symm) (fun a o q => ?_) fun a q => ?_)⟩
  · rcases R.gn a o q with z | z
    · exact .inl z
    · exact .inr (.inl z)
  · exact (R.new0 q).1⟩
end
section
variable {P : Program} {w : World} {K : Fg} {mg : Str → Option Value} {base : Heap}
abbrev BodyI (P : Program) (w : World) (K : Fg) (mg : Str → Option Value) (base : Heap) (N : List Str) (qual : Str) (st : Stmt) (f : Addr) (C : Addr) (k : Nat) (δ : DIn) : Prop :=
  ∀ (cdv : Value) (A : Around) (outer : List Env) (s : Shared) (H : Hp) (E : XK) (F : Fx), Room k (A.deeper (PyProof.Rows.envOfC qual (defScope st) s.heap.objs.size f cdv)) → QIn (cxD P w K mg base N qual st f cdv A outer s H E) C F (WOut E) (defBody st) δ
theorem fn_I {x qual : Str} {st : Stmt} {f C : Addr} {fd : FuncData} {N ps : List Str} {k n : Nat} {φ : PhI} {δ : DIn} (Fu : Fun K x qual st f fd) (S : FnScope N ps (defScope st)) (hn : ps.length = n + 1)
    (hb : BodyI P w K mg base N qual st f C k δ) (hd : ∀ ds Q QE, ds.length = n → φ ds Q QE → δ (endsD (fun _ => False) QE) Q (startI N ds)) : FnOk P w K mg base (L2.CX P w) (k + 1) f fd ps (SpI K C n φ) := by
  refine Fu.okX S (fun vs H Q E h => by rw [hn]; exact h.len) (fun cdv A outer s H vs Q E hr h => ?_)
  obtain ⟨x, dx, vs', G, ds, P', PE, e, hl, s1, hx, gx, r, hφ, k1, k2⟩ := h
  subst e
  refine ⟨_, (hb cdv A outer s H E ⟨some x, H, G⟩ hr).run, ?_⟩
  exact ⟨x, dx, G, _, _, P', rfl, hx, start_I s1 hx gx r, hd ds P' PE hl hφ, fun y sl' q G' σ' H' c d s R z => k2 y q G' H' c d s R.any z, fun d p G' H' _ m => k1 d p G' H' m⟩
end
/-! ### C(..) -/
def dMake (n : Nat) (φ : PhI) (τ : DA) : DE := fun sl E P => τ sl E fun ds sl1 => ds.length = n ∧ φ ds (fun d => P d sl1) fun x => E x sl1
section
variable {X : Cx} {F : Fx} {W : WX} {k n : Nat} {f C : Addr} {fd : FuncData} {ps : List Str} {φ : PhI} {x : Str} {p pos : Pos} {e : Expr} {es : List Expr} {τ : DA} {sp : Sp} {E : St → XK} {t : TA}
def tMakeAt (C : Addr) (sp : Sp) (E : St → XK) (t : TA) : TE := fun σ H Q => t σ H fun vs H1 => ∀ x dx, H1 x = none → H1 dx = none → dx ≠ x → sp (.ref x :: vs) (upd (upd H1 dx (.own x)) x (.ins C dx [])) (fun v H2 => v = .non ∧ Q (.ref x) H2) (E σ)
theorem run_makeAt {pins : List (Addr × Obj)} {σ : L2.St} {H : Hp} {s : Shared} {Q : VK} {us : List Value} {vs : List V} (M : Mk X.K C f) (G : FnOk X.prog X.w X.K X.mg X.base (L2.CX X.prog X.w) k f fd ps sp) (hr : Room (k + 1) X.A) (hb : Binds X.K fd ps []) (hx : PassesAt (L2.CX X.prog X.w) X σ (E σ)) (I : Inv X pins σ H s) (r : Vals vs us)
    (h : ∀ x dx, H x = none → H dx = none → dx ≠ x → sp (.ref x :: vs) (upd (upd H dx (.own x)) x (.ins C dx [])) (fun v H2 => v = .non ∧ Q (.ref x) H2) (E σ)) : wpAny (model X.prog X.w) X.A (call (.ref C) us) (EP X pins σ Q) X.xe s := by
  obtain ⟨nx, hnx⟩ : ∃ nx, nx = s.heap.objs.size + 1 := ⟨_, rfl⟩
  have I2 := Inv.made (C := C) I
  have hq := h (s.heap.objs.size + 1) s.heap.objs.size (I.hok.fresh (Nat.le_succ _)) (I.hok.fresh (Nat.le_refl _)) (Nat.ne_of_lt (Nat.lt_succ_self _))
  have r2 : Vals (V.ref (s.heap.objs.size + 1) :: vs) (Value.ref (s.heap.objs.size + 1) :: us) := .cons rfl r
  have hl : (Value.ref (s.heap.objs.size + 1) :: us).length = ps.length := by rw [← r2.length]; exact G.len _ _ _ _ hq
  have b := hb _ (Value.ref (s.heap.objs.size + 1) :: us) I2.kIn (by rw [List.append_nil]; exact hl)
  rw [List.append_nil] at b
  refine wpAny_call (make_map (f := f) I.kIn M.makes M.init (beq_iff_eq.mp M.fn) (codeAny_mono (G.run _ X.stack _ _ ⟨Value.ref (s.heap.objs.size + 1) :: us, []⟩ _ _ _ (E σ) (hr.make C us []) (I2.env0.make C us []) b r2 hq) fun r s' z => ?_))
  match r, z with
  | .error e, z => exact hx pins _ _ e s' I2 z
  | .ok .next, z => exact False.elim z
  | .ok .brk, z => exact False.elim z
  | .ok .cont, z => exact False.elim z
  | .ok (.ret u), z =>
    obtain ⟨v, H', I3, rv, ev, q3⟩ := I2.after z
    cases ev
    exact ⟨rv, ⟨V.ref (s.heap.objs.size + 1), H', I3, rfl, q3⟩⟩
theorem pe_makeAt (M : Mk X.K C f) (G : FnOk X.prog X.w X.K X.mg X.base (L2.CX X.prog X.w) k f fd ps sp) (hr : Room (k + 1) X.A) (hg : Gl X x) (hm : X.mg x = some (.ref C)) (hb : Binds X.K fd ps []) (hx : ∀ σ, PassesAt (L2.CX X.prog X.w) X σ (E σ)) (ha : PA X (e :: es) t)
    (hdb : (x == ("__debug__" : Str)) = false) (he : starEach (e :: es) X.env = (false, eval e X.env) :: starEach es X.env) (hpl : (backTo pos (starEach es X.env)).any (·.1) = false) : PE X (.Call (.Name x p) (e :: es) [] pos) (tMakeAt C sp E t) :=
  ⟨fun pins s σ H Q I h => wpAny_Call_Name_kw (ld_glob I hg hm (PySem.W.callWith_K (h₀ := X.base) I.ok.mod.kin M.kp (thn (ha.run pos pins s σ H _ I h) fun us s1 ⟨vs, H1, I1, r, q⟩ => ⟨I1.kIn, run_makeAt M G hr hb (hx σ) I1 r q⟩) he hpl) hdb)⟩
theorem qe_make (M : Mk X.K C f) (G : FnOk X.prog X.w X.K X.mg X.base (L2.CX X.prog X.w) k f fd ps (SpI X.K C n φ)) (hr : Room (k + 1) X.A) (hg : Gl X x) (hm : X.mg x = some (.ref C)) (hb : Binds X.K fd ps []) (tk : Takes X W) (ha : QA X F W (e :: es) τ)
    (hdb : (x == ("__debug__" : Str)) = false := by decide) (he : starEach (e :: es) X.env = (false, eval e X.env) :: starEach es X.env := by rfl) (hpl : (backTo pos (starEach es X.env)).any (·.1) = false := by rfl) : QE X F W (.Call (.Name x p) (e :: es) [] pos) (dMake n φ τ) :=
  ⟨pe_imp (pe_makeAt M G hr hg hm hb (fun σ => passAt tk σ) ha.run hdb he hpl) fun σ H Q h => by
    obtain ⟨G, sl, E, P, R, h, k, kx⟩ := h
    refine ⟨G, sl, E, _, R, h, fun ds sl1 h1 G1 H1 vs s1 R1 r1 x dx nx nd ne => ?_, kx⟩
    have hsame : Same H1 (upd (upd H1 dx (.own x)) x (.ins C dx [])) := fun b o z => by rw [upd_ne (ne_of_none z nx), upd_ne (ne_of_none z nd)]; exact z
    have back : ∀ a, upd (upd H1 dx (.own x)) x (.ins C dx []) a = none → H1 a = none := fun a z => by
      cases q : H1 a with
      | none => rfl
      | some o => exact nomatch z.symm.trans (hsame a o q)
    refine ⟨x, dx, vs, G1, ds, _, _, rfl, h1.1, R1.ex.trans hsame, upd_same, R1.ex.free nx, r1, h1.2, fun d p G2 H2 m => ⟨rfl, ?_⟩, fun y p G2 H2 c dd s2 R2 z => ?_⟩
    · refine k d sl1 p G2 H2 _ (s1.trans m.g) (R1.grown ⟨m.g, m.ex, fun a o q => m.h a o (hsame a o q) (ne_of_none q nx), fun a o q => ?_⟩) m.r
      rcases m.n a o q with z | z | z
      · exact .inl z
      · exact .inr (back a z)
      · rw [z]; exact .inr nx
    · refine kx y sl1 p G2 σ H2 c dd (s1.trans s2) (R1.grown ⟨s2, R2.ex, fun a o q => R2.fr a o (hsame a o q) (fun w => ne_of_none q nx (Option.some.inj w).symm), fun a o q => ?_⟩) z
      rcases R2.gn a o q with w | w
      · exact .inl w
      · exact .inr (back a w)⟩
end
end Dx
namespace Dx
open PySem L2 PySem.Spec
/-! ### == and != of own objects -/
structure EqC (K : Fg) (C f : Addr) : Prop where
  at_ : PySem.W.findIn K (.ref C) "__eq__" = some (some (.ref f))
  fn : PySem.W.isFn K (.ref f) = true
/-- the class has no __ne__ of its own -/
structure NeC (K : Fg) (C f : Addr) : Prop where
  cls : ∃ nm q N bs hdct sn sub ab col dd k0 k1 k2 k3 k5 newId, K.lookup C = some (excClassObj nm q C N bs [.type "object"] hdct sn sub ab col dd k0 k1 k2 k3 k5 newId) ∧ PySem.W.nsOkIn K N = true ∧ PySem.W.nsIn K N "__eq__" = some (some (.ref f)) ∧ PySem.W.nsIn K N "__ne__" = some none
  fo : ∃ o, K.lookup f = some o ∧ o.cls = .type "function"
theorem ns_has {K : Fg} {h : Heap} {N : Addr} {m : Str → Option Value} {n : Str} {v : Value} (X : K.In h) (G : h.Ns N m) (e : PySem.W.nsIn K N n = some (some v)) : m n = some v := by
  obtain ⟨o, es, ep, ho, hd, _, hf⟩ := G
  unfold PySem.W.nsIn at e
  split at e
  · rename_i q
    cases ho.symm.trans (X _ _ q)
    cases hd
    split at e
    · rename_i x he
      cases e
      rw [← hf]
      unfold nsFind findBy
      rw [← Array.find?_toList, he]
      rfl
    · split at e <;> cases e
  · cases e
def rOwn (K : Fg) (C : Addr) (neg : Bool) (sp : Sp) : R2 := fun x y H Q => ∃ a b dx dy fs gs, x = .ref a ∧ y = .ref b ∧ H a = some (.ins C dx fs) ∧ H b = some (.ins C dy gs) ∧ sp [.ref a, .ref b] H (fun v H' => ∃ k, v = .bl k ∧ Q (.bl (if neg then !k else k)) H') fun _ _ _ => False
section
variable {X : Cx} {k : Nat} {C f : Addr} {fd : FuncData} {ps : List Str} {sp : Sp}
theorem run_at {A : Around} {pins : List (Addr × Obj)} {σ : L2.St} {H : Hp} {s : Shared} {us : List Value} {vs : List V} {Q : VK} {E : Value → Shared → Prop} (G : FnOk X.prog X.w X.K X.mg X.base (L2.CX X.prog X.w) k f fd ps sp) (hr : Room k A) (e0 : Env0 X.prog X.w X.K X.mg X.base A X.stack s H) (hb : Binds X.K fd ps [])
    (I : Inv X pins σ H s) (r : Vals vs us) (h : sp vs H Q fun _ _ _ => False) : wpAny (model X.prog X.w) A (call (.ref f) us) (EP X pins σ Q) E s := by
  have hl : us.length = ps.length := by rw [← r.length]; exact G.len _ _ _ _ h
  have b := hb s us I.kIn (by rw [List.append_nil]; exact hl)
  rw [List.append_nil] at b
  refine wpAny_call (codeAny_mono (G.run A X.stack s H ⟨us, []⟩ us vs Q _ hr e0 b r h) fun r s' z => ?_)
  match r, z with
  | .error e, z =>
    obtain ⟨_, _, _, _, _, _, _, _, _, _, _, _, z⟩ := z
    exact False.elim z
  | .ok .next, z => exact False.elim z
  | .ok .brk, z => exact False.elim z
  | .ok .cont, z => exact False.elim z
  | .ok (.ret u), z => exact I.after z
theorem op_ownEq (T : EqC X.K C f) (G : FnOk X.prog X.w X.K X.mg X.base (L2.CX X.prog X.w) k f fd ps sp) (hr : Room k X.A) (hb : Binds X.K fd ps []) : OpR X (compareOp .Eq) (rOwn X.K C false sp) := by
  intro pins s σ H x y v u Q I rx ry h
  obtain ⟨a, b, dx, dy, fs, gs, rfl, rfl, ha, hbb, h⟩ := h
  cases rx
  cases ry
  obtain ⟨mA, J, _⟩ := ins_get I.hok ha
  obtain ⟨mB, J', _⟩ := ins_get I.hok hbb
  obtain ⟨od, J, _⟩ := J.look
  obtain ⟨od', J', _⟩ := J'.look
  obtain ⟨m, hF⟩ := I.fr
  show wpAny (model X.prog X.w) X.A (richCompare .Eq (.ref a) (.ref b)) (EP X pins σ Q) X.xe s
  refine PySem.W.cmp_K (op := .Eq) (tb := .ref C) (Nat.lt_of_le_of_lt (Nat.le_add_right _ 64) hr.units) hF I.ok.mod.kin J J'.type (by simp [PySem.W.notFirst]) T.at_ T.fn ?_
  refine wpAny_mono (run_at G hr I.env0 hb I (show Vals [V.ref a, V.ref b] [Value.ref a, Value.ref b] from .cons rfl (.cons rfl .nil)) h) (fun w s' z => ?_) fun _ _ z => z
  obtain ⟨v', H', I', rv, kk, e, q⟩ := z
  subst e
  cases rv
  exact ⟨.bl kk, H', I', rfl, q⟩
theorem op_ownNe (T : NeC X.K C f) (G : FnOk X.prog X.w X.K X.mg X.base (L2.CX X.prog X.w) k f fd ps sp) (hr : Room (k + 1) X.A) (hb : Binds X.K fd ps []) : OpR X (compareOp .NotEq) (rOwn X.K C true sp) := by
  intro pins s σ H x y v u Q I rx ry h
  obtain ⟨a, b, dx, dy, fs, gs, rfl, rfl, ha, hbb, h⟩ := h
  cases rx
  cases ry
  obtain ⟨mA, J, _⟩ := ins_get I.hok ha
  obtain ⟨mB, J', _⟩ := ins_get I.hok hbb
  obtain ⟨nm, q, N, bs, hdct, sn, sub, ab, col, dd, k0, k1, k2, k3, k5, newId, hC, hN, he, hn⟩ := T.cls
  obtain ⟨of, hf, hfc⟩ := T.fo
  have kin := I.kIn
  have ns : s.heap.Ns N (s.heap.nsMap N) := .of_isNs (PySem.W.isNs_of_in kin hN)
  have O : s.heap.OwnEqNoNe a C f "object" [.type "object"] := ⟨_, of, nm, q, N, bs, hdct, sn, sub, ab, col, dd, k0, k1, k2, k3, k5, newId, s.heap.nsMap N, some (.builtin "object.__eq__"), J.obj, rfl, kin _ _ hC, ns, ns_has kin ns he, kin _ _ hf, hfc, PySem.F.cmp_object.mro, PySem.F.cmp_object.eq.lookup, PySem.W.nsMap_none_of_in kin hN hn⟩
  obtain ⟨hp, g, d, t, os⟩ := s
  refine PySem.compareOp_ne_ownEq PySem.F.cmp_object O J'.obj rfl (Nat.lt_of_le_of_lt (Nat.add_le_add_left (by decide : 1 ≤ 64) _) hr.units) ?_
  refine wpAny_mono (run_at G hr.in1 I.env0.in1 hb I (show Vals [V.ref a, V.ref b] [Value.ref a, Value.ref b] from .cons rfl (.cons rfl .nil)) h) (fun w s' z => ?_) fun _ _ z => z
  obtain ⟨v', H', I', rv, kk, e, q⟩ := z
  subst e
  cases rv
  exact ⟨kk, rfl, .bl (!kk), H', I', rfl, q⟩
end
def isC (C : Addr) : D → Bool
  | .obj C' _ _ => decide (C' = C)
  | _ => false
def oOwn (C : Addr) (neg : Bool) (φ : Phi) : O2 := fun d e P => isC C d = true ∧ isC C e = true ∧ φ [d, e] (fun r => ∃ k, r = .val (.bl k) ∧ P (.bl (if neg then !k else k))) fun _ => False
theorem rf_own {K : Fg} {C : Addr} {neg : Bool} {φ : Phi} : Rf2 K (rOwn K C neg (SpP K 2 φ)) (oOwn C neg φ) := by
  intro G H x y d e P Q s r1 r2 h k
  obtain ⟨h1, h2, h⟩ := h
  cases r1 with
  | obj g1 k1 t1 =>
    cases r2 with
    | obj g2 k2 t2 =>
      have e1 := of_decide_eq_true h1
      have e2 := of_decide_eq_true h2
      subst e1
      subst e2
      refine ⟨_, _, _, _, _, _, rfl, rfl, s _ _ g1, s _ _ g2, G, _, _, _, rfl, s, .cons (.obj g1 k1 t1) (.cons (.obj g2 k2 t2) .nil), h, fun r p G' H' v _ R => ?_, fun _ z => z.elim⟩
      obtain ⟨kk, rfl, p⟩ := p
      obtain ⟨v', ev, rr⟩ := R.frontVal
      cases ev
      cases rr
      have hh : Same H H' := fun a o q => R.fr a o q (fun z => nomatch z)
      exact ⟨kk, rfl, k _ p G H' _ ⟨Same.refl _, s.trans hh, hh, fun _ _ z => .inl z⟩ (.bl _)⟩
    | _ => cases h2
  | _ => cases h1
end Dx
namespace Dx
open PySem L2 PySem.Spec
/-! ### isinstance with an own class -/
structure InsD (K : Fg) (C : Addr) : Prop where
  cl : Cls K C
  ha : PySem.W.findIn K (.ref C) "__class__" = some (some (.builtin "object.__class__"))
  hn : PySem.W.specialIn K (.builtin "object.__class__") "__get__" = some (some (.builtin "getset_descriptor.__get__"))
  htk : PySem.W.takesIn K (.builtin "object.__class__") = some true
  hm : PySem.W.mroIn K C (.type "object") = some true
  kc : PySem.W.kitOne K (.type "int") (.ref C) = some false
theorem kit_no {K : Fg} {C : Addr} (c : InsD K C) : ∀ T ∈ tyNames, PySem.W.kitOne K (.type T) (.ref C) = some false := by
  have ne : ∀ T : String, ¬ ((Value.type T == Value.ref C) = true) := fun T h => nomatch (show (false : Bool) = true from h)
  have kc := c.kc
  unfold PySem.W.kitOne at kc
  rw [if_neg (ne _)] at kc
  unfold PySem.W.kitCls at kc
  dsimp only at kc
  split at kc
  · rename_i hc
    intro T hT
    unfold PySem.W.kitOne
    rw [if_neg (ne _)]
    unfold PySem.W.kitCls
    dsimp only
    rw [if_pos hc]
    have ok : ∀ T ∈ tyNames, ∃ l, fastBuiltinMro T = some l ∧ l.all (fun v => match v with | .type _ => true | _ => false) = true := by decide +kernel
    obtain ⟨l, h1, h2⟩ := ok T hT
    show (fastBuiltinMro T).map (·.contains (.ref C)) = some false
    rw [h1]
    show some (l.contains (.ref C)) = some false
    congr 1
    cases hq : l.contains (Value.ref C) with
    | false => rfl
    | true =>
      have hm := List.contains_iff_mem.mp hq
      exact nomatch (show (false : Bool) = true from List.all_eq_true.mp h2 _ hm)
  · cases kc
/-- of the trees that may be asked: instances of C, and what is no object -/
def oIsC (C : Addr) : O1 := fun d P => (isC C d = true ∧ P (.bl true)) ∨ (d.isObj = false ∧ P (.bl false))
section
variable {X : Cx} {F : Fx} {W : WX} {a b c e o : Expr} {es : List Expr} {α β γ : DE} {pos p p1 p2 p3 : Pos} {i j : Nat} {x T : Str} {τ : DA} {C : Addr}
theorem qe_isc (hg : Gl X "isinstance") (hm : X.mg "isinstance" = none) (hv : bootBuiltins "isinstance" = some (.builtin "isinstance")) (gT : Gl X T) (mT : X.mg T = some (.ref C)) (I : InsD X.K C)
    (ha : QE X F W e α) (dT : (T == ("__debug__" : Str)) = false := by decide) (he : starEach [e, .Name T p1] X.env = (false, eval e X.env) :: starEach [.Name T p1] X.env := by rfl) (hpl : (backTo pos (starEach [.Name T p1] X.env)).any (·.1) = false := by rfl)
    (he2 : starEach [.Name T p1] X.env = (false, eval (.Name T p1) X.env) :: starEach [] X.env := by rfl) :
    QE X F W (.Call (.Name "isinstance" p) [e, .Name T p1] [] pos) (dUn (oIsC C) α) :=
  ⟨pe_imp (pe_callB call_isi hg hm hv (pa_cons ha.run (pa_cons (pe_glob gT mT (v := .ref C) rfl dT) pa_nil he2) he) (by decide) (by decide) he hpl) fun σ H Q h => by
    obtain ⟨G, sl, E, P, R, h, k, kx⟩ := h
    refine ⟨G, sl, E, _, R, h, fun d sl1 h1 G1 H1 v1 s1 R1 r1 => ?_, kx⟩
    rcases h1 with ⟨hc, p⟩ | ⟨ho, p⟩
    · cases r1 with
      | obj g kn t =>
        have e := of_decide_eq_true hc
        subst e
        exact ⟨_, .ref _, _, _, true, rfl, .own _, .base (.ins (R1.ex _ _ g) I.cl I.ha I.hn I.htk I.hm), (by unfold PySem.W.kitOne; rw [if_pos (by simp)]), k _ sl1 p G1 H1 _ s1 R1 (.bl _)⟩
      | _ => cases hc
    · exact ⟨v1, .ref C, _, _, false, rfl, .own C, r1.tyX R1.ex ho, kit_no I _ (ty_mem d ho), k _ sl1 p G1 H1 _ s1 R1 (.bl _)⟩⟩
/-! ### a, b = e1, e2 -/
def dPar (i j : Nat) (τ : DA) : DS := fun De sl => τ sl De.ex fun ds sl1 => ∃ d e, ds = [d, e] ∧ De.nx ((sl1.set i (.val d)).set j (.val e))
theorem qs_par {st : Stmt} (h : PS X st (tPar i j (LA X.K F W τ))) : QS X F W st (dPar i j τ) := ⟨ps_imp h fun D σ H h => by
  obtain ⟨G, sl, De, R, h, f⟩ := h
  refine ⟨G, sl, De.ex, _, R, h, fun ds sl1 h1 G1 H1 vs s1 R1 r1 => ?_, f.ex⟩
  obtain ⟨d, e, rfl, p⟩ := h1
  cases r1 with
  | cons r1 t =>
    cases t with
    | cons r2 t =>
      cases t
      exact ⟨_, _, rfl, f.nx _ p G1 _ H1 s1 ((R1.put r1 i).put r2 j)⟩⟩
/-- two new objects of one's own -/
def dParO (i j : Nat) (α β : DE) : DS := fun De sl => α sl De.ex fun d sl1 => β sl1 De.ex fun e sl2 => De.nx ((sl2.set i (.own d)).set j (.own e))
/-! ### list(range(..)) -/
def dLstRg1 (α : DE) : DE := fun sl E P => α sl E fun d sl1 => ∃ n : Int, d = .int n ∧ 0 ≤ n ∧ n ≤ 16777216 ∧ P (.lst (rangeD 0 n.toNat)) sl1
theorem rp_rg {K : Fg} {G : Hp} (n : Int) : RpL K G (rgV 0 n) (rangeD 0 n.toNat) := by
  unfold rgV rangeD
  rw [Int.sub_zero]
  have go : ∀ l : List Nat, RpL K G (l.map fun i => V.int (0 + (i : Nat))) (l.map fun k : Nat => D.int (0 + (k : Int))) := by
    intro l
    induction l with
    | nil => exact .nil
    | cons a l ih => exact .cons (.int _) ih
  exact go _
theorem LE.listRg {σ : L2.St} {H : Hp} {Q : VK} (h : LN X.K F W (dLstRg1 α) σ H Q) : tLstRg (tRg1 (LE X.K F W α)) σ H Q := by
  obtain ⟨G, sl, E, P, R, h, k, kx⟩ := h
  refine ⟨G, sl, E, _, R, h, fun d sl1 h1 G1 H1 v s1 R1 r1 => ?_, kx⟩
  obtain ⟨n, rfl, n0, n1, p⟩ := h1
  cases r1
  exact ⟨n, rfl, RgOk.of_le (by decide) n1 (by decide) n0, fun q hq => k _ sl1 p G1 _ q s1 (R1.own hq _ ⟨_, upd_same, rp_rg n⟩)⟩
theorem qn_listRg {pr : Pos} (hc : X.calm = true) (hg : Gl X "list") (hm : X.mg "list" = none) (gr : Gl X "range") (mr : X.mg "range" = none) (ha : QE X F W a α)
    (na : starEach [a] X.env = (false, eval a X.env) :: starEach [] X.env := by rfl) (nb : starEach [.Call (.Name "range" p1) [a] [] pr] X.env = (false, eval (.Call (.Name "range" p1) [a] [] pr) X.env) :: starEach [] X.env := by rfl) :
    QN X F W (.Call (.Name "list" p) [.Call (.Name "range" p1) [a] [] pr] [] pos) (dLstRg1 α) :=
  ⟨pe_imp (pe_listRg hc hg hm (prg_1 gr mr ha.run na) nb) fun _ _ _ h => LE.listRg h⟩
theorem qe_listRg {pr : Pos} (hc : X.calm = true) (hg : Gl X "list") (hm : X.mg "list" = none) (gr : Gl X "range") (mr : X.mg "range" = none) (ha : QE X F W a α)
    (na : starEach [a] X.env = (false, eval a X.env) :: starEach [] X.env := by rfl) (nb : starEach [.Call (.Name "range" p1) [a] [] pr] X.env = (false, eval (.Call (.Name "range" p1) [a] [] pr) X.env) :: starEach [] X.env := by rfl) :
    QE X F W (.Call (.Name "list" p) [.Call (.Name "range" p1) [a] [] pr] [] pos) (dLstRg1 α) :=
  ⟨pe_imp (pe_listRg hc hg hm (prg_1 gr mr ha.run na) nb) fun _ _ _ h => LE.listRg (LE.ofN h)⟩
/-! ### all of a list -/
def oAll : OA := fun ds P => match ds with
  | [.lst xs] => ∃ bs : List Bool, xs = bs.map D.bl ∧ P (.bl (bs.all id))
  | _ => False
theorem rf_all {K : Fg} : RfA K (rAll K) oAll := by
  intro G H xs ds P Q s r h k
  cases r with
  | nil => exact h.elim
  | cons r t =>
    cases t with
    | cons _ _ => cases r <;> exact h.elim
    | nil =>
      cases r with
      | lst g t =>
        obtain ⟨bs, rfl, p⟩ := h
        have e := RpL.toBls t
        subst e
        exact ⟨_, bs, rfl, SqL.of (s _ _ g), k _ p G H _ (.refl s) (.bl _)⟩
      | _ => exact h.elim
end
/-! ### a, b = a list -/
def hLst (n : Nat) (h : DGs) : DG := fun d sl P => ∃ ds, d = .lst ds ∧ ds.length = n ∧ h ds sl P
theorem hLst_lst {n : Nat} {h : DGs} {ds : List D} {sl : Sl} {P : Sl → Prop} : hLst n h (.lst ds) sl P ↔ ds.length = n ∧ h ds sl P := by
  unfold hLst
  constructor
  · rintro ⟨ds', e, q⟩
    cases e
    exact q
  · exact fun q => ⟨ds, rfl, q⟩
section
variable {X : Cx} {F : Fx} {es : List Expr} {pos : Pos}
theorem qg_lst {k n : Nat} {g : DGs} (hc : X.calm = true) (h : QGs X F es g) (hn : (assignEach es X.env).length = n := by rfl) (hst : (assignEach es X.env).findIdx? (·.1) = none := by rfl) : QG X F (.Tuple es k pos) (hLst n g) :=
  ⟨pg_imp (pg_lst hc h.run hn hst) fun v σ H Q h => by
    obtain ⟨G, sl, d, P, R, r, ⟨ds, rfl, hl, h⟩, k⟩ := h
    cases r with
    | lst q t => exact ⟨_, _, rfl, SqL.of (R.ex _ _ q), by rw [t.length]; exact hl, G, sl, ds, P, R, t, h, k⟩⟩
end
end Dx
namespace Dx
open PySem L2 PySem.Spec
section
variable {K : Fg} {F : Fx} {W : WX} {G G' H H' : Hp} {σ σ' : L2.St} {sl sl' : Sl} {d e : D}
/-- what was made out of sight of our own objects, beside them -/
theorem Rel.second {v : V} (R : Rel K F G σ H sl) (R' : Rel K ⟨F.p, H, G⟩ G' (some v :: σ') H' (.own e :: sl')) : ∃ b, v = .ref b ∧ Same G G' ∧ Rel K F G' (some (.ref b) :: σ) H' (.own e :: sl) := by
  have R1 := R.outside R'
  obtain ⟨b, eq, o, g, h0, _⟩ := R'.frontOwn
  cases eq
  obtain ⟨n1, n2, _⟩ := R.new0 (show H b = none from h0)
  refine ⟨b, rfl, R'.g0, ?_⟩
  obtain ⟨as0, s0⟩ := R.sls
  have ne : ∀ a ∈ as0, F.p ≠ some a := fun a ha => (s0.owned a ha).2.2.2
  obtain ⟨h1, h2, h3, h4, h5, _, _⟩ := R1
  refine ⟨h1, h2, h3, h4, h5, b :: as0, .own o g n1 n2 (fun z => ?_) (s0.heap R'.g0 (fun a ha u q => R'.fr a u q (ne a ha)) fun a ha => ?_)⟩
  · obtain ⟨⟨u, hu⟩, _⟩ := s0.owned b z
    exact nomatch (show H b = none from h0).symm.trans hu
  · obtain ⟨⟨u, hu⟩, ga, _⟩ := s0.owned a ha
    cases q : G' a with
    | none => rfl
    | some y =>
      rcases R'.gn a y q with z | z
      · exact nomatch (show G a = some y from z).symm.trans ga
      · exact nomatch (show H a = none from z).symm.trans hu
end
/-- a, b = two new objects of our own -/
def dParN (i j : Nat) (α β : DE) : DS := fun De sl => α sl De.ex fun d sl1 => β (sl1.map Slot.hid) EF fun e _ => De.nx ((sl1.set i (.own d)).set j (.own e))
def dParN3 (i j l : Nat) (α β γ : DE) : DS := fun De sl => α sl De.ex fun d sl1 => β (sl1.map Slot.hid) EF fun e _ => γ (sl1.map Slot.hid) EF fun f _ => De.nx (((sl1.set i (.own d)).set j (.own e)).set l (.own f))
section
variable {X : Cx} {F : Fx} {W : WX} {a b c e o : Expr} {es : List Expr} {α β γ : DE} {pos p p1 p2 p3 : Pos} {i j l : Nat} {x T : Str} {τ : DA} {C : Addr}
/-- an argument list of two, three new objects -/
theorem qs_parN {st : Stmt} (hij : i ≠ j) (ha : QN X F W a α) (hb : ∀ F, QN X F WF b β) (hs : starEach [a, b] X.env = (false, eval a X.env) :: starEach [b] X.env) (hs2 : starEach [b] X.env = (false, eval b X.env) :: starEach [] X.env)
    (h : ∀ t, PA X [a, b] t → PS X st (tPar i j t)) : QS X F W st (dParN i j α β) := by
  have hb' : PE X b (fun σ H Q => ∃ F, LN X.K F WF β σ H Q) := ⟨fun pins s σ H Q I ⟨F, q⟩ => (hb F).run.run pins s σ H Q I q⟩
  refine ⟨ps_imp (h _ (pa_cons ha.run (pa_cons hb' pa_nil hs2) hs)) fun D σ H h => ?_⟩
  obtain ⟨G, sl, De, R, h, f⟩ := h
  refine ⟨G, sl, De.ex, _, R, h, fun d sl1 h1 G1 H1 v1 s1 R1 => ?_, f.ex⟩
  refine ⟨⟨F.p, H1, G1⟩, G1, _, EF, _, R1.tail.inside, h1, fun e sl2 h2 G2 H2 v2 s2 R2 => ?_, thrownF⟩
  obtain ⟨b2, e2, s3, R3⟩ := R1.second R2
  cases e2
  refine ⟨_, _, rfl, ?_⟩
  have R4 := (R3.putOwn (j + 1)).putOwn i
  have R5 : Rel X.K F G2 ((σ.set j (some (.ref v2))).set i (some (.ref v1))) H2 ((sl1.set j (.own e)).set i (.own d)) := R4
  rw [List.set_comm _ _ (Ne.symm hij), List.set_comm _ _ (Ne.symm hij)] at R5
  exact f.nx _ h2 G2 _ H2 (s1.trans s3) R5
theorem qs_parN3 {st : Stmt} (hij : i ≠ j) (hil : i ≠ l) (hjl : j ≠ l) (ha : QN X F W a α) (hb : ∀ F, QN X F WF b β) (hc : ∀ F, QN X F WF c γ) (hs : starEach [a, b, c] X.env = (false, eval a X.env) :: starEach [b, c] X.env)
    (hs2 : starEach [b, c] X.env = (false, eval b X.env) :: starEach [c] X.env) (hs3 : starEach [c] X.env = (false, eval c X.env) :: starEach [] X.env)
    (h : ∀ t, PA X [a, b, c] t → PS X st (tPar3 i j l t)) : QS X F W st (dParN3 i j l α β γ) := by
  have hb' : PE X b (fun σ H Q => ∃ F, LN X.K F WF β σ H Q) := ⟨fun pins s σ H Q I ⟨F, q⟩ => (hb F).run.run pins s σ H Q I q⟩
  have hc' : PE X c (fun σ H Q => ∃ F, LN X.K F WF γ σ H Q) := ⟨fun pins s σ H Q I ⟨F, q⟩ => (hc F).run.run pins s σ H Q I q⟩
  refine ⟨ps_imp (h _ (pa_cons ha.run (pa_cons hb' (pa_cons hc' pa_nil hs3) hs2) hs)) fun D σ H h => ?_⟩
  obtain ⟨G, sl, De, R, h, f⟩ := h
  refine ⟨G, sl, De.ex, _, R, h, fun d sl1 h1 G1 H1 v1 s1 R1 => ?_, f.ex⟩
  refine ⟨⟨F.p, H1, G1⟩, G1, _, EF, _, R1.tail.inside, h1, fun e sl2 h2 G2 H2 v2 s2 R2 => ?_, thrownF⟩
  obtain ⟨b2, e2, s3, R3⟩ := R1.second R2
  cases e2
  refine ⟨⟨F.p, H2, G2⟩, G2, _, EF, _, R3.tail.tail.inside, h2, fun g sl3 h3 G3 H3 v3 s4 R4 => ?_, thrownF⟩
  obtain ⟨b3, e3, s5, R5⟩ := R3.second R4
  cases e3
  refine ⟨_, _, _, rfl, ?_⟩
  have R6 : Rel X.K F G3 (((σ.set l (some (.ref v3))).set j (some (.ref v2))).set i (some (.ref v1))) H3 (((sl1.set l (.own g)).set j (.own e)).set i (.own d)) := (((R5.putOwn (l + 1 + 1)).putOwn (j + 1)).putOwn i)
  rw [List.set_comm _ _ (Ne.symm hij), List.set_comm _ _ (Ne.symm hil), List.set_comm _ _ (Ne.symm hjl), List.set_comm _ _ (Ne.symm hij), List.set_comm _ _ (Ne.symm hil), List.set_comm _ _ (Ne.symm hjl)] at R6
  exact f.nx _ h3 G3 _ H3 ((s1.trans s3).trans s5) R6
/-! ### a property -/
def dProp (C : Addr) (φ : Phi) (α : DE) : DE := fun sl E P => α sl E fun d sl1 => isC C d = true ∧ φ [d] (fun r => P r.d sl1) fun _ => False
theorem qe_prop {k : Nat} {f pr g : Addr} {fd : FuncData} {ps : List Str} {φ : Phi} {m : Str} (he : QE X F W e α) (c : Cls X.K C) (hp : PropOf X.K C m pr g) (G : FnOk X.prog X.w X.K X.mg X.base (L2.CX X.prog X.w) k g fd ps (SpP X.K 1 φ)) (hr : Room (k + 1) X.A) (hb : Binds X.K fd ps [])
    (hab : attributeBase e m X.env (eval e X.env) = eval e X.env := by rfl) : QE X F W (.Attribute e m pos) (dProp C φ α) :=
  ⟨pe_imp (pe_prop (dvs := []) he.run c hp G hr hb .nil (E := fun _ _ _ => False) (fun _ _ _ _ _ _ _ z => by
    obtain ⟨_, _, _, _, _, _, _, _, _, _, _, _, z⟩ := z
    exact z.elim) hab) fun σ H Q h => by
    obtain ⟨G, sl, E, P, R, h, k, kx⟩ := h
    refine ⟨G, sl, E, _, R, h, fun d sl1 h1 G1 H1 v1 s1 R1 r1 => ?_, kx⟩
    obtain ⟨hc, p⟩ := h1
    cases r1 with
    | obj g kn t =>
      have e := of_decide_eq_true hc
      subst e
      refine ⟨_, _, _, rfl, R1.ex _ _ g, G1, _, _, _, rfl, R1.ex, .cons (.obj g kn t) .nil, p, fun r q G' H' v _ R' => ?_, fun _ z => z.elim⟩
      obtain ⟨G2, s2, R2, r2⟩ := R1.called R'
      exact k _ sl1 q G2 H' v (s1.trans s2) R2 r2
    | _ => cases hc⟩
/-! ### min of three -/
def oMin3 : OA := fun ds P => match ds with
  | [.int i, .int j, .int k] => P (.int (if k < (if j < i then j else i) then k else (if j < i then j else i)))
  | _ => False
theorem nuMin2_int (i j : Int) : nuMin2 (.int i) (.int j) = some (.int (if j < i then j else i)) := by
  show some (if decide (j < i) = true then V.int j else V.int i) = _
  by_cases h : j < i
  · rw [if_pos h, if_pos (decide_eq_true h)]
  · rw [if_neg h, if_neg (by simp [h])]
theorem rf_min3 {K : Fg} : RfA K (rNuC3 nuMin3) oMin3 := by
  intro G H xs ds P Q s r h k
  unfold oMin3 at h
  split at h
  · cases r with
    | cons r1 r =>
      cases r with
      | cons r2 r =>
        cases r with
        | cons r3 r =>
          cases r
          cases r1
          cases r2
          cases r3
          refine ⟨_, _, _, _, rfl, ?_, k _ h G H _ (.refl s) (.int _)⟩
          unfold nuMin3
          rw [nuMin2_int]
          exact nuMin2_int _ _
  · exact h.elim
end
end Dx
namespace Dx
open PySem L2 PySem.Spec
/-! ### {k: v for ..} -/
def dDTurns (g : DG) (τ : DT) (κ ν : DE) (base : Sl) (P : List Key → List D → Prop) : List D → List Key → List D → Prop
  | [], ks, ds => P ks ds
  | d :: r, ks, ds => g d base fun sl1 => τ sl1 EF fun b sl2 => if b = true then κ sl2 EF fun e sl3 => ν sl3 EF fun f _ => ∃ k, e.key = some k ∧ ks.length < sizeLine ∧ dDTurns g τ κ ν base P r (putKey k ks) (putVal k f ks ds) else dDTurns g τ κ ν base P r ks ds
def dDComp (ι : DI) (g : DG) (τ : DT) (κ ν : DE) (vs : List Nat) : DE := fun sl E P => ι sl E fun ds sl1 => dDTurns g τ κ ν (unsets (sl1.map Slot.hid) vs) (fun ks es => P (.dic ks es) sl1) ds [] []
section
variable {K : Fg} {F : Fx} {W : WX} {ι : DI} {g : DG} {τ : DT} {κ ν : DE} {vs : List Nat} {σ : L2.St} {H : Hp} {Q : VK}
theorem LN.dcomp {wi : TI} {gr : TG} {tt : TT} {tk tv : TE} (hwi : ∀ R, LI K F W ι σ H R → wi σ H R) (hgr : ∀ F v σ H Q, LGc K F vs g v σ H Q → gr v σ H Q) (htt : ∀ F σ H Q, LT K F WF τ σ H Q → tt σ H Q) (htk : ∀ F σ H Q, LE K F WF κ σ H Q → tk σ H Q) (htv : ∀ F σ H Q, LE K F WF ν σ H Q → tv σ H Q)
    (h : LN K F W (dDComp ι g τ κ ν vs) σ H Q) : tDc wi gr tt tk tv vs σ H Q := by
  obtain ⟨G, sl, E, P, R, h, k, kx⟩ := h
  refine hwi _ ⟨G, sl, E, _, R, h, fun ds sl1 h1 G1 H1 J s1 R1 w => ?_, kx⟩
  intro Dl hD
  have own0 : OwnAt K G1 (upd H1 Dl (.dK [])) Dl (.dic [] []) := ⟨[], upd_same, rfl, .nil⟩
  refine ⟨fun i m H2 => ∃ G2 ks es, Same G1 G2 ∧ Rel K F G2 (some (.ref Dl) :: σ) H2 (.own (.dic ks es) :: sl1) ∧ dDTurns g τ κ ν (unsets (sl1.map Slot.hid) vs) (fun ks es => P (.dic ks es) sl1) (ds.drop i) ks es ∧ m = ds.length - i ∧ i ≤ ds.length,
    ⟨ds.length, G1, [], [], Same.refl _, R1.own hD _ own0, h1, by simp, Nat.zero_le _⟩, ?_⟩
  rintro i m H2 ⟨G2, ks, es, s2, R2, h2, rfl, hi⟩
  by_cases hlt : i < ds.length
  · obtain ⟨hgo, hy⟩ := (w i G2 H2 s2 R2.ex).1 ds[i] (List.getElem?_eq_getElem hlt)
    rw [List.drop_eq_getElem_cons hlt] at h2
    refine .inr ⟨hgo, fun H3 => ∃ G3 ks3 es3, Same G1 G3 ∧ Rel K F G3 (some (.ref Dl) :: σ) H3 (.own (.dic ks3 es3) :: sl1) ∧ dDTurns g τ κ ν (unsets (sl1.map Slot.hid) vs) (fun ks es => P (.dic ks es) sl1) (ds.drop (i + 1)) ks3 es3,
      fun H3 ⟨G3, ks3, es3, q⟩ => ⟨ds.length - (i + 1), by omega, G3, ks3, es3, q.1, q.2.1, q.2.2, rfl, hlt⟩, fun x H3 yx => ?_⟩
    obtain ⟨G3, gr3, r3⟩ := hy x H3 yx
    have R3 := R2.grown gr3
    have R4 := R3.tail.inside.wipe vs
    refine hgr _ x _ H3 _ ⟨G3, _, ds[i], _, R4, r3, h2, fun sl5 h5 G5 σ5 H5 s5 R5 w5 => ⟨by rw [w5]; exact wipe_idem vs σ, ?_⟩⟩
    refine htt _ σ5 H5 _ ⟨G5, sl5, EF, _, R5, h5, fun b sl6 h6 G6 H6 s6 R6 => ?_, thrownF⟩
    cases b with
    | true =>
      show tk σ5 H6 _
      refine htk _ σ5 H6 _ ⟨G6, sl6, EF, _, R6, h6, fun e sl7 h7 G7 H7 v7 s7 R7 r7 => ?_, thrownF⟩
      refine htv _ σ5 H7 _ ⟨G7, sl7, EF, _, R7, h7, fun f sl8 h8 G8 H8 v8 s8 R8' r8 => ?_, thrownF⟩
      obtain ⟨kk, hk, hz, h9⟩ := h8
      have R8 : Rel K F G8 (some (.ref Dl) :: σ) H8 (.own (.dic ks es) :: sl1) := R3.outside R8'
      obtain ⟨a8, e8, ⟨kvs, hx, hks, tx⟩, _⟩ := R8.frontOwn
      cases e8
      subst hks
      have hlen : kvs.length < sizeLine := by simpa using hz
      refine ⟨kvs, kk, r7.key hk, hx, hlen, G8, _, _, s2.trans (gr3.g.trans (s5.trans (s6.trans (s7.trans s8)))), R8.turn ⟨putK kvs kk v8, upd_same, rfl, putK_vals r8 tx⟩, by rw [putK_keys]; exact h9⟩
    | false =>
      exact ⟨G6, ks, es, s2.trans (gr3.g.trans (s5.trans s6)), R3.outside R6, h6⟩
  · have e : i = ds.length := by omega
    subst e
    rw [List.drop_length] at h2
    refine .inl ⟨(w _ G2 H2 s2 R2.ex).2 (Nat.le_refl _), k _ sl1 h2 G2 H2 Dl (s1.trans s2) R2⟩
end
section
variable {X : Cx} {F : Fx} {W : WX} {tg iter kx vx : Expr} {ifs : List Expr} {scope : Scope} {own : List (Str × Nat)} {pos : Pos} {ι : DI} {g : DG} {τ : DT} {κ ν : DE}
theorem qn_dcomp (hc : X.calm = true) (hN : X.N.Nodup) (hi : QI X F W tg iter ι) (ok : BlkOk X.N X.env.scope scope own) (b : Blk X tg kx ifs scope (own.map (·.2)) g τ κ) (b2 : Blk X tg vx ifs scope (own.map (·.2)) g τ ν) (hs : ∀ x, foldedSetIterable iter X.env x = pure x := by intro _; rfl) :
    QN X F W (.DictComp kx vx [⟨tg, iter, ifs, 0⟩] scope pos) (dDComp ι g τ κ ν (own.map (·.2))) :=
  ⟨pe_imp (pe_dc hc hN hi.run ok b.pg b.pts b.pe b2.pe hs) fun σ H Q h => LN.dcomp (fun _ q => q) (fun F _ _ _ _ q => ⟨F, q⟩) (fun F _ _ _ q => ⟨F, q⟩) (fun F _ _ _ q => ⟨F, q⟩) (fun F _ _ _ q => ⟨F, q⟩) h⟩
theorem qe_dcomp (hc : X.calm = true) (hN : X.N.Nodup) (hi : QI X F W tg iter ι) (ok : BlkOk X.N X.env.scope scope own) (b : Blk X tg kx ifs scope (own.map (·.2)) g τ κ) (b2 : Blk X tg vx ifs scope (own.map (·.2)) g τ ν) (hs : ∀ x, foldedSetIterable iter X.env x = pure x := by intro _; rfl) :
    QE X F W (.DictComp kx vx [⟨tg, iter, ifs, 0⟩] scope pos) (dDComp ι g τ κ ν (own.map (·.2))) := ⟨pe_imp (qn_dcomp hc hN hi ok b b2 hs).run fun σ H Q h => h.ofN⟩
end
/-! ### sorted, of pairs of ints -/
def PrV (K : Fg) (H : Hp) (x : V) (p : Int × Int) : Prop := ∃ t, x = V.ref t ∧ SqT K H t [.int p.1, .int p.2]
def rSortD (K : Fg) : List V → Hp → VK → Prop := fun vs H Q => ∃ (a : Addr) (xs : List V) (ps : List (Int × Int)), vs = [V.ref a] ∧ SqL K H a xs ∧ Paired (PrV K H) xs ps ∧
  ∀ (ys : List V) (qs : List (Int × Int)) (d : Addr), (∀ R : V → Int × Int → Prop, Paired R xs ps → Paired R ys qs) → qs.Perm ps → (qs.Pairwise fun x y => SrtO.lexB y x = false) → H d = none → Q (.ref d) (upd H d (.lst ys))
theorem isPair_one {h : Heap} {v : Value} {i j i' j' : Int} (a : Srt.IsPair h v i j) (b : Srt.IsPair h v i' j') : (i, j) = (i', j') := by
  obtain ⟨x, o, t, u, n, rfl, h1, _, h2⟩ := a
  obtain ⟨x', o', t', u', n', e, h1', _, h2'⟩ := b
  cases e
  cases h1.symm.trans h1'
  cases h2.symm.trans h2'
  rfl
theorem paired_at {α β : Type} {R : α → β → Prop} : ∀ {l : List α} {m : List β}, Paired R l m → ∀ x ∈ l, ∃ y ∈ m, R x y
  | _, _, .nil, _, h => by cases h
  | _, _, .cons r t, x, h => by
    rcases List.mem_cons.mp h with e | h
    · exact ⟨_, List.mem_cons_self, e ▸ r⟩
    · obtain ⟨y, hy, q⟩ := paired_at t x h
      exact ⟨y, List.mem_cons_of_mem _ hy, q⟩
theorem paired_unmap {α β γ : Type} {R : α → β → Prop} {f : γ → α} {k : γ → β} : ∀ {l : List γ}, Paired R (l.map f) (l.map k) → ∀ x ∈ l, R (f x) (k x)
  | [], _, x, h => by cases h
  | y :: l, .cons r t, x, h => by
    rcases List.mem_cons.mp h with e | h
    · rw [e]; exact r
    · exact paired_unmap t x h
theorem paired_map {α β γ : Type} {R : α → β → Prop} {f : γ → α} {k : γ → β} : ∀ {l : List γ}, (∀ x ∈ l, R (f x) (k x)) → Paired R (l.map f) (l.map k)
  | [], _ => .nil
  | x :: l, h => .cons (h x List.mem_cons_self) (paired_map fun y hy => h y (List.mem_cons_of_mem _ hy))
section
variable {X : Cx}
theorem call_sortD : CallR X (.builtin "sorted") (rSortD X.K) := by
  intro pins s σ H vs us Q I r h
  obtain ⟨a, xs, ps, rfl, hs, hx, q⟩ := h
  obtain ⟨its, rv, hl, hz⟩ := I.list hs
  obtain ⟨u, rfl, ru⟩ := vals1 r
  obtain rfl : u = Value.ref a := ru
  obtain ⟨e1, e2⟩ := refs_back rv fun x m => by
    obtain ⟨p, _, t, e, _⟩ := paired_at hx x m
    exact ⟨t, e⟩
  have pairOf : ∀ {x : V} {u : Value} {p : Int × Int}, RelV x u → PrV X.K H x p → Srt.IsPair s.heap u p.1 p.2 := fun {x u p} rx hp => by
    obtain ⟨t, rfl, ht⟩ := hp
    cases rx
    obtain ⟨its2, r2, ⟨o, ho, hc, n, hd⟩, _⟩ := I.tuple ht
    obtain ⟨u1, u2, rfl, ri, rj⟩ := vals2 r2
    obtain ⟨t1, rfl⟩ := ri
    obtain ⟨t2, rfl⟩ := rj
    exact ⟨t, o, t1, t2, n, rfl, ho, hc, hd⟩
  obtain ⟨k, hk⟩ : ∃ k : Value → Int × Int, ∀ v i j, Srt.IsPair s.heap v i j → k v = (i, j) := by
    have one : ∀ v, ∃ p : Int × Int, ∀ i j, Srt.IsPair s.heap v i j → p = (i, j) := fun v => by
      by_cases ex : ∃ i j, Srt.IsPair s.heap v i j
      · obtain ⟨i, j, h⟩ := ex
        exact ⟨(i, j), fun i' j' h' => isPair_one h h'⟩
      · exact ⟨(0, 0), fun i j h => (ex ⟨i, j, h⟩).elim⟩
    exact ⟨fun v => (one v).choose, fun v i j h => (one v).choose_spec i j h⟩
  -- the values, their pairs
  have mapK : its.map k = ps := by
    clear hs hl hz q e1 e2
    induction rv generalizing ps with
    | nil => cases hx; rfl
    | cons rx _ ih =>
      cases hx with
      | cons hp ht => rw [List.map_cons, hk _ _ _ (pairOf rx hp), ih _ ht]
  have inIts : ∀ v ∈ its, ∃ t, v = Value.ref t ∧ PrV X.K H (.ref t) (k v) := fun v hv => by
    obtain ⟨t, rfl⟩ := e2 v hv
    have hm : V.ref t ∈ xs := by rw [e1]; exact List.mem_map.mpr ⟨_, hv, rfl⟩
    obtain ⟨p, _, hp⟩ := paired_at hx _ hm
    refine ⟨t, rfl, ?_⟩
    rw [hk _ _ _ (pairOf (x := V.ref t) (u := Value.ref t) rfl hp)]
    exact hp
  refine SrtO.sorted_pairsO (k := k) hl.isList (by rw [← rv.length]; exact hz) (fun v hv => ?_) fun h' d out h1 h2 kp hd hn => ?_
  · obtain ⟨t, rfl, hp⟩ := inIts v hv
    exact pairOf (x := V.ref t) (u := Value.ref t) rfl hp
  · have inOut : ∀ u ∈ out, u ∈ its := fun u hu => h2.perm.mem_iff.mp hu
    have h3 : ∀ u ∈ out, ∃ a, u = Value.ref a := fun u hu => e2 u (inOut u hu)
    obtain ⟨n, hn⟩ := hn
    have hlen : (out.map backV).length ≤ sizeLine := by
      rw [List.length_map, h2.perm.length_eq, ← rv.length]
      exact hz
    refine ⟨.ref d, upd H d (.lst (out.map backV)), I.laid (t' := s.toks) kp hd ⟨hlen, out, n, vals_back h3, hn⟩, rfl, q _ (out.map k) d (fun R hR => paired_map fun u hu => ?_) ?_ (SrtO.srtd_map h1) (I.hok.fresh hd)⟩
    · rw [e1, ← mapK] at hR
      exact paired_unmap hR u (inOut u hu)
    · rw [← mapK]
      exact h2.perm.map k
end
def prD (p : Int × Int) : D := .tup [.int p.1, .int p.2]
def oSortP : OA := fun ds P => match ds with
  | [.lst xs] => ∃ ps : List (Int × Int), xs = ps.map prD ∧ ∀ qs : List (Int × Int), qs.Perm ps → (qs.Pairwise fun x y => SrtO.lexB y x = false) → P (.lst (qs.map prD))
  | _ => False
theorem prs_of {K : Fg} {G H : Hp} (s : Same G H) : ∀ {ps : List (Int × Int)} {vs : List V}, RpL K G vs (ps.map prD) → Paired (PrV K H) vs ps
  | [], _, .nil => .nil
  | p :: ps, _, .cons r t => by
    refine .cons ?_ (prs_of s t)
    cases r with
    | tup g tt =>
      have e := RpL.toInts (ns := [p.1, p.2]) tt
      subst e
      exact ⟨_, rfl, sqT_mono s g⟩
theorem rps_of {K : Fg} {G : Hp} : ∀ {ps : List (Int × Int)} {vs : List V}, RpL K G vs (ps.map prD) → Paired (fun v p => Rp K G v (prD p)) vs ps
  | [], _, .nil => .nil
  | p :: ps, _, .cons r t => .cons r (rps_of t)
theorem rps_to {K : Fg} {G : Hp} : ∀ {ps : List (Int × Int)} {vs : List V}, Paired (fun v p => Rp K G v (prD p)) vs ps → RpL K G vs (ps.map prD)
  | _, _, .nil => .nil
  | _, _, .cons r t => .cons r (rps_to t)
theorem rf_sortD {K : Fg} : RfA K (rSortD K) oSortP := by
  intro G H xs ds P Q s r h k
  cases r with
  | nil => exact h.elim
  | cons r t =>
    cases t with
    | cons _ _ => cases r <;> exact h.elim
    | nil =>
      cases r with
      | lst g t =>
        obtain ⟨ps, rfl, p⟩ := h
        refine ⟨_, _, ps, rfl, SqL.of (s _ _ g), prs_of s t, fun ys qs d hp h1 h2 hd => ?_⟩
        have gr := Grown.new s hd (.lst ys)
        exact k _ (p qs h1 h2) _ _ _ gr (.lst upd_same ((rps_to (hp _ (rps_of t))).mono gr.g))
      | _ => exact h.elim
end Dx
namespace Dx
open PySem L2 PySem.Spec
theorem bb_sorted : bootBuiltins "sorted" = some (.builtin "sorted") := by decide +kernel
theorem bb_all : bootBuiltins "all" = some (.builtin "all") := by decide +kernel
theorem fn_cls {K : Fg} {f : Addr} (h : PySem.W.isFn K (.ref f) = true) : ∃ o, K.lookup f = some o ∧ o.cls = .type "function" := by
  have e : (K.lookup f).map (·.cls) = some (.type "function") := beq_iff_eq.mp h
  obtain ⟨o, h1, h2⟩ := Option.map_eq_some_iff.mp e
  exact ⟨o, h1, h2⟩
/-! ### classes, packed -/
structure MethAt (K : Fg) (C : Addr) (m qual : Str) (st : Stmt) (ps : List Str) : Prop where
  ex : ∃ f fd, Fun K m qual st f fd ∧ Binds K fd ps [] ∧ Meth K C m f
structure InitAt (K : Fg) (C : Addr) (qual : Str) (st : Stmt) (ps : List Str) : Prop where
  ex : ∃ f fd, Fun K "__init__" qual st f fd ∧ Binds K fd ps [] ∧ Mk K C f
structure PropAt (K : Fg) (C : Addr) (m qual : Str) (st : Stmt) (ps : List Str) : Prop where
  ex : ∃ pr f fd, Fun K m qual st f fd ∧ Binds K fd ps [] ∧ PropOf K C m pr f
structure EqAt (K : Fg) (C : Addr) (qual : Str) (st : Stmt) (ps : List Str) : Prop where
  ex : ∃ f fd, Fun K "__eq__" qual st f fd ∧ Binds K fd ps [] ∧ EqC K C f ∧ NeC K C f
structure ClsAt (K : Fg) (mg : Str → Option Value) (x : Str) (C : Addr) : Prop where
  cl : Cls K C
  mg : mg x = some (.ref C)
  ins : InsD K C
section
variable (P : Program) (w : World) (K : Fg) (mg : Str → Option Value) (base : Heap) (k : Nat) (C : Addr)
def OkM (m : Str) (n : Nat) (φ : Phi) : Prop := ∃ f fd ps, FnOk P w K mg base (L2.CX P w) k f fd ps (SpP K (n + 1) φ) ∧ Meth K C m f ∧ Binds K fd ps []
def OkI (n : Nat) (φ : PhI) : Prop := ∃ f fd ps, FnOk P w K mg base (L2.CX P w) k f fd ps (SpI K C n φ) ∧ Mk K C f ∧ Binds K fd ps []
def OkPr (m : Str) (φ : Phi) : Prop := ∃ pr f fd ps, FnOk P w K mg base (L2.CX P w) k f fd ps (SpP K 1 φ) ∧ PropOf K C m pr f ∧ Binds K fd ps []
def OkEq (φ : Phi) : Prop := ∃ f fd ps, FnOk P w K mg base (L2.CX P w) k f fd ps (SpP K 2 φ) ∧ EqC K C f ∧ NeC K C f ∧ Binds K fd ps []
end
section
variable {P : Program} {w : World} {K : Fg} {mg : Str → Option Value} {base : Heap} {C : Addr} {m qual : Str} {st : Stmt} {N ps : List Str} {k n : Nat}
theorem okM_of {φ : Phi} {δ : DS} (D : MethAt K C m qual st ps) (S : FnScope N ps (defScope st)) (hn : ps.length = n + 1) (hb : ∀ f, BodyD P w K mg base N qual st f k δ) (hd : ∀ ds Q QE, ds.length = n + 1 → φ ds Q QE → δ (endsD Q QE) (startD N ds)) : OkM P w K mg base (k + 1) C m n φ := by
  obtain ⟨f, fd, Fu, bi, hm⟩ := D.ex
  exact ⟨f, fd, ps, fn_P Fu S hn (hb f) hd, hm, bi⟩
theorem okPr_of {φ : Phi} {δ : DS} (D : PropAt K C m qual st ps) (S : FnScope N ps (defScope st)) (hn : ps.length = 1) (hb : ∀ f, BodyD P w K mg base N qual st f k δ) (hd : ∀ ds Q QE, ds.length = 1 → φ ds Q QE → δ (endsD Q QE) (startD N ds)) : OkPr P w K mg base (k + 1) C m φ := by
  obtain ⟨pr, f, fd, Fu, bi, hm⟩ := D.ex
  exact ⟨pr, f, fd, ps, fn_P Fu S hn (hb f) hd, hm, bi⟩
theorem okEq_of {φ : Phi} {δ : DS} (D : EqAt K C qual st ps) (S : FnScope N ps (defScope st)) (hn : ps.length = 2) (hb : ∀ f, BodyD P w K mg base N qual st f k δ) (hd : ∀ ds Q QE, ds.length = 2 → φ ds Q QE → δ (endsD Q QE) (startD N ds)) : OkEq P w K mg base (k + 1) C φ := by
  obtain ⟨f, fd, Fu, bi, h1, h2⟩ := D.ex
  exact ⟨f, fd, ps, fn_P Fu S hn (hb f) hd, h1, h2, bi⟩
theorem okI_of {φ : PhI} {δ : DIn} (D : InitAt K C qual st ps) (S : FnScope N ps (defScope st)) (hn : ps.length = n + 1) (hb : ∀ f, BodyI P w K mg base N qual st f C k δ) (hd : ∀ ds Q QE, ds.length = n → φ ds Q QE → δ (endsD (fun _ => False) QE) Q (startI N ds)) : OkI P w K mg base (k + 1) C n φ := by
  obtain ⟨f, fd, Fu, bi, hm⟩ := D.ex
  exact ⟨f, fd, ps, fn_I Fu S hn (hb f) hd, hm, bi⟩
end
section
variable {X : Cx} {F : Fx} {W : WX} {k n : Nat} {C : Addr} {φ : Phi} {x m : Str} {p pos apos : Pos} {a b e o : Expr} {es : List Expr} {τ : DA} {α β : DE}
theorem qe_mM {pl : Sem Bool} (he : QE X F W o α) (c : ClsAt X.K X.mg x C) (G : OkM X.prog X.w X.K X.mg X.base k C m n φ) (hr : Room k X.A) (tk : Takes X W) (ha : QA X F W (e :: es) τ)
    (hst : starEach (e :: es) X.env = (false, eval e X.env) :: starEach es X.env := by rfl) (hpl : (backTo pos (starEach es X.env)).any (·.1) = false := by rfl)
    (ht : eval (.Call (.Attribute o m apos) (e :: es) [] pos) X.env = (do
      let ov ← eval o X.env
      standAt apos.atName
      let (f, first) ← holding [ov] (getMethod ov m pl)
      callWith pos f first (backTo pos (starEach (e :: es) X.env)) (backToKw pos (keywordEach [] X.env))) := by rfl) : QE X F W (.Call (.Attribute o m apos) (e :: es) [] pos) (dMeth C m n φ α τ) := by
  obtain ⟨f, fd, ps, G, hm, hb⟩ := G
  exact qe_meth he c.cl hm G hr hb tk ha hst hpl ht
theorem qe_mM0 {pl : Sem Bool} (he : QE X F W o α) (c : ClsAt X.K X.mg x C) (G : OkM X.prog X.w X.K X.mg X.base k C m 0 φ) (hr : Room k X.A) (tk : Takes X W)
    (ht : eval (.Call (.Attribute o m apos) [] [] pos) X.env = (do
      let ov ← eval o X.env
      standAt apos.atName
      let (f, first) ← holding [ov] (getMethod ov m pl)
      callWith pos f first (backTo pos (starEach [] X.env)) (backToKw pos (keywordEach [] X.env))) := by rfl) : QE X F W (.Call (.Attribute o m apos) [] [] pos) (dMeth C m 0 φ α dNil) := by
  obtain ⟨f, fd, ps, G, hm, hb⟩ := G
  exact qe_meth0 he c.cl hm G hr hb tk ht
theorem qe_mk {φ : PhI} (c : ClsAt X.K X.mg x C) (G : OkI X.prog X.w X.K X.mg X.base k C n φ) (hr : Room (k + 1) X.A) (hg : Gl X x) (tk : Takes X W) (ha : QA X F W (e :: es) τ)
    (hdb : (x == ("__debug__" : Str)) = false := by decide) (he : starEach (e :: es) X.env = (false, eval e X.env) :: starEach es X.env := by rfl) (hpl : (backTo pos (starEach es X.env)).any (·.1) = false := by rfl) : QE X F W (.Call (.Name x p) (e :: es) [] pos) (dMake n φ τ) := by
  obtain ⟨f, fd, ps, G, hm, hb⟩ := G
  exact qe_make hm G hr hg c.mg hb tk ha hdb he hpl
theorem qe_pr (he : QE X F W e α) (c : ClsAt X.K X.mg x C) (G : OkPr X.prog X.w X.K X.mg X.base k C m φ) (hr : Room (k + 1) X.A) (hab : attributeBase e m X.env (eval e X.env) = eval e X.env := by rfl) : QE X F W (.Attribute e m pos) (dProp C φ α) := by
  obtain ⟨pr, f, fd, ps, G, hm, hb⟩ := G
  exact qe_prop (f := f) he c.cl hm G hr hb hab
theorem qe_oeq (G : OkEq X.prog X.w X.K X.mg X.base k C φ) (hr : Room k X.A) (ha : QE X F W a α) (hb : QE X F W b β) : QE X F W (.Compare a [.Eq] [b] pos) (dOp (oOwn C false φ) α β) := by
  obtain ⟨f, fd, ps, G, h1, h2, bi⟩ := G
  exact qe_cmp (op_ownEq h1 G hr bi) rf_own ha hb (nomark _)
theorem qt_oeq (G : OkEq X.prog X.w X.K X.mg X.base k C φ) (hr : Room k X.A) (ha : QE X F W a α) (hb : QE X F W b β) : QT X F W (.Compare a [.Eq] [b] pos) (dTest (dOp (oOwn C false φ) α β)) := by
  obtain ⟨f, fd, ps, G, h1, h2, bi⟩ := G
  exact qt_cmp (op_ownEq h1 G hr bi) rf_own ha hb (nomark _)
theorem qe_one' (G : OkEq X.prog X.w X.K X.mg X.base k C φ) (hr : Room (k + 1) X.A) (ha : QE X F W a α) (hb : QE X F W b β) : QE X F W (.Compare a [.NotEq] [b] pos) (dOp (oOwn C true φ) α β) := by
  obtain ⟨f, fd, ps, G, h1, h2, bi⟩ := G
  exact qe_cmp (op_ownNe h2 G hr bi) rf_own ha hb (nomark _)
theorem qt_one (G : OkEq X.prog X.w X.K X.mg X.base k C φ) (hr : Room (k + 1) X.A) (ha : QE X F W a α) (hb : QE X F W b β) : QT X F W (.Compare a [.NotEq] [b] pos) (dTest (dOp (oOwn C true φ) α β)) := by
  obtain ⟨f, fd, ps, G, h1, h2, bi⟩ := G
  exact qt_cmp (op_ownNe h2 G hr bi) rf_own ha hb (nomark _)
end
end Dx
namespace Dx
open PySem L2 PySem.Spec PyProof.Rows PySem.Calls
/-! ### super().__init__('..') at the head of an own exception's __init__ -/
/-- what the written part says of such an __init__ -/
structure SupI (P : Program) (K : Fg) (mg : Str → Option Value) (C f : Addr) (qual : Str) (st : Stmt) (fd : FuncData) (cd cc : Addr) : Prop where
  ex : ∃ (oc : Value) (od : Option Addr) (kV doc pm : Value) (an : Option Addr) (ct : Value) (osl : Array (Option Value)),
    fd = PySem.W.fnX "__init__" qual (defArgs st) (defBody st) (defScope st) [("__class__", cc)] .none kV doc pm an (.ref cd) ct ∧ K.lookup f = some ⟨oc, od, .func fd, osl⟩
  code : PySem.W.codeIn K (.ref cd) qual = true
  file : ∃ c1 d1 vs s1 file tf, K.lookup cd = some ⟨c1, d1, .fields vs, s1⟩ ∧ vs[2]? = some (.str file tf) ∧ ((P.main.file : Str) == file) = true
  cell : ∃ c2 d2 s2, K.lookup cc = some ⟨c2, d2, .cell (some (.ref C)), s2⟩
  sub : PySem.W.mroIn K C (.ref C) = some true
  up : PySem.W.ks_superIn K C C "__init__" = some (some (.builtin "ValueError.__init__"))
  isV : PySem.W.subIn K (.ref C) (.type "ValueError") = some true
  any : PySem.W.nsIn K cStatics "thirdparty.any" = some none
  sup : mg "super" = none
  top : (P.main.scope.names.lookup ("super" : Str)).isSome = false
  oex : OexC K C
/-- its body begins so -/
structure SupB (st : Stmt) (self : Str) (rest : List Stmt) : Prop where
  body : ∃ p0 p1 p2 p3 p4 z j, defBody st = .Expr (.Call (.Attribute (.Call (.Name "super" p0) [] [] p1) "__init__" p2) [.Constant (.str z) j p3] [] p4) p4 :: rest
  head : ∃ ar, ((defArgs st).posonlyargs ++ (defArgs st).args).head? = some ar ∧ ar.arg = self
  ks : (defScope st).names.lookup ("super" : Str) = some .globalImplicit
  kc : (defScope st).names.lookup ("__class__" : Str) = some .free
  ka : (defScope st).names.lookup self = some .local
abbrev supF (st : Stmt) (qual : Str) (cd cc : Addr) : NdefX.NF := ⟨"__init__", qual, defArgs st, defBody st, defScope st, [("__class__", cc)], cd⟩
theorem bb_super : bootBuiltins "super" = some (.type "super") := by decide +kernel
section
variable {P : Program} {w : World} {K : Fg} {mg : Str → Option Value} {base : Heap} {C f cd cc : Addr} {qual self : Str} {st : Stmt} {fd : FuncData} {N ps : List Str} {rest : List Stmt}
/-- the object's own wrapper of ValueError.__init__, called -/
theorem wrapper_call {A : Around} {E : Value → Shared → Prop} {h : Heap} {g : Array GenState} {d : Drawn} {t : Nat} {os : OsState} {nm q : Str} {N0 : Addr} {bs bm : List Value} {hdct : Bool} {sn : List Str} {sub : List Value} {ab : Bool} {col : Option Bool} {dd : Option Addr} {k0 k1 k2 k3 k5 : Option Value} {u e t0 : Addr} {us : List Value} {Q : Value → Shared → Prop}
    (hC : h.get? C = some (excClassObj nm q C N0 bs bm hdct sn sub ab col dd k0 k1 k2 k3 k5 "ValueError.__new__")) (he : h.get? e = some (HandSPX.excO C t0)) (hu : h.get? u = some (PySem.W.kxs_mw "ValueError.__init__" e)) (hl : us.length ≤ sizeLine)
    (hq : ∀ h' t1, (∀ b o, b ≠ e → h.get? b = some o → h'.get? b = some o) → h'.get? e = some (HandSPX.excO C t1) → Q .none ⟨h', g, d, t, os⟩) : wpAny (model P w) A (call (.ref u) us) Q E ⟨h, g, d, t, os⟩ := by
  refine wpAny_call (codeAny_of_tree ?_)
  show wpAny _ A.in1 (callAny (.ref u) ⟨us, []⟩) _ _ _
  unfold callAny
  refine wpAny_bind (wpAny_load hu ?_)
  have e1 : (Value.type "method-wrapper" == Value.type "method" || Value.type "method-wrapper" == Value.type "builtin_function_or_method" || Value.type "method-wrapper" == Value.type "method-wrapper") = true := by decide
  simp only [PySem.W.kxs_mw, e1, if_true]
  refine PySem.W.KFB.if_so (by decide) (wpAny_bind ?_)
  refine PySem.W.check_bound_init F.excBase_ValueError.toExcCallFacts hC he rfl ?_
  refine wpAny_bind (wpAny_pure (wpAny_pure ⟨plainId_quiet F.excBase_ValueError.init.plain _, codeAny_builtin F.excBase_ValueError.initEntry ?_⟩))
  exact PySem.W.exc_init_tree (cls := .ref C) (t0 := t0) (dv := none) (c2 := .none) (c3 := .none) (b4 := .bool false) he hl fun h' k e' _ => hq h' h.objs.size k e'
end
end Dx
namespace Kb
open PySem L2 Dx
/-! what each def promises -/
def isWh : D → Int → Int → Bool
  | .int i, lo, hi => decide (lo ≤ i) && decide (i ≤ hi)
  | _, _, _ => false
def isSq : D → Bool
  | .lst _ => true
  | .tup _ => true
  | _ => false
abbrev Lks := List (Int × Int)
def lk (C : Addr) (a b : Int) (ps : Lks) : D := .obj C ["first", "second", "links"] [.int a, .int b, .tup (ps.map prD)]
structure Good (a b : Int) (ps : Lks) : Prop where
  n1 : (ps.map (·.1)).Nodup
  n2 : (ps.map (·.2)).Nodup
  bd : ∀ p ∈ ps, (0 ≤ p.1 ∧ p.1 < a) ∧ 0 ≤ p.2 ∧ p.2 < b
def Srd (ps : Lks) : Prop := ps.Pairwise fun x y => SrtO.lexB y x = false
structure Lik (a b : Int) (ps : Lks) : Prop where
  a0 : 0 ≤ a
  a1 : a ≤ 40
  b0 : 0 ≤ b
  b1 : b ≤ 40
  g : Good a b ps
  s : Srd ps
def cmpL (ps qs : Lks) : Lks := ps.flatMap fun p => qs.filterMap fun q => if q.1 = p.2 then some (p.1, q.2) else none
abbrev ph__law_hand (C : Addr) : Phi := phHand
abbrev ph__law_mix (C : Addr) : Phi := phMix
abbrev ph__law_draw (C : Addr) : Phi := phDraw
def ph__law_one (C : Addr) : Phi := fun ds P _ => ∃ d xs, ds = [d] ∧ asSeq d = some xs ∧ 1 ≤ xs.length ∧ xs.length ≤ 3000 ∧ ∀ x ∈ xs, P (.val x)
def ph__law_links (C : Addr) : Phi := fun ds P _ => ∃ a b m : Int, ds = [.int a, .int b, .int m] ∧ 0 ≤ a ∧ a ≤ 40 ∧ 0 ≤ b ∧ b ≤ 40 ∧ 0 ≤ m ∧ ∀ ps : Lks, Good a b ps → ((ps.length : Int) = if m < (if b < a then b else a) then m else (if b < a then b else a)) → P (.own (.lst (ps.map prD)))
def ph_is_sequence (C : Addr) : Phi := fun ds P _ => ∃ d, ds = [d] ∧ d.isObj = false ∧ P (.val (.bl (isSq d)))
def ph_is_whole (C : Addr) : Phi := fun ds P _ => ∃ d lo hi, ds = [d, .int lo, .int hi] ∧ d.isObj = false ∧ P (.val (.bl (isWh d lo hi)))
def ph_check_sizes (C : Addr) : Phi := fun ds P _ => ∃ a b : Int, ds = [.int a, .int b] ∧ 0 ≤ a ∧ a ≤ 40 ∧ 0 ≤ b ∧ b ≤ 40 ∧ P (.val .non)
def ph_check_links (C : Addr) : Phi := fun ds P _ => ∃ (a b : Int) (d : D) (ps : Lks), ds = [.int a, .int b, d] ∧ a ≤ 40 ∧ b ≤ 40 ∧ asSeq d = some (ps.map prD) ∧ Good a b ps ∧ P (.val .non)
def ph_Likeness_M___init__ (C : Addr) : PhI := fun ds P _ => ∃ (a b : Int) (d : D) (ps : Lks), ds = [.int a, .int b, d] ∧ 0 ≤ a ∧ a ≤ 40 ∧ 0 ≤ b ∧ b ≤ 40 ∧ asSeq d = some (ps.map prD) ∧ Good a b ps ∧ ∀ rs : Lks, rs.Perm ps → Srd rs → P (lk C a b rs)
def ph_Likeness_M_then (C : Addr) : Phi := fun ds P _ => ∃ (a b c : Int) (ps qs : Lks), ds = [lk C a b ps, lk C b c qs] ∧ Lik a b ps ∧ Lik b c qs ∧ ∀ rs : Lks, rs.Perm (cmpL ps qs) → Lik a c rs → P (.val (lk C a c rs))
def ph_Likeness_M_flipped (C : Addr) : Phi := fun ds P _ => ∃ (a b : Int) (ps : Lks), ds = [lk C a b ps] ∧ Lik a b ps ∧ ∀ rs : Lks, rs.Perm (ps.map fun p => (p.2, p.1)) → Lik b a rs → P (.val (lk C b a rs))
def ph_Likeness_M_is_full (C : Addr) : Phi := fun ds P _ => ∃ (a b : Int) (ps : Lks), ds = [lk C a b ps] ∧ P (.val (.bl (decide (a = b) && decide ((ps.length : Int) = a))))
def ph_Likeness_M___eq__ (C : Addr) : Phi := fun ds P _ => ∃ (a b a' b' : Int) (ps ps' : Lks), ds = [lk C a b ps, lk C a' b' ps'] ∧ P (.val (.bl (decide (ps = ps' ∧ a = a' ∧ b = b'))))
def ph__law_is_whole (C : Addr) : Phi := fun ds P _ => ∃ x y : Int, ds = [.int x, .int y] ∧ P (.val (.bl (decide (x = y))))
def ph__law_told (C : Addr) : Phi := fun ds P _ => ∃ (a b : Int) (ps qs : Lks), ds = [lk C a b ps, .int a, .int b, .lst (qs.map prD)] ∧ qs.Perm ps ∧ Srd ps ∧ P (.val (.bl true))
def ph__law_chained (C : Addr) : Phi := fun ds P _ => ∃ (ps qs : Lks), ds = [.lst (ps.map prD), .lst (qs.map prD)] ∧ ps.length ≤ 40 ∧ qs.length ≤ 40 ∧ ∀ rs : Lks, rs.Perm (cmpL ps qs) → Srd rs → P (.val (.lst (rs.map prD)))
end Kb
namespace Kb
open PySem L2 Dx
def nm__law_hand : List Str := ["_law_script", "_law_total", "_law_k", "_law_cell"]
def dl__law_hand (C_Likeness : Addr) : DS := (dSeq (dAsg (dC (.int 0)) (hName 1))
  (dSeq (dFor (dEnum (dCons (dVar 0) dNil)) (hTup 2 (hCons (hName 2) (hCons (hName 3) hNil))) (dAsg (dOp oMod (dCl oInt (dCons (dOp oAdd (dOp oMul (dVar 1) (dC (.int 31))) (dOp oMul (dCl oInt (dCons (dVar 3) dNil)) (dOp oAdd (dVar 2) (dC (.int 7))))) dNil)) (dC (.int 2147483629))) (hName 1)))
  (dRetO (dLst (dCons (dComp (dItems asLst (dVar 0)) (hName 3) dYes (dCl oAbs (dCons (dCl oInt (dCons (dVar 3) dNil)) dNil)) [3]) (dCons (dC (.int 0)) (dCons (dC (.int 0)) (dCons (dVar 1) dNil))))))))
def nm__law_mix : List Str := ["_law_number", "_law_turn", "_law_once", "_law_twice"]
def dl__law_mix (C_Likeness : Addr) : DS := (dSeq (dAsg (dOp oMod (dCl oInt (dCons (dOp oAdd (dOp oAdd (dOp oMul (dVar 0) (dC (.int 48271))) (dOp oMul (dVar 1) (dC (.int 16807)))) (dC (.int 11))) dNil)) (dC (.int 2147483647))) (hName 2))
  (dSeq (dAsg (dOp oMod (dCl oInt (dCons (dOp oAdd (dOp oAdd (dOp oMul (dVar 2) (dVar 2)) (dOp oMul (dOp oFdiv (dVar 2) (dC (.int 127))) (dC (.int 40692)))) (dOp oMul (dVar 1) (dC (.int 69621)))) dNil)) (dC (.int 2147483399))) (hName 3))
  (dRet (dOp oFdiv (dOp oMod (dCl oInt (dCons (dOp oAdd (dOp oFdiv (dOp oMul (dVar 3) (dVar 3)) (dC (.int 1009))) (dVar 2)) dNil)) (dC (.int 2147483563))) (dC (.int 16))))))
def nm__law_draw : List Str := ["_law_hand_here", "_law_many", "_law_cell", "_law_rest"]
def nm__law_one : List Str := ["_law_hand_here", "_law_rows"]
def dl__law_one (C_Likeness : Addr) : DS := (dRet (dOp oIx (dVar 1) (dCallH 0 1 (ph__law_draw C_Likeness) (dCons (dCl oLen (dCons (dVar 1) dNil)) dNil))))
def nm__law_links : List Str := ["_law_hand_here", "_law_first", "_law_second", "_law_many", "_law_ones", "_law_others", "_law_links_here", "_law_k"]
def dl__law_links (C_Likeness : Addr) : DS := (dSeq (dParN3 4 5 6 (dLstRg1 (dVar 1)) (dLstRg1 (dVar 2)) (dLst dNil))
  (dSeq (dFor (dRange1 (dCons (dCl oMin3 (dCons (dVar 1) (dCons (dVar 2) (dCons (dVar 3) dNil)))) dNil)) (hName 7) (dAppend 6 (dTup (dCons (dPopAt 4 (dCallH 0 1 (ph__law_draw C_Likeness) (dCons (dClB oLen [.nm 4]) dNil))) (dCons (dPopAt 5 (dCallH 0 1 (ph__law_draw C_Likeness) (dCons (dClB oLen [.nm 5]) dNil))) dNil)))))
  (dRetOwn 6)))
def nm_is_sequence : List Str := ["thing"]
def dl_is_sequence (C_Likeness : Addr) : DS := (dRet (dUn (oIsi2 "list" "tuple") (dVar 0)))
def nm_is_whole : List Str := ["thing", "low", "high"]
def dl_is_whole (C_Likeness : Addr) : DS := (dRet (dAndV (dUn (oIsi "int") (dVar 0)) (dAndV (dNotV (dUn (oIsi "bool") (dVar 0))) (dChain oLe oLe (dVar 1) (dVar 0) (dVar 2)))))
def nm_check_links : List Str := ["first", "second", "links", "ones", "others", "link"]
def dl_check_links (C_Likeness : Addr) : DS := (dSeq (dCond (dNot (dTest (dCall 1 (ph_is_sequence C_Likeness) (dCons (dVar 2) dNil)))) dNever dNext)
  (dSeq (dParN 3 4 (dLst dNil) (dLst dNil))
  (dFor (dAltI (dItems asLst (dVar 2)) (dItems asTup (dVar 2))) (hName 5) (dSeq (dCond (dOr (dNot (dTest (dCall 1 (ph_is_sequence C_Likeness) (dCons (dVar 5) dNil)))) (dTest (dOp oNe (dCl oLen (dCons (dVar 5) dNil)) (dC (.int 2))))) dNever dNext)
  (dSeq (dCond (dOr (dNot (dTest (dCall 3 (ph_is_whole C_Likeness) (dCons (dOp oIx (dVar 5) (dC (.int 0))) (dCons (dC (.int 0)) (dCons (dOp oSub (dVar 0) (dC (.int 1))) dNil)))))) (dNot (dTest (dCall 3 (ph_is_whole C_Likeness) (dCons (dOp oIx (dVar 5) (dC (.int 1))) (dCons (dC (.int 0)) (dCons (dOp oSub (dVar 1) (dC (.int 1))) dNil))))))) dNever dNext)
  (dSeq (dCond (dOr (dTest (dOpB (oIn false) (.ex (dOp oIx (dVar 5) (dC (.int 0)))) (.nm 3))) (dTest (dOpB (oIn false) (.ex (dOp oIx (dVar 5) (dC (.int 1)))) (.nm 4)))) dNever dNext)
  (dSeq (dAppend 3 (dOp oIx (dVar 5) (dC (.int 0))))
  (dAppend 4 (dOp oIx (dVar 5) (dC (.int 1)))))))))))
def nm_check_sizes : List Str := ["first", "second"]
def dl_check_sizes (C_Likeness : Addr) : DS := (dSeq (dCond (dNot (dTest (dCall 3 (ph_is_whole C_Likeness) (dCons (dVar 0) (dCons (dC (.int 0)) (dCons (dC (.int 40)) dNil)))))) dNever dNext)
  (dCond (dNot (dTest (dCall 3 (ph_is_whole C_Likeness) (dCons (dVar 1) (dCons (dC (.int 0)) (dCons (dC (.int 40)) dNil)))))) dNever dNext))
def nm_Likeness_M___init__ : List Str := ["self", "first", "second", "links", "link"]
def dl_Likeness_M___init__ (C_Likeness : Addr) : DIn := (jSeq (dDrop (dCall 2 (ph_check_sizes C_Likeness) (dCons (dVar 1) (dCons (dVar 2) dNil))))
  (jSeq (dDrop (dCall 3 (ph_check_links C_Likeness) (dCons (dVar 1) (dCons (dVar 2) (dCons (dVar 3) dNil)))))
  (jTail C_Likeness [("first", (dVar 1)), ("second", (dVar 2)), ("links", (dCl oTuple (dCons (dCl oSortP (dCons (dComp (dAltI (dItems asLst (dVar 3)) (dItems asTup (dVar 3))) (hName 4) dYes (dTup (dCons (dOp oIx (dVar 4) (dC (.int 0))) (dCons (dOp oIx (dVar 4) (dC (.int 1))) dNil))) [4]) dNil)) dNil)))])))
def nm_Likeness_M_then : List Str := ["self", "other", "ways", "links", "near", "far", "one"]
def dl_Likeness_M_then (C_Likeness : Addr) : DS := (dSeq (dCond (dOr (dNot (dTest (dUn (oIsC C_Likeness) (dVar 1)))) (dTest (dOp oNe (dFld C_Likeness "first" (dVar 1)) (dFld C_Likeness "second" (dVar 0))))) dNever dNext)
  (dSeq (dAsg (dDComp (dItems asTup (dFld C_Likeness "links" (dVar 1))) (hTup 2 (hCons (hName 4) (hCons (hName 5) hNil))) dYes (dVar 4) (dVar 5) [4, 5]) (hName 2))
  (dSeq (dAsg (dComp (dItems asTup (dFld C_Likeness "links" (dVar 0))) (hTup 2 (hCons (hName 6) (hCons (hName 4) hNil))) (dTest (dOp (oIn false) (dVar 4) (dVar 2))) (dTup (dCons (dVar 6) (dCons (dOp oGet (dVar 2) (dVar 4)) dNil))) [6, 4]) (hName 3))
  (dRet (dMake 3 (ph_Likeness_M___init__ C_Likeness) (dCons (dFld C_Likeness "first" (dVar 0)) (dCons (dFld C_Likeness "second" (dVar 1)) (dCons (dVar 3) dNil))))))))
def nm__law_is_whole : List Str := ["_law_thing", "_law_due"]
def dl__law_is_whole (C_Likeness : Addr) : DS := (dSeq (dCond (dTest (dOp (oIs false) (dVar 1) (dC .non))) (dRet (dOp (oIs false) (dVar 0) (dC .non))) dNext)
  (dRet (dAndV (dUn (oIsi "int") (dVar 0)) (dAndV (dNotV (dUn (oIsi "bool") (dVar 0))) (dOp oEq (dVar 0) (dVar 1))))))
def nm__law_told : List Str := ["_law_likeness", "_law_first", "_law_second", "_law_links_here"]
def dl__law_told (C_Likeness : Addr) : DS := (dSeq (dCond (dOr (dNot (dTest (dUn (oIsC C_Likeness) (dVar 0)))) (dOr (dNot (dTest (dUn (oIsi "tuple") (dFld C_Likeness "links" (dVar 0))))) (dTest (dOp oNe (dCl oList (dCons (dFld C_Likeness "links" (dVar 0)) dNil)) (dCl oSortP (dCons (dVar 3) dNil)))))) (dRet (dC (.bl false))) dNext)
  (dRet (dAndV (dCall 2 (ph__law_is_whole C_Likeness) (dCons (dFld C_Likeness "first" (dVar 0)) (dCons (dVar 1) dNil))) (dCall 2 (ph__law_is_whole C_Likeness) (dCons (dFld C_Likeness "second" (dVar 0)) (dCons (dVar 2) dNil))))))
def nm__law_chained : List Str := ["_law_one_here", "_law_other", "_law_found", "_law_near", "_law_middle", "_law_mark", "_law_far"]
def dl__law_chained (C_Likeness : Addr) : DS := (dSeq (dAsg (dLst dNil) (hName 2))
  (dSeq (dFor (dItems asLst (dVar 0)) (hTup 2 (hCons (hName 3) (hCons (hName 4) hNil))) (dAsg (dOp oAdd (dVar 2) (dComp (dItems asLst (dVar 1)) (hTup 2 (hCons (hName 5) (hCons (hName 6) hNil))) (dTest (dOp oEq (dVar 5) (dVar 4))) (dTup (dCons (dVar 3) (dCons (dVar 6) dNil))) [5, 6])) (hName 2)))
  (dRet (dCl oSortP (dCons (dVar 2) dNil)))))
def nm_Likeness_M___eq__ : List Str := ["self", "other"]
def dl_Likeness_M___eq__ (C_Likeness : Addr) : DS := (dSeq (dCond (dOr (dNot (dTest (dUn (oIsC C_Likeness) (dVar 1)))) (dTest (dOp oNe (dFld C_Likeness "links" (dVar 0)) (dFld C_Likeness "links" (dVar 1))))) (dRet (dC (.bl false))) dNext)
  (dRet (dAndV (dOp oEq (dFld C_Likeness "first" (dVar 0)) (dFld C_Likeness "first" (dVar 1))) (dOp oEq (dFld C_Likeness "second" (dVar 0)) (dFld C_Likeness "second" (dVar 1))))))
def nm_Likeness_M_flipped : List Str := ["self", "one", "other"]
def dl_Likeness_M_flipped (C_Likeness : Addr) : DS := (dRet (dMake 3 (ph_Likeness_M___init__ C_Likeness) (dCons (dFld C_Likeness "second" (dVar 0)) (dCons (dFld C_Likeness "first" (dVar 0)) (dCons (dComp (dItems asTup (dFld C_Likeness "links" (dVar 0))) (hTup 2 (hCons (hName 1) (hCons (hName 2) hNil))) dYes (dTup (dCons (dVar 2) (dCons (dVar 1) dNil))) [1, 2]) dNil)))))
def nm_Likeness_M_is_full : List Str := ["self"]
def dl_Likeness_M_is_full (C_Likeness : Addr) : DS := (dRet (dAndV (dOp oEq (dFld C_Likeness "first" (dVar 0)) (dFld C_Likeness "second" (dVar 0))) (dOp oEq (dCl oLen (dCons (dFld C_Likeness "links" (dVar 0)) dNil)) (dFld C_Likeness "first" (dVar 0)))))
def nm_law : List Str := ["_law_script", "_law_hand_here", "_law_most", "_law_sizes", "_law_rows", "_law_a", "_law_b", "_law_c", "_law_kept", "_law_ab", "_law_bc", "_law_ends", "_law_back", "_law_size", "_law_full", "_law_same", "_law_k", "_law_near", "_law_far", "_law_x"]
def dl_law (C_Likeness : Addr) : DS := (dSeq (dAsg (dCallH 1 1 (ph__law_one C_Likeness) (dCons (dLst (dCons (dC (.int 2)) (dCons (dC (.int 5)) (dCons (dC (.int 5)) (dCons (dC (.int 40)) dNil))))) dNil)) (hName 2))
  (dSeq (dAsg (dComp (dRange1 (dCons (dC (.int 4)) dNil)) (hName 16) dYes (dCallH 1 1 (ph__law_draw C_Likeness) (dCons (dOp oAdd (dVar 2) (dC (.int 1))) dNil)) [16]) (hName 3))
  (dSeq (dAsg (dComp (dRange1 (dCons (dC (.int 3)) dNil)) (hName 16) dYes (dCallH 1 3 (ph__law_links C_Likeness) (dCons (dOp oIx (dVar 3) (dVar 16)) (dCons (dOp oIx (dVar 3) (dOp oAdd (dVar 16) (dC (.int 1)))) (dCons (dCallH 1 1 (ph__law_one C_Likeness) (dCons (dLst (dCons (dC (.int 1)) (dCons (dC (.int 2)) (dCons (dVar 2) (dCons (dVar 2) dNil))))) dNil)) dNil)))) [16]) (hName 4))
  (dSeq (dAsg (dComp (dRange1 (dCons (dC (.int 3)) dNil)) (hName 16) dYes (dMake 3 (ph_Likeness_M___init__ C_Likeness) (dCons (dOp oIx (dVar 3) (dVar 16)) (dCons (dOp oIx (dVar 3) (dOp oAdd (dVar 16) (dC (.int 1)))) (dCons (dOp oIx (dVar 4) (dVar 16)) dNil)))) [16]) (hLst 3 (hCons (hName 5) (hCons (hName 6) (hCons (hName 7) hNil)))))
  (dSeq (dAsg (dOp oAdd (dOp oAdd (dCl oRepr (dCons (dFld C_Likeness "links" (dVar 5)) dNil)) (dCl oRepr (dCons (dFld C_Likeness "links" (dVar 6)) dNil))) (dCl oRepr (dCons (dFld C_Likeness "links" (dVar 7)) dNil))) (hName 8))
  (dSeq (dPar 9 10 (dCons (dMeth C_Likeness "then" 1 (ph_Likeness_M_then C_Likeness) (dVar 5) (dCons (dVar 6) dNil)) (dCons (dMeth C_Likeness "then" 1 (ph_Likeness_M_then C_Likeness) (dVar 6) (dCons (dVar 7) dNil)) dNil)))
  (dSeq (dCond (dNot (dTest (dCall 4 (ph__law_told C_Likeness) (dCons (dVar 9) (dCons (dOp oIx (dVar 3) (dC (.int 0))) (dCons (dOp oIx (dVar 3) (dC (.int 2))) (dCons (dCall 2 (ph__law_chained C_Likeness) (dCons (dOp oIx (dVar 4) (dC (.int 0))) (dCons (dOp oIx (dVar 4) (dC (.int 1))) dNil))) dNil))))))) (dRet (dC (.bl false))) dNext)
  (dSeq (dCond (dNot (dTest (dCall 4 (ph__law_told C_Likeness) (dCons (dVar 10) (dCons (dOp oIx (dVar 3) (dC (.int 1))) (dCons (dOp oIx (dVar 3) (dC (.int 3))) (dCons (dCall 2 (ph__law_chained C_Likeness) (dCons (dOp oIx (dVar 4) (dC (.int 1))) (dCons (dOp oIx (dVar 4) (dC (.int 2))) dNil))) dNil))))))) (dRet (dC (.bl false))) dNext)
  (dSeq (dCond (dOr (dTest (dOp (oOwn C_Likeness true (ph_Likeness_M___eq__ C_Likeness)) (dMeth C_Likeness "then" 1 (ph_Likeness_M_then C_Likeness) (dVar 9) (dCons (dVar 7) dNil)) (dMeth C_Likeness "then" 1 (ph_Likeness_M_then C_Likeness) (dVar 5) (dCons (dVar 10) dNil)))) (dNot (dTest (dCall 4 (ph__law_told C_Likeness) (dCons (dMeth C_Likeness "then" 1 (ph_Likeness_M_then C_Likeness) (dVar 9) (dCons (dVar 7) dNil)) (dCons (dOp oIx (dVar 3) (dC (.int 0))) (dCons (dOp oIx (dVar 3) (dC (.int 3))) (dCons (dCall 2 (ph__law_chained C_Likeness) (dCons (dCall 2 (ph__law_chained C_Likeness) (dCons (dOp oIx (dVar 4) (dC (.int 0))) (dCons (dOp oIx (dVar 4) (dC (.int 1))) dNil))) (dCons (dOp oIx (dVar 4) (dC (.int 2))) dNil))) dNil)))))))) (dRet (dC (.bl false))) dNext)
  (dSeq (dCond (dOr (dTest (dOp (oOwn C_Likeness true (ph_Likeness_M___eq__ C_Likeness)) (dMeth C_Likeness "flipped" 0 (ph_Likeness_M_flipped C_Likeness) (dVar 9) dNil) (dMeth C_Likeness "then" 1 (ph_Likeness_M_then C_Likeness) (dMeth C_Likeness "flipped" 0 (ph_Likeness_M_flipped C_Likeness) (dVar 6) dNil) (dCons (dMeth C_Likeness "flipped" 0 (ph_Likeness_M_flipped C_Likeness) (dVar 5) dNil) dNil)))) (dTest (dOp (oOwn C_Likeness true (ph_Likeness_M___eq__ C_Likeness)) (dMeth C_Likeness "flipped" 0 (ph_Likeness_M_flipped C_Likeness) (dMeth C_Likeness "flipped" 0 (ph_Likeness_M_flipped C_Likeness) (dVar 9) dNil) dNil) (dVar 9)))) (dRet (dC (.bl false))) dNext)
  (dSeq (dAsg (dComp (dItems asLst (dVar 3)) (hName 13) dYes (dMake 3 (ph_Likeness_M___init__ C_Likeness) (dCons (dVar 13) (dCons (dVar 13) (dCons (dComp (dRange1 (dCons (dVar 13) dNil)) (hName 16) dYes (dTup (dCons (dVar 16) (dCons (dVar 16) dNil))) [16]) dNil)))) [13]) (hName 11))
  (dSeq (dCond (dOr (dTest (dOp (oOwn C_Likeness true (ph_Likeness_M___eq__ C_Likeness)) (dMeth C_Likeness "then" 1 (ph_Likeness_M_then C_Likeness) (dOp oIx (dVar 11) (dC (.int 0))) (dCons (dVar 5) dNil)) (dVar 5))) (dOr (dTest (dOp (oOwn C_Likeness true (ph_Likeness_M___eq__ C_Likeness)) (dMeth C_Likeness "then" 1 (ph_Likeness_M_then C_Likeness) (dVar 5) (dCons (dOp oIx (dVar 11) (dC (.int 1))) dNil)) (dVar 5))) (dNot (dTest (dCl oAll (dCons (dComp (dItems asLst (dVar 11)) (hName 19) dYes (dOp (oIs false) (dProp C_Likeness (ph_Likeness_M_is_full C_Likeness) (dVar 19)) (dC (.bl true))) [19]) dNil)))))) (dRet (dC (.bl false))) dNext)
  (dSeq (dAsg (dMeth C_Likeness "then" 1 (ph_Likeness_M_then C_Likeness) (dVar 5) (dCons (dMeth C_Likeness "flipped" 0 (ph_Likeness_M_flipped C_Likeness) (dVar 5) dNil) dNil)) (hName 12))
  (dSeq (dCond (dNot (dTest (dCall 4 (ph__law_told C_Likeness) (dCons (dVar 12) (dCons (dOp oIx (dVar 3) (dC (.int 0))) (dCons (dOp oIx (dVar 3) (dC (.int 0))) (dCons (dComp (dItems asLst (dOp oIx (dVar 4) (dC (.int 0)))) (hTup 2 (hCons (hName 17) (hCons (hName 18) hNil))) dYes (dTup (dCons (dVar 17) (dCons (dVar 17) dNil))) [17, 18]) dNil))))))) (dRet (dC (.bl false))) dNext)
  (dSeq (dCond (dTest (dOp oNe (dOp (oOwn C_Likeness false (ph_Likeness_M___eq__ C_Likeness)) (dVar 12) (dOp oIx (dVar 11) (dC (.int 0)))) (dOp oEq (dCl oLen (dCons (dOp oIx (dVar 4) (dC (.int 0))) dNil)) (dOp oIx (dVar 3) (dC (.int 0)))))) (dRet (dC (.bl false))) dNext)
  (dSeq (dAsg (dOp oIx (dVar 3) (dC (.int 3))) (hName 13))
  (dSeq (dAsg (dComp (dRange1 (dCons (dC (.int 2)) dNil)) (hName 16) dYes (dMake 3 (ph_Likeness_M___init__ C_Likeness) (dCons (dVar 13) (dCons (dVar 13) (dCons (dCallH 1 3 (ph__law_links C_Likeness) (dCons (dVar 13) (dCons (dVar 13) (dCons (dVar 13) dNil)))) dNil)))) [16]) (hLst 2 (hCons (hName 14) (hCons (hName 15) hNil))))
  (dSeq (dCond (dOr (dTest (dOp (oOwn C_Likeness true (ph_Likeness_M___eq__ C_Likeness)) (dMeth C_Likeness "then" 1 (ph_Likeness_M_then C_Likeness) (dVar 14) (dCons (dMeth C_Likeness "flipped" 0 (ph_Likeness_M_flipped C_Likeness) (dVar 14) dNil) dNil)) (dOp oIx (dVar 11) (dC (.int 3))))) (dOr (dTest (dOp (oOwn C_Likeness true (ph_Likeness_M___eq__ C_Likeness)) (dMeth C_Likeness "then" 1 (ph_Likeness_M_then C_Likeness) (dMeth C_Likeness "flipped" 0 (ph_Likeness_M_flipped C_Likeness) (dVar 14) dNil) (dCons (dVar 14) dNil)) (dOp oIx (dVar 11) (dC (.int 3))))) (dTest (dOp (oIs true) (dProp C_Likeness (ph_Likeness_M_is_full C_Likeness) (dMeth C_Likeness "then" 1 (ph_Likeness_M_then C_Likeness) (dVar 14) (dCons (dVar 15) dNil))) (dC (.bl true)))))) (dRet (dC (.bl false))) dNext)
  (dSeq (dCond (dTest (dOp (oOwn C_Likeness true (ph_Likeness_M___eq__ C_Likeness)) (dMeth C_Likeness "then" 1 (ph_Likeness_M_then C_Likeness) (dMeth C_Likeness "then" 1 (ph_Likeness_M_then C_Likeness) (dVar 14) (dCons (dVar 15) dNil)) (dCons (dMeth C_Likeness "flipped" 0 (ph_Likeness_M_flipped C_Likeness) (dVar 15) dNil) dNil)) (dVar 14))) (dRet (dC (.bl false))) dNext)
  (dSeq (dCond (dAnd (dTest (dOp oGt (dVar 13) (dC (.int 0)))) (dTest (dOp (oIs true) (dProp C_Likeness (ph_Likeness_M_is_full C_Likeness) (dMeth C_Likeness "then" 1 (ph_Likeness_M_then C_Likeness) (dVar 14) (dCons (dMake 3 (ph_Likeness_M___init__ C_Likeness) (dCons (dVar 13) (dCons (dVar 13) (dCons (dSl (dFld C_Likeness "links" (dVar 15)) (dPart (dC (.int 1))) dNoPart) dNil)))) dNil))) (dC (.bl false))))) (dRet (dC (.bl false))) dNext)
  (dRet (dAndV (dOp oEq (dVar 8) (dOp oAdd (dOp oAdd (dCl oRepr (dCons (dFld C_Likeness "links" (dVar 5)) dNil)) (dCl oRepr (dCons (dFld C_Likeness "links" (dVar 6)) dNil))) (dCl oRepr (dCons (dFld C_Likeness "links" (dVar 7)) dNil)))) (dAndV (dOp (oOwn C_Likeness false (ph_Likeness_M___eq__ C_Likeness)) (dMeth C_Likeness "then" 1 (ph_Likeness_M_then C_Likeness) (dVar 5) (dCons (dVar 6) dNil)) (dVar 9)) (dOp (oOwn C_Likeness false (ph_Likeness_M___eq__ C_Likeness)) (dMeth C_Likeness "then" 1 (ph_Likeness_M_then C_Likeness) (dVar 9) (dCons (dVar 7) dNil)) (dMeth C_Likeness "then" 1 (ph_Likeness_M_then C_Likeness) (dVar 5) (dCons (dVar 10) dNil))))))))))))))))))))))))))
/-- what is left to show of the readings -/
structure Pure (C_Likeness : Addr) : Prop where
  p__law_hand : ∀ (ds : List D) (Q : Ret → Prop) (QE : D → Prop), ds.length = 1 → (ph__law_hand C_Likeness) ds Q QE → dl__law_hand C_Likeness (endsD Q QE) (startD nm__law_hand ds)
  p__law_mix : ∀ (ds : List D) (Q : Ret → Prop) (QE : D → Prop), ds.length = 2 → (ph__law_mix C_Likeness) ds Q QE → dl__law_mix C_Likeness (endsD Q QE) (startD nm__law_mix ds)
  p__law_one : ∀ (ds : List D) (Q : Ret → Prop) (QE : D → Prop), ds.length = 1 → (ph__law_one C_Likeness) ds Q QE → dl__law_one C_Likeness (endsD Q QE) (startH nm__law_one ds)
  p__law_links : ∀ (ds : List D) (Q : Ret → Prop) (QE : D → Prop), ds.length = 3 → (ph__law_links C_Likeness) ds Q QE → dl__law_links C_Likeness (endsD Q QE) (startH nm__law_links ds)
  p_is_sequence : ∀ (ds : List D) (Q : Ret → Prop) (QE : D → Prop), ds.length = 1 → (ph_is_sequence C_Likeness) ds Q QE → dl_is_sequence C_Likeness (endsD Q QE) (startD nm_is_sequence ds)
  p_is_whole : ∀ (ds : List D) (Q : Ret → Prop) (QE : D → Prop), ds.length = 3 → (ph_is_whole C_Likeness) ds Q QE → dl_is_whole C_Likeness (endsD Q QE) (startD nm_is_whole ds)
  p_check_links : ∀ (ds : List D) (Q : Ret → Prop) (QE : D → Prop), ds.length = 3 → (ph_check_links C_Likeness) ds Q QE → dl_check_links C_Likeness (endsD Q QE) (startD nm_check_links ds)
  p_check_sizes : ∀ (ds : List D) (Q : Ret → Prop) (QE : D → Prop), ds.length = 2 → (ph_check_sizes C_Likeness) ds Q QE → dl_check_sizes C_Likeness (endsD Q QE) (startD nm_check_sizes ds)
  p_Likeness_M___init__ : ∀ (ds : List D) (Q : D → Prop) (QE : D → Prop), ds.length = 3 → (ph_Likeness_M___init__ C_Likeness) ds Q QE → dl_Likeness_M___init__ C_Likeness (endsD (fun _ => False) QE) Q (startI nm_Likeness_M___init__ ds)
  p_Likeness_M_then : ∀ (ds : List D) (Q : Ret → Prop) (QE : D → Prop), ds.length = 2 → (ph_Likeness_M_then C_Likeness) ds Q QE → dl_Likeness_M_then C_Likeness (endsD Q QE) (startD nm_Likeness_M_then ds)
  p__law_is_whole : ∀ (ds : List D) (Q : Ret → Prop) (QE : D → Prop), ds.length = 2 → (ph__law_is_whole C_Likeness) ds Q QE → dl__law_is_whole C_Likeness (endsD Q QE) (startD nm__law_is_whole ds)
  p__law_told : ∀ (ds : List D) (Q : Ret → Prop) (QE : D → Prop), ds.length = 4 → (ph__law_told C_Likeness) ds Q QE → dl__law_told C_Likeness (endsD Q QE) (startD nm__law_told ds)
  p__law_chained : ∀ (ds : List D) (Q : Ret → Prop) (QE : D → Prop), ds.length = 2 → (ph__law_chained C_Likeness) ds Q QE → dl__law_chained C_Likeness (endsD Q QE) (startD nm__law_chained ds)
  p_Likeness_M___eq__ : ∀ (ds : List D) (Q : Ret → Prop) (QE : D → Prop), ds.length = 2 → (ph_Likeness_M___eq__ C_Likeness) ds Q QE → dl_Likeness_M___eq__ C_Likeness (endsD Q QE) (startD nm_Likeness_M___eq__ ds)
  p_Likeness_M_flipped : ∀ (ds : List D) (Q : Ret → Prop) (QE : D → Prop), ds.length = 1 → (ph_Likeness_M_flipped C_Likeness) ds Q QE → dl_Likeness_M_flipped C_Likeness (endsD Q QE) (startD nm_Likeness_M_flipped ds)
  p_Likeness_M_is_full : ∀ (ds : List D) (Q : Ret → Prop) (QE : D → Prop), ds.length = 1 → (ph_Likeness_M_is_full C_Likeness) ds Q QE → dl_Likeness_M_is_full C_Likeness (endsD Q QE) (startD nm_Likeness_M_is_full ds)
  p_law : ∀ ns : List Int, ns.length ≤ 63 → dl_law C_Likeness (endsD (fun r => r = .val (.bl true)) fun _ => False) (lawSl nm_law ns)
end Kb
namespace Kb
open PySem L2 Dx
def top (i : Nat) : Stmt := PySem.Challenge.pw_searchback_k25_whole_likenesses_lead_on.main.body.getD i (.Pass ⟨0, 0, 0, 0⟩)
abbrev s__law_hand : Stmt := top 14
abbrev s__law_mix : Stmt := top 13
abbrev s__law_draw : Stmt := top 15
abbrev s__law_one : Stmt := top 16
abbrev s__law_links : Stmt := top 18
abbrev s_is_sequence : Stmt := top 6
abbrev s_is_whole : Stmt := top 5
abbrev s_check_links : Stmt := top 10
abbrev s_check_sizes : Stmt := top 9
abbrev s_Likeness_M___init__ : Stmt := inClass (top 11) 0
abbrev s_Likeness_M_then : Stmt := inClass (top 11) 4
abbrev s__law_is_whole : Stmt := top 17
abbrev s__law_told : Stmt := top 20
abbrev s__law_chained : Stmt := top 19
abbrev s_Likeness_M___eq__ : Stmt := inClass (top 11) 7
abbrev s_Likeness_M_flipped : Stmt := inClass (top 11) 3
abbrev s_Likeness_M_is_full : Stmt := inClass (top 11) 1
abbrev s_law : Stmt := top 21
structure Txt (K : Fg) (mg : Str → Option Value) (C_Likeness : Addr) : Prop where
  d__law_hand : DefAt K mg "_law_hand" s__law_hand ["_law_script"]
  d__law_mix : DefAt K mg "_law_mix" s__law_mix ["_law_number", "_law_turn"]
  d__law_draw : DefAt K mg "_law_draw" s__law_draw ["_law_hand_here", "_law_many"]
  d__law_one : DefAt K mg "_law_one" s__law_one ["_law_hand_here", "_law_rows"]
  d__law_links : DefAt K mg "_law_links" s__law_links ["_law_hand_here", "_law_first", "_law_second", "_law_many"]
  d_is_sequence : DefAt K mg "is_sequence" s_is_sequence ["thing"]
  d_is_whole : DefAt K mg "is_whole" s_is_whole ["thing", "low", "high"]
  d_check_links : DefAt K mg "check_links" s_check_links ["first", "second", "links"]
  d_check_sizes : DefAt K mg "check_sizes" s_check_sizes ["first", "second"]
  d_Likeness_M___init__ : InitAt K C_Likeness "Likeness.__init__" s_Likeness_M___init__ ["self", "first", "second", "links"]
  d_Likeness_M_then : MethAt K C_Likeness "then" "Likeness.then" s_Likeness_M_then ["self", "other"]
  d__law_is_whole : DefAt K mg "_law_is_whole" s__law_is_whole ["_law_thing", "_law_due"]
  d__law_told : DefAt K mg "_law_told" s__law_told ["_law_likeness", "_law_first", "_law_second", "_law_links_here"]
  d__law_chained : DefAt K mg "_law_chained" s__law_chained ["_law_one_here", "_law_other"]
  d_Likeness_M___eq__ : EqAt K C_Likeness "Likeness.__eq__" s_Likeness_M___eq__ ["self", "other"]
  d_Likeness_M_flipped : MethAt K C_Likeness "flipped" "Likeness.flipped" s_Likeness_M_flipped ["self"]
  d_Likeness_M_is_full : PropAt K C_Likeness "is_full" "Likeness.is_full" s_Likeness_M_is_full ["self"]
  k_Likeness : ClsAt K mg "Likeness" C_Likeness
  n_Likeness_first : NoAttr K C_Likeness "first"
  n_Likeness_links : NoAttr K C_Likeness "links"
  n_Likeness_second : NoAttr K C_Likeness "second"
  z_abs : mg "abs" = none
  z_all : mg "all" = none
  z_bool : mg "bool" = none
  z_enumerate : mg "enumerate" = none
  z_int : mg "int" = none
  z_isinstance : mg "isinstance" = none
  z_len : mg "len" = none
  z_list : mg "list" = none
  z_min : mg "min" = none
  z_range : mg "range" = none
  z_repr : mg "repr" = none
  z_sorted : mg "sorted" = none
  z_tuple : mg "tuple" = none
  c_MOST_LINKED : ∃ t, mg "MOST_LINKED" = some (.int 40 t)
theorem sc__law_hand : FnScope nm__law_hand ["_law_script"] (defScope s__law_hand) := ⟨rfl, rfl, rfl, by decide +kernel, rfl, by decide +kernel, by decide +kernel⟩
theorem sc__law_mix : FnScope nm__law_mix ["_law_number", "_law_turn"] (defScope s__law_mix) := ⟨rfl, rfl, rfl, by decide +kernel, rfl, by decide +kernel, by decide +kernel⟩
theorem sc__law_draw : FnScope nm__law_draw ["_law_hand_here", "_law_many"] (defScope s__law_draw) := ⟨rfl, rfl, rfl, by decide +kernel, rfl, by decide +kernel, by decide +kernel⟩
theorem sc__law_one : FnScope nm__law_one ["_law_hand_here", "_law_rows"] (defScope s__law_one) := ⟨rfl, rfl, rfl, by decide +kernel, rfl, by decide +kernel, by decide +kernel⟩
theorem sc__law_links : FnScope nm__law_links ["_law_hand_here", "_law_first", "_law_second", "_law_many"] (defScope s__law_links) := ⟨rfl, rfl, rfl, by decide +kernel, rfl, by decide +kernel, by decide +kernel⟩
theorem sc_is_sequence : FnScope nm_is_sequence ["thing"] (defScope s_is_sequence) := ⟨rfl, rfl, rfl, by decide +kernel, rfl, by decide +kernel, by decide +kernel⟩
theorem sc_is_whole : FnScope nm_is_whole ["thing", "low", "high"] (defScope s_is_whole) := ⟨rfl, rfl, rfl, by decide +kernel, rfl, by decide +kernel, by decide +kernel⟩
theorem sc_check_links : FnScope nm_check_links ["first", "second", "links"] (defScope s_check_links) := ⟨rfl, rfl, rfl, by decide +kernel, rfl, by decide +kernel, by decide +kernel⟩
theorem sc_check_sizes : FnScope nm_check_sizes ["first", "second"] (defScope s_check_sizes) := ⟨rfl, rfl, rfl, by decide +kernel, rfl, by decide +kernel, by decide +kernel⟩
theorem sc_Likeness_M___init__ : FnScope nm_Likeness_M___init__ ["self", "first", "second", "links"] (defScope s_Likeness_M___init__) := ⟨rfl, rfl, rfl, by decide +kernel, rfl, by decide +kernel, by decide +kernel⟩
theorem sc_Likeness_M_then : FnScope nm_Likeness_M_then ["self", "other"] (defScope s_Likeness_M_then) := ⟨rfl, rfl, rfl, by decide +kernel, rfl, by decide +kernel, by decide +kernel⟩
theorem sc__law_is_whole : FnScope nm__law_is_whole ["_law_thing", "_law_due"] (defScope s__law_is_whole) := ⟨rfl, rfl, rfl, by decide +kernel, rfl, by decide +kernel, by decide +kernel⟩
theorem sc__law_told : FnScope nm__law_told ["_law_likeness", "_law_first", "_law_second", "_law_links_here"] (defScope s__law_told) := ⟨rfl, rfl, rfl, by decide +kernel, rfl, by decide +kernel, by decide +kernel⟩
theorem sc__law_chained : FnScope nm__law_chained ["_law_one_here", "_law_other"] (defScope s__law_chained) := ⟨rfl, rfl, rfl, by decide +kernel, rfl, by decide +kernel, by decide +kernel⟩
theorem sc_Likeness_M___eq__ : FnScope nm_Likeness_M___eq__ ["self", "other"] (defScope s_Likeness_M___eq__) := ⟨rfl, rfl, rfl, by decide +kernel, rfl, by decide +kernel, by decide +kernel⟩
theorem sc_Likeness_M_flipped : FnScope nm_Likeness_M_flipped ["self"] (defScope s_Likeness_M_flipped) := ⟨rfl, rfl, rfl, by decide +kernel, rfl, by decide +kernel, by decide +kernel⟩
theorem sc_Likeness_M_is_full : FnScope nm_Likeness_M_is_full ["self"] (defScope s_Likeness_M_is_full) := ⟨rfl, rfl, rfl, by decide +kernel, rfl, by decide +kernel, by decide +kernel⟩
theorem sc_law : FnScope nm_law ["_law_script"] (defScope s_law) := ⟨rfl, rfl, rfl, by decide +kernel, rfl, by decide +kernel, by decide +kernel⟩
section
variable {P : Program} {w : World} {K : Fg} {mg : Str → Option Value} {base : Heap} {C_Likeness : Addr}
theorem q__law_hand (T : Txt K mg C_Likeness)  (f : Addr) : BodyD P w K mg base nm__law_hand "_law_hand" s__law_hand f 1 (dl__law_hand C_Likeness) := by
  intro cdv A outer s H E F hr
  have S := sc__law_hand
  exact (qss_cons (qs_set (ps_set (i := 1) S.nd (by rfl) (by first | exact .inl rfl | exact .inr rfl) qe_int.run))
      (qss_cons (qs_for (passes_of (by rfl)) (by rfl) (qi_enum (by rfl) T.z_enumerate (qa_cons (qe_var (pv 0)) qa_nil)) (qg_tup (by rfl) (qgs_cons (qg_name (pg_name S.nd (i := 2) (by rfl) (by first | exact .inl rfl | exact .inr rfl))) (qgs_cons (qg_name (pg_name S.nd (i := 3) (by rfl) (by first | exact .inl rfl | exact .inr rfl))) qgs_nil))) (qss_one (qs_set (ps_set (i := 1) S.nd (by rfl) (by first | exact .inl rfl | exact .inr rfl) (qe_op op_mod rf_mod (qe_callT call_int1 rf_int (by rfl) T.z_int bb_int (qa_cons (qe_op op_addD rf_add (qe_op op_mulD rf_mul (qe_var (pv 1)) qe_int) (qe_op op_mulD rf_mul (qe_callT call_int1 rf_int (by rfl) T.z_int bb_int (qa_cons (qe_var (pv 3)) qa_nil)) (qe_op op_addD rf_add (qe_var (pv 2)) qe_int))) qa_nil)) qe_int).run))))
      (qss_one (qs_retO (qn_lst (qa_cons (qe_comp (own := [("_law_cell", 3)]) (by rfl) S.nd (qi_list (qe_var (pv 0))) (show BlkOk nm__law_hand (defScope s__law_hand) _ [("_law_cell", 3)] from ⟨rfl, by decide +kernel, by decide +kernel, by decide +kernel, by decide +kernel⟩) ⟨(fun _ _ _ _ _ _ => (qgc_name (pg_name S.nd (i := 3) (by rfl) (by first | exact .inl rfl | exact .inr rfl)))), (fun _ _ _ _ _ _ => qts_nil), (fun _ _ _ _ _ _ => (qe_callB call_abs rf_abs (by rfl) T.z_abs bb_abs (qa_cons (qe_callT call_int1 rf_int (by rfl) T.z_int bb_int (qa_cons (qe_var (pv 3)) qa_nil)) qa_nil)))⟩) (qa_cons qe_int (qa_cons qe_int (qa_cons (qe_var (pv 1)) qa_nil)))))))))
theorem q__law_mix (T : Txt K mg C_Likeness)  (f : Addr) : BodyD P w K mg base nm__law_mix "_law_mix" s__law_mix f 1 (dl__law_mix C_Likeness) := by
  intro cdv A outer s H E F hr
  have S := sc__law_mix
  exact (qss_cons (qs_set (ps_set (i := 2) S.nd (by rfl) (by first | exact .inl rfl | exact .inr rfl) (qe_op op_mod rf_mod (qe_callT call_int1 rf_int (by rfl) T.z_int bb_int (qa_cons (qe_op op_addD rf_add (qe_op op_addD rf_add (qe_op op_mulD rf_mul (qe_var (pv 0)) qe_int) (qe_op op_mulD rf_mul (qe_var (pv 1)) qe_int)) qe_int) qa_nil)) qe_int).run))
      (qss_cons (qs_set (ps_set (i := 3) S.nd (by rfl) (by first | exact .inl rfl | exact .inr rfl) (qe_op op_mod rf_mod (qe_callT call_int1 rf_int (by rfl) T.z_int bb_int (qa_cons (qe_op op_addD rf_add (qe_op op_addD rf_add (qe_op op_mulD rf_mul (qe_var (pv 2)) (qe_var (pv 2))) (qe_op op_mulD rf_mul (qe_op op_fdivW rf_fdiv (qe_var (pv 2)) qe_int) qe_int)) (qe_op op_mulD rf_mul (qe_var (pv 1)) qe_int)) qa_nil)) qe_int).run))
      (qss_one (qs_ret (qe_op op_fdivW rf_fdiv (qe_op op_mod rf_mod (qe_callT call_int1 rf_int (by rfl) T.z_int bb_int (qa_cons (qe_op op_addD rf_add (qe_op op_fdivW rf_fdiv (qe_op op_mulD rf_mul (qe_var (pv 3)) (qe_var (pv 3))) qe_int) (qe_var (pv 2))) qa_nil)) qe_int) qe_int)))))
theorem ok__law_draw (T : Txt K mg C_Likeness) (o__law_mix : OkP P w K mg base 2 "_law_mix" 2 (ph__law_mix C_Likeness)) : OkH P w K mg base 4 "_law_draw" 1 (ph__law_draw C_Likeness) := by
  obtain ⟨f, fd, Fu, bi, hm⟩ := T.d__law_draw.ex
  obtain ⟨fM, fdM, psM, G, mM, kM, bM⟩ := o__law_mix
  have S := sc__law_draw
  exact draw_ok (k := 3) rfl Fu bi hm S fun cdv A outer s H E hr => by
    have hM := hr.mono (show 2 ≤ 3 by decide)
    exact pss_cons (ps_if (pw_and (pt_cmpR op_eq (pe_ix ix_seq (pv 0) pe_int (fun _ _ => rfl)) pe_int (nomark _)) (pw_and1 (pt_cmpR op_lt (pe_ix ix_seq (pv 0) pe_int (fun _ _ => rfl)) (pe_callB call_len_seq (by rfl) T.z_len bb_len (pa_cons (pe_ix ix_seq (pv 0) pe_int (fun _ _ => rfl)) pa_nil)) (nomark _)))).pt (pss_cons (ps_set (i := 2) S.nd (by rfl) (by first | exact .inl rfl | exact .inr rfl) (pe_ix ix_seq (pe_ix ix_seq (pv 0) pe_int (fun _ _ => rfl)) (pe_ix ix_seq (pv 0) pe_int (fun _ _ => rfl)) (fun _ _ => rfl))) (pss_cons (ps_asg (pe_op op_add (pe_ix ix_seq (pv 0) pe_int (fun _ _ => rfl)) pe_int) (pg_sub (pv 0) pe_int set_list)) (pss_cons (ps_if (pt_cmpR op_lt (pv 2) (pe_op op_pow pe_int pe_int) (nomark _)) (pss_one (ps_ret (pe_op op_mod (pe_callTy call_int1 (by rfl) T.z_int bb_int (pa_cons (pe_callS G hM (by rfl) mM kM bM (fun σ => passAt (takes_of (by rfl) (by rfl) (by rfl) (by rfl)) σ) (pa_cons (pe_op op_mod (pe_callTy call_int1 (by rfl) T.z_int bb_int (pa_cons (pv 2) pa_nil)) pe_int) (pa_cons (pe_ix ix_seq (pv 0) pe_int (fun _ _ => rfl)) pa_nil))) pa_nil)) (pv 1)))) pss_nil) (pss_one (ps_asg (pv 2) (pg_sub (pv 0) pe_int set_list)))))) pss_nil) (pss_cons (ps_if (pt_cmpR op_gt (pe_ix ix_seq (pv 0) pe_int (fun _ _ => rfl)) pe_int (nomark _)) (pss_cons (ps_set (i := 3) S.nd (by rfl) (by first | exact .inl rfl | exact .inr rfl) (pe_ix ix_seq (pv 0) pe_int (fun _ _ => rfl))) (pss_cons (ps_asg (pe_op op_fdivW (pv 3) (pv 1)) (pg_sub (pv 0) pe_int set_list)) (pss_one (ps_ret (pe_op op_mod (pe_callTy call_int1 (by rfl) T.z_int bb_int (pa_cons (pv 3) pa_nil)) (pv 1)))))) pss_nil) (pss_cons (ps_asg (pe_op op_mod (pe_callTy call_int1 (by rfl) T.z_int bb_int (pa_cons (pe_op op_add (pe_ix ix_seq (pv 0) pe_int (fun _ _ => rfl)) pe_int) pa_nil)) pe_int) (pg_sub (pv 0) pe_int set_list)) (pss_one (ps_ret (pe_op op_mod (pe_callTy call_int1 (by rfl) T.z_int bb_int (pa_cons (pe_callS G hM (by rfl) mM kM bM (fun σ => passAt (takes_of (by rfl) (by rfl) (by rfl) (by rfl)) σ) (pa_cons (pe_ix ix_seq (pv 0) pe_int (fun _ _ => rfl)) (pa_cons (pe_ix ix_seq (pv 0) pe_int (fun _ _ => rfl)) pa_nil))) pa_nil)) (pv 1))))))
theorem q__law_one (T : Txt K mg C_Likeness) (o__law_draw : OkH P w K mg base 4 "_law_draw" 1 (ph__law_draw C_Likeness)) (f : Addr) : BodyD P w K mg base nm__law_one "_law_one" s__law_one f 5 (dl__law_one C_Likeness) := by
  intro cdv A outer s H E F hr
  have S := sc__law_one
  exact (qss_one (qs_ret (qe_ix (qe_var (pv 1)) (qe_cH o__law_draw (hr.mono (by decide)) (by rfl) (takes_of (by rfl) (by rfl) (by rfl) (by rfl)) (pv 0) (qa_cons (qe_callB Dx.call_lenD rf_len (by rfl) T.z_len bb_len (qa_cons (qe_var (pv 1)) qa_nil)) qa_nil)))))
theorem q__law_links (T : Txt K mg C_Likeness) (o__law_draw : OkH P w K mg base 4 "_law_draw" 1 (ph__law_draw C_Likeness)) (f : Addr) : BodyD P w K mg base nm__law_links "_law_links" s__law_links f 5 (dl__law_links C_Likeness) := by
  intro cdv A outer s H E F hr
  have S := sc__law_links
  exact (qss_cons (qs_parN3 (by decide) (by decide) (by decide) (qn_listRg (by rfl) (by rfl) T.z_list (by rfl) T.z_range (qe_var (pv 1))) (fun F => (qn_listRg (by rfl) (by rfl) T.z_list (by rfl) T.z_range (qe_var (pv 2)))) (fun F => (qn_lst qa_nil)) (by rfl) (by rfl) (by rfl) (fun t h => ps_par3 (i := 4) (j := 5) (l := 6) (by rfl) S.nd (by rfl) (by rfl) (by rfl) (by decide) (by decide) (by decide) (by rfl) (by rfl) (by rfl) h (by rfl)))
      (qss_cons (qs_for (passes_of (by rfl)) (by rfl) (qi_range1 (by rfl) T.z_range (qa_cons (qe_callB (call_min3Nu (by rfl)) rf_min3 (by rfl) T.z_min bb_min (qa_cons (qe_var (pv 1)) (qa_cons (qe_var (pv 2)) (qa_cons (qe_var (pv 3)) qa_nil)))) qa_nil)) (qg_name (pg_name S.nd (i := 7) (by rfl) (by first | exact .inl rfl | exact .inr rfl))) (qss_one (qs_append (ps_expr (pe_bm PySem.F.plainAttrs_list PySem.F.slot_list_append PySem.F.type_list_append mt_append (pv 6) (pa_cons (qe_tup (qa_cons (qe_popAt (pe_bm PySem.F.plainAttrs_list PySem.F.slot_list_pop PySem.F.type_list_pop mt_popAt (pv 4) (pa_cons (qe_cH o__law_draw (hr.mono (by decide)) (by rfl) (takes_of (by rfl) (by rfl) (by rfl) (by rfl)) (pv 0) (qa_cons (qe_callBB Dx.call_lenD rf_len (by rfl) T.z_len bb_len (qbs_cons (qb_nm (pv 4)) qbs_nil)) qa_nil)).run pa_nil))) (qa_cons (qe_popAt (pe_bm PySem.F.plainAttrs_list PySem.F.slot_list_pop PySem.F.type_list_pop mt_popAt (pv 5) (pa_cons (qe_cH o__law_draw (hr.mono (by decide)) (by rfl) (takes_of (by rfl) (by rfl) (by rfl) (by rfl)) (pv 0) (qa_cons (qe_callBB Dx.call_lenD rf_len (by rfl) T.z_len bb_len (qbs_cons (qb_nm (pv 5)) qbs_nil)) qa_nil)).run pa_nil))) qa_nil))).run pa_nil))))))
      (qss_one (qs_retOwn (pv 6)))))
theorem q_is_sequence (T : Txt K mg C_Likeness)  (f : Addr) : BodyD P w K mg base nm_is_sequence "is_sequence" s_is_sequence f 1 (dl_is_sequence C_Likeness) := by
  intro cdv A outer s H E F hr
  have S := sc_is_sequence
  exact (qss_one (qs_ret (qe_isi2 (T' := "list") (U' := "tuple") (by rfl) T.z_isinstance bb_isinstance (by rfl) T.z_list bb_list (by decide) (by rfl) T.z_tuple bb_tuple (by decide) (qe_var (pv 0)))))
theorem q_is_whole (T : Txt K mg C_Likeness)  (f : Addr) : BodyD P w K mg base nm_is_whole "is_whole" s_is_whole f 1 (dl_is_whole C_Likeness) := by
  intro cdv A outer s H E F hr
  have S := sc_is_whole
  exact (qss_one (qs_ret (qe_and (qe_isi (T' := "int") (by rfl) T.z_isinstance bb_isinstance (by rfl) T.z_int bb_int (by decide) (qe_var (pv 0))) (qe_and (qe_not (qe_isi (T' := "bool") (by rfl) T.z_isinstance bb_isinstance (by rfl) T.z_bool bb_bool (by decide) (qe_var (pv 0)))) (qe_one (qe_chain op_le rf_le op_le rf_le (qe_var (pv 1)) (qe_var (pv 0)) (qe_var (pv 2))))))))
theorem q_check_links (T : Txt K mg C_Likeness) (o_is_sequence : OkP P w K mg base 2 "is_sequence" 1 (ph_is_sequence C_Likeness)) (o_is_whole : OkP P w K mg base 2 "is_whole" 3 (ph_is_whole C_Likeness)) (f : Addr) : BodyD P w K mg base nm_check_links "check_links" s_check_links f 3 (dl_check_links C_Likeness) := by
  intro cdv A outer s H E F hr
  have S := sc_check_links
  exact (qss_cons (qs_if (qt_not (qt_val (qe_cP o_is_sequence (hr.mono (by decide)) (by rfl) (takes_of (by rfl) (by rfl) (by rfl) (by rfl)) (qa_cons (qe_var (pv 2)) qa_nil)))) (qss_one qs_never) qss_nil)
      (qss_cons (qs_parN (by decide) (qn_lst qa_nil) (fun F => (qn_lst qa_nil)) (by rfl) (by rfl) (fun t h => ps_par (i := 3) (j := 4) (by rfl) S.nd (by rfl) (by rfl) (by decide) (by rfl) (by rfl) h (by rfl)))
      (qss_one (qs_for (passes_of (by rfl)) (by rfl) (qi_alt (qi_list (qe_var (pv 2))) (qi_tup (qe_var (pv 2)))) (qg_name (pg_name S.nd (i := 5) (by rfl) (by first | exact .inl rfl | exact .inr rfl))) (qss_cons (qs_if (qw_or (qt_not (qt_val (qe_cP o_is_sequence (hr.mono (by decide)) (by rfl) (takes_of (by rfl) (by rfl) (by rfl) (by rfl)) (qa_cons (qe_var (pv 5)) qa_nil)))) (qw_or1 (qt_cmp (op_neD hr.units) rf_ne (qe_callB Dx.call_lenD rf_len (by rfl) T.z_len bb_len (qa_cons (qe_var (pv 5)) qa_nil)) qe_int (nomark _)))).qt (qss_one qs_never) qss_nil)
      (qss_cons (qs_if (qw_or (qt_not (qt_val (qe_cP o_is_whole (hr.mono (by decide)) (by rfl) (takes_of (by rfl) (by rfl) (by rfl) (by rfl)) (qa_cons (qe_ix (qe_var (pv 5)) qe_int) (qa_cons qe_int (qa_cons (qe_op op_sub rf_sub (qe_var (pv 0)) qe_int) qa_nil)))))) (qw_or1 (qt_not (qt_val (qe_cP o_is_whole (hr.mono (by decide)) (by rfl) (takes_of (by rfl) (by rfl) (by rfl) (by rfl)) (qa_cons (qe_ix (qe_var (pv 5)) qe_int) (qa_cons qe_int (qa_cons (qe_op op_sub rf_sub (qe_var (pv 1)) qe_int) qa_nil)))))))).qt (qss_one qs_never) qss_nil)
      (qss_cons (qs_if (qw_or (qt_cmpB (op_inD (hu_of hr)) rf_in (qb_ex (qe_ix (qe_var (pv 5)) qe_int)) (qb_nm (pv 3)) (by rfl)) (qw_or1 (qt_cmpB (op_inD (hu_of hr)) rf_in (qb_ex (qe_ix (qe_var (pv 5)) qe_int)) (qb_nm (pv 4)) (by rfl)))).qt (qss_one qs_never) qss_nil)
      (qss_cons (qs_append (ps_expr (pe_bm PySem.F.plainAttrs_list PySem.F.slot_list_append PySem.F.type_list_append mt_append (pv 3) (pa_cons (qe_ix (qe_var (pv 5)) qe_int).run pa_nil))))
      (qss_one (qs_append (ps_expr (pe_bm PySem.F.plainAttrs_list PySem.F.slot_list_append PySem.F.type_list_append mt_append (pv 4) (pa_cons (qe_ix (qe_var (pv 5)) qe_int).run pa_nil)))))))))))))
theorem q_check_sizes (T : Txt K mg C_Likeness) (o_is_whole : OkP P w K mg base 2 "is_whole" 3 (ph_is_whole C_Likeness)) (f : Addr) : BodyD P w K mg base nm_check_sizes "check_sizes" s_check_sizes f 3 (dl_check_sizes C_Likeness) := by
  intro cdv A outer s H E F hr
  have S := sc_check_sizes
  exact (qss_cons (qs_if (qt_not (qt_val (qe_cP o_is_whole (hr.mono (by decide)) (by rfl) (takes_of (by rfl) (by rfl) (by rfl) (by rfl)) (qa_cons (qe_var (pv 0)) (qa_cons qe_int (qa_cons (qe_gInt (by rfl) T.c_MOST_LINKED) qa_nil)))))) (qss_one qs_never) qss_nil)
      (qss_one (qs_if (qt_not (qt_val (qe_cP o_is_whole (hr.mono (by decide)) (by rfl) (takes_of (by rfl) (by rfl) (by rfl) (by rfl)) (qa_cons (qe_var (pv 1)) (qa_cons qe_int (qa_cons (qe_gInt (by rfl) T.c_MOST_LINKED) qa_nil)))))) (qss_one qs_never) qss_nil)))
theorem q_Likeness_M___init__ (T : Txt K mg C_Likeness) (o_check_links : OkP P w K mg base 4 "check_links" 3 (ph_check_links C_Likeness)) (o_check_sizes : OkP P w K mg base 4 "check_sizes" 2 (ph_check_sizes C_Likeness)) (f : Addr) : BodyI P w K mg base nm_Likeness_M___init__ "Likeness.__init__" s_Likeness_M___init__ f C_Likeness 5 (dl_Likeness_M___init__ C_Likeness) := by
  intro cdv A outer s H E F hr
  have S := sc_Likeness_M___init__
  exact (qin_cons (qs_expr (qe_cP o_check_sizes (hr.mono (by decide)) (by rfl) (takes_of (by rfl) (by rfl) (by rfl) (by rfl)) (qa_cons (qe_var (pv 1)) (qa_cons (qe_var (pv 2)) qa_nil))))
      (qin_cons (qs_expr (qe_cP o_check_links (hr.mono (by decide)) (by rfl) (takes_of (by rfl) (by rfl) (by rfl) (by rfl)) (qa_cons (qe_var (pv 1)) (qa_cons (qe_var (pv 2)) (qa_cons (qe_var (pv 3)) qa_nil)))))
      (qin_tail (qtl_cons T.k_Likeness.cl T.n_Likeness_first (fun F => ps_fld (pv 0) (qe_var (pv 1)).run (by rfl)) (qtl_cons T.k_Likeness.cl T.n_Likeness_second (fun F => ps_fld (pv 0) (qe_var (pv 2)).run (by rfl)) (qtl_cons T.k_Likeness.cl T.n_Likeness_links (fun F => ps_fld (pv 0) (qe_callT call_tuple_of rf_tuple (by rfl) T.z_tuple bb_tuple (qa_cons (qe_callB call_sortD rf_sortD (by rfl) T.z_sorted bb_sorted (qa_cons (qe_comp (own := [("link", 4)]) (by rfl) S.nd (qi_alt (qi_list (qe_var (pv 3))) (qi_tup (qe_var (pv 3)))) (show BlkOk nm_Likeness_M___init__ (defScope s_Likeness_M___init__) _ [("link", 4)] from ⟨rfl, by decide +kernel, by decide +kernel, by decide +kernel, by decide +kernel⟩) ⟨(fun _ _ _ _ _ _ => (qgc_name (pg_name S.nd (i := 4) (by rfl) (by first | exact .inl rfl | exact .inr rfl)))), (fun _ _ _ _ _ _ => qts_nil), (fun _ _ _ _ _ _ => (qe_tup (qa_cons (qe_ix (qe_var (pv 4)) qe_int) (qa_cons (qe_ix (qe_var (pv 4)) qe_int) qa_nil))))⟩) qa_nil)) qa_nil)).run (by rfl)) qtl_nil))))))
theorem q_Likeness_M_then (T : Txt K mg C_Likeness) (o_Likeness_M___init__ : OkI P w K mg base 6 C_Likeness 3 (ph_Likeness_M___init__ C_Likeness)) (f : Addr) : BodyD P w K mg base nm_Likeness_M_then "Likeness.then" s_Likeness_M_then f 7 (dl_Likeness_M_then C_Likeness) := by
  intro cdv A outer s H E F hr
  have S := sc_Likeness_M_then
  exact (qss_cons (qs_if (qw_or (qt_not (qt_val (qe_isc (by rfl) T.z_isinstance bb_isinstance (by rfl) T.k_Likeness.mg T.k_Likeness.ins (qe_var (pv 1))))) (qw_or1 (qt_cmp (op_neD hr.units) rf_ne (qe_fld (qe_var (pv 1)) T.k_Likeness.cl T.n_Likeness_first) (qe_fld (qe_var (pv 0)) T.k_Likeness.cl T.n_Likeness_second) (nomark _)))).qt (qss_one qs_never) qss_nil)
      (qss_cons (qs_set (ps_set (i := 2) S.nd (by rfl) (by first | exact .inl rfl | exact .inr rfl) (qe_dcomp (own := [("near", 4), ("far", 5)]) (by rfl) S.nd (qi_tup (qe_fld (qe_var (pv 1)) T.k_Likeness.cl T.n_Likeness_links)) (show BlkOk nm_Likeness_M_then (defScope s_Likeness_M_then) _ [("near", 4), ("far", 5)] from ⟨rfl, by decide +kernel, by decide +kernel, by decide +kernel, by decide +kernel⟩) ⟨(fun _ _ _ _ _ _ => (qgc_tup (by rfl) (qgcs_cons (qgc_name (pg_name S.nd (i := 4) (by rfl) (by first | exact .inl rfl | exact .inr rfl))) (qgcs_cons (qgc_name (pg_name S.nd (i := 5) (by rfl) (by first | exact .inl rfl | exact .inr rfl))) qgcs_nil)))), (fun _ _ _ _ _ _ => qts_nil), (fun _ _ _ _ _ _ => (qe_var (pv 4)))⟩ ⟨(fun _ _ _ _ _ _ => (qgc_tup (by rfl) (qgcs_cons (qgc_name (pg_name S.nd (i := 4) (by rfl) (by first | exact .inl rfl | exact .inr rfl))) (qgcs_cons (qgc_name (pg_name S.nd (i := 5) (by rfl) (by first | exact .inl rfl | exact .inr rfl))) qgcs_nil)))), (fun _ _ _ _ _ _ => qts_nil), (fun _ _ _ _ _ _ => (qe_var (pv 5)))⟩).run))
      (qss_cons (qs_setComp (own := [("one", 6), ("near", 4)]) (by rfl) S.nd (i := 3) (by rfl) (by rfl) (by rfl) (qi_tup (qe_fld (qe_var (pv 0)) T.k_Likeness.cl T.n_Likeness_links)) (show BlkOk nm_Likeness_M_then (defScope s_Likeness_M_then) _ [("one", 6), ("near", 4)] from ⟨rfl, by decide +kernel, by decide +kernel, by decide +kernel, by decide +kernel⟩) ⟨(fun _ _ _ _ _ _ => (qgc_tup (by rfl) (qgcs_cons (qgc_name (pg_name S.nd (i := 6) (by rfl) (by first | exact .inl rfl | exact .inr rfl))) (qgcs_cons (qgc_name (pg_name S.nd (i := 4) (by rfl) (by first | exact .inl rfl | exact .inr rfl))) qgcs_nil)))), (fun _ _ _ _ _ _ => (qts_one (qt_cmp (op_inD (hu_of hr)) rf_in (qe_var (pv 4)) (qe_var (pv 2)) (by rfl)))), (fun _ _ _ _ _ _ => (qe_tup (qa_cons (qe_var (pv 6)) (qa_cons (qe_get (hu_of hr) (qe_var (pv 2)) (qe_var (pv 4))) qa_nil))))⟩)
      (qss_one (qs_ret (qe_mk T.k_Likeness o_Likeness_M___init__ (hr.mono (by decide)) (by rfl) (takes_of (by rfl) (by rfl) (by rfl) (by rfl)) (qa_cons (qe_fld (qe_var (pv 0)) T.k_Likeness.cl T.n_Likeness_first) (qa_cons (qe_fld (qe_var (pv 1)) T.k_Likeness.cl T.n_Likeness_second) (qa_cons (qe_var (pv 3)) qa_nil)))))))))
theorem q__law_is_whole (T : Txt K mg C_Likeness)  (f : Addr) : BodyD P w K mg base nm__law_is_whole "_law_is_whole" s__law_is_whole f 1 (dl__law_is_whole C_Likeness) := by
  intro cdv A outer s H E F hr
  have S := sc__law_is_whole
  exact (qss_cons (qs_if (qt_cmp op_isD rf_is (qe_var (pv 1)) qe_non (nomark _)) (qss_one (qs_ret (qe_cmp op_isD rf_is (qe_var (pv 0)) qe_non (nomark _)))) qss_nil)
      (qss_one (qs_ret (qe_and (qe_isi (T' := "int") (by rfl) T.z_isinstance bb_isinstance (by rfl) T.z_int bb_int (by decide) (qe_var (pv 0))) (qe_and (qe_not (qe_isi (T' := "bool") (by rfl) T.z_isinstance bb_isinstance (by rfl) T.z_bool bb_bool (by decide) (qe_var (pv 0)))) (qe_one (qe_cmp (op_eqD hr.units) rf_eq (qe_var (pv 0)) (qe_var (pv 1)) (nomark _))))))))
theorem q__law_told (T : Txt K mg C_Likeness) (o__law_is_whole : OkP P w K mg base 2 "_law_is_whole" 2 (ph__law_is_whole C_Likeness)) (f : Addr) : BodyD P w K mg base nm__law_told "_law_told" s__law_told f 3 (dl__law_told C_Likeness) := by
  intro cdv A outer s H E F hr
  have S := sc__law_told
  exact (qss_cons (qs_if (qw_or (qt_not (qt_val (qe_isc (by rfl) T.z_isinstance bb_isinstance (by rfl) T.k_Likeness.mg T.k_Likeness.ins (qe_var (pv 0))))) (qw_or (qt_not (qt_val (qe_isi (T' := "tuple") (by rfl) T.z_isinstance bb_isinstance (by rfl) T.z_tuple bb_tuple (by decide) (qe_fld (qe_var (pv 0)) T.k_Likeness.cl T.n_Likeness_links)))) (qw_or1 (qt_cmp (op_neD hr.units) rf_ne (qe_callT call_list_of rf_list (by rfl) T.z_list bb_list (qa_cons (qe_fld (qe_var (pv 0)) T.k_Likeness.cl T.n_Likeness_links) qa_nil)) (qe_callB call_sortD rf_sortD (by rfl) T.z_sorted bb_sorted (qa_cons (qe_var (pv 3)) qa_nil)) (nomark _))))).qt (qss_one (qs_ret qe_bl)) qss_nil)
      (qss_one (qs_ret (qe_and (qe_cP o__law_is_whole (hr.mono (by decide)) (by rfl) (takes_of (by rfl) (by rfl) (by rfl) (by rfl)) (qa_cons (qe_fld (qe_var (pv 0)) T.k_Likeness.cl T.n_Likeness_first) (qa_cons (qe_var (pv 1)) qa_nil))) (qe_one (qe_cP o__law_is_whole (hr.mono (by decide)) (by rfl) (takes_of (by rfl) (by rfl) (by rfl) (by rfl)) (qa_cons (qe_fld (qe_var (pv 0)) T.k_Likeness.cl T.n_Likeness_second) (qa_cons (qe_var (pv 2)) qa_nil))))))))
theorem q__law_chained (T : Txt K mg C_Likeness)  (f : Addr) : BodyD P w K mg base nm__law_chained "_law_chained" s__law_chained f 1 (dl__law_chained C_Likeness) := by
  intro cdv A outer s H E F hr
  have S := sc__law_chained
  exact (qss_cons (qs_set (ps_set (i := 2) S.nd (by rfl) (by first | exact .inl rfl | exact .inr rfl) (qe_lst qa_nil).run))
      (qss_cons (qs_for (passes_of (by rfl)) (by rfl) (qi_list (qe_var (pv 0))) (qg_tup (by rfl) (qgs_cons (qg_name (pg_name S.nd (i := 3) (by rfl) (by first | exact .inl rfl | exact .inr rfl))) (qgs_cons (qg_name (pg_name S.nd (i := 4) (by rfl) (by first | exact .inl rfl | exact .inr rfl))) qgs_nil))) (qss_one (qs_set (ps_set (i := 2) S.nd (by rfl) (by first | exact .inl rfl | exact .inr rfl) (qe_op op_addD rf_add (qe_var (pv 2)) (qe_comp (own := [("_law_mark", 5), ("_law_far", 6)]) (by rfl) S.nd (qi_list (qe_var (pv 1))) (show BlkOk nm__law_chained (defScope s__law_chained) _ [("_law_mark", 5), ("_law_far", 6)] from ⟨rfl, by decide +kernel, by decide +kernel, by decide +kernel, by decide +kernel⟩) ⟨(fun _ _ _ _ _ _ => (qgc_tup (by rfl) (qgcs_cons (qgc_name (pg_name S.nd (i := 5) (by rfl) (by first | exact .inl rfl | exact .inr rfl))) (qgcs_cons (qgc_name (pg_name S.nd (i := 6) (by rfl) (by first | exact .inl rfl | exact .inr rfl))) qgcs_nil)))), (fun _ _ _ _ _ _ => (qts_one (qt_cmp (op_eqD hr.units) rf_eq (qe_var (pv 5)) (qe_var (pv 4)) (nomark _)))), (fun _ _ _ _ _ _ => (qe_tup (qa_cons (qe_var (pv 3)) (qa_cons (qe_var (pv 6)) qa_nil))))⟩)).run))))
      (qss_one (qs_ret (qe_callB call_sortD rf_sortD (by rfl) T.z_sorted bb_sorted (qa_cons (qe_var (pv 2)) qa_nil))))))
theorem q_Likeness_M___eq__ (T : Txt K mg C_Likeness)  (f : Addr) : BodyD P w K mg base nm_Likeness_M___eq__ "Likeness.__eq__" s_Likeness_M___eq__ f 1 (dl_Likeness_M___eq__ C_Likeness) := by
  intro cdv A outer s H E F hr
  have S := sc_Likeness_M___eq__
  exact (qss_cons (qs_if (qw_or (qt_not (qt_val (qe_isc (by rfl) T.z_isinstance bb_isinstance (by rfl) T.k_Likeness.mg T.k_Likeness.ins (qe_var (pv 1))))) (qw_or1 (qt_cmp (op_neD hr.units) rf_ne (qe_fld (qe_var (pv 0)) T.k_Likeness.cl T.n_Likeness_links) (qe_fld (qe_var (pv 1)) T.k_Likeness.cl T.n_Likeness_links) (nomark _)))).qt (qss_one (qs_ret qe_bl)) qss_nil)
      (qss_one (qs_ret (qe_and (qe_cmp (op_eqD hr.units) rf_eq (qe_fld (qe_var (pv 0)) T.k_Likeness.cl T.n_Likeness_first) (qe_fld (qe_var (pv 1)) T.k_Likeness.cl T.n_Likeness_first) (nomark _)) (qe_one (qe_cmp (op_eqD hr.units) rf_eq (qe_fld (qe_var (pv 0)) T.k_Likeness.cl T.n_Likeness_second) (qe_fld (qe_var (pv 1)) T.k_Likeness.cl T.n_Likeness_second) (nomark _)))))))
theorem q_Likeness_M_flipped (T : Txt K mg C_Likeness) (o_Likeness_M___init__ : OkI P w K mg base 6 C_Likeness 3 (ph_Likeness_M___init__ C_Likeness)) (f : Addr) : BodyD P w K mg base nm_Likeness_M_flipped "Likeness.flipped" s_Likeness_M_flipped f 7 (dl_Likeness_M_flipped C_Likeness) := by
  intro cdv A outer s H E F hr
  have S := sc_Likeness_M_flipped
  exact (qss_one (qs_ret (qe_mk T.k_Likeness o_Likeness_M___init__ (hr.mono (by decide)) (by rfl) (takes_of (by rfl) (by rfl) (by rfl) (by rfl)) (qa_cons (qe_fld (qe_var (pv 0)) T.k_Likeness.cl T.n_Likeness_second) (qa_cons (qe_fld (qe_var (pv 0)) T.k_Likeness.cl T.n_Likeness_first) (qa_cons (qe_comp (own := [("one", 1), ("other", 2)]) (by rfl) S.nd (qi_tup (qe_fld (qe_var (pv 0)) T.k_Likeness.cl T.n_Likeness_links)) (show BlkOk nm_Likeness_M_flipped (defScope s_Likeness_M_flipped) _ [("one", 1), ("other", 2)] from ⟨rfl, by decide +kernel, by decide +kernel, by decide +kernel, by decide +kernel⟩) ⟨(fun _ _ _ _ _ _ => (qgc_tup (by rfl) (qgcs_cons (qgc_name (pg_name S.nd (i := 1) (by rfl) (by first | exact .inl rfl | exact .inr rfl))) (qgcs_cons (qgc_name (pg_name S.nd (i := 2) (by rfl) (by first | exact .inl rfl | exact .inr rfl))) qgcs_nil)))), (fun _ _ _ _ _ _ => qts_nil), (fun _ _ _ _ _ _ => (qe_tup (qa_cons (qe_var (pv 2)) (qa_cons (qe_var (pv 1)) qa_nil))))⟩) qa_nil))))))
theorem q_Likeness_M_is_full (T : Txt K mg C_Likeness)  (f : Addr) : BodyD P w K mg base nm_Likeness_M_is_full "Likeness.is_full" s_Likeness_M_is_full f 1 (dl_Likeness_M_is_full C_Likeness) := by
  intro cdv A outer s H E F hr
  have S := sc_Likeness_M_is_full
  exact (qss_one (qs_ret (qe_and (qe_cmp (op_eqD hr.units) rf_eq (qe_fld (qe_var (pv 0)) T.k_Likeness.cl T.n_Likeness_first) (qe_fld (qe_var (pv 0)) T.k_Likeness.cl T.n_Likeness_second) (nomark _)) (qe_one (qe_cmp (op_eqD hr.units) rf_eq (qe_callB Dx.call_lenD rf_len (by rfl) T.z_len bb_len (qa_cons (qe_fld (qe_var (pv 0)) T.k_Likeness.cl T.n_Likeness_links) qa_nil)) (qe_fld (qe_var (pv 0)) T.k_Likeness.cl T.n_Likeness_first) (nomark _))))))
theorem q_law (T : Txt K mg C_Likeness) (o__law_one : OkH P w K mg base 6 "_law_one" 1 (ph__law_one C_Likeness)) (o__law_draw : OkH P w K mg base 4 "_law_draw" 1 (ph__law_draw C_Likeness)) (o__law_links : OkH P w K mg base 6 "_law_links" 3 (ph__law_links C_Likeness)) (o_Likeness_M___init__ : OkI P w K mg base 6 C_Likeness 3 (ph_Likeness_M___init__ C_Likeness)) (o_Likeness_M_then : OkM P w K mg base 8 C_Likeness "then" 1 (ph_Likeness_M_then C_Likeness)) (o__law_told : OkP P w K mg base 4 "_law_told" 4 (ph__law_told C_Likeness)) (o__law_chained : OkP P w K mg base 2 "_law_chained" 2 (ph__law_chained C_Likeness)) (o_Likeness_M___eq__ : OkEq P w K mg base 2 C_Likeness (ph_Likeness_M___eq__ C_Likeness)) (o_Likeness_M_flipped : OkM P w K mg base 8 C_Likeness "flipped" 0 (ph_Likeness_M_flipped C_Likeness)) (o_Likeness_M_is_full : OkPr P w K mg base 2 C_Likeness "is_full" (ph_Likeness_M_is_full C_Likeness)) (cdv : Value) (st0 : Shared) (H : Hp) (f : Addr) (E : XK) (F : Fx) : QSs (cxOf (L2.CX P w) P w K mg base nm_law "law" (defScope s_law) f cdv callerA [] st0 H E) F (WOut E) (defBody s_law).tail (dl_law C_Likeness) := by
  have hr : Room 60 (callerA.deeper (PyProof.Rows.envOfC "law" (defScope s_law) st0.heap.objs.size f cdv)) := (show Room 61 callerA from ⟨rfl, by decide, by decide⟩).deeper _
  have S := sc_law
  exact (qss_cons (qs_set (ps_set (i := 2) S.nd (by rfl) (by first | exact .inl rfl | exact .inr rfl) (qe_cH o__law_one (hr.mono (by decide)) (by rfl) (takes_of (by rfl) (by rfl) (by rfl) (by rfl)) (pv 1) (qa_cons (qe_lst (qa_cons qe_int (qa_cons qe_int (qa_cons qe_int (qa_cons qe_int qa_nil))))) qa_nil)).run))
      (qss_cons (qs_set (ps_set (i := 3) S.nd (by rfl) (by first | exact .inl rfl | exact .inr rfl) (qe_comp (own := [("_law_k", 16)]) (by rfl) S.nd (qi_range1 (by rfl) T.z_range (qa_cons qe_int qa_nil)) (show BlkOk nm_law (defScope s_law) _ [("_law_k", 16)] from ⟨rfl, by decide +kernel, by decide +kernel, by decide +kernel, by decide +kernel⟩) ⟨(fun _ _ _ _ _ _ => (qgc_name (pg_name S.nd (i := 16) (by rfl) (by first | exact .inl rfl | exact .inr rfl)))), (fun _ _ _ _ _ _ => qts_nil), (fun _ _ _ _ _ _ => (qe_cH o__law_draw (hr.mono (by decide)) (by rfl) takes0 (pv 1) (qa_cons (qe_op op_addD rf_add (qe_var (pv 2)) qe_int) qa_nil)))⟩).run))
      (qss_cons (qs_set (ps_set (i := 4) S.nd (by rfl) (by first | exact .inl rfl | exact .inr rfl) (qe_comp (own := [("_law_k", 16)]) (by rfl) S.nd (qi_range1 (by rfl) T.z_range (qa_cons qe_int qa_nil)) (show BlkOk nm_law (defScope s_law) _ [("_law_k", 16)] from ⟨rfl, by decide +kernel, by decide +kernel, by decide +kernel, by decide +kernel⟩) ⟨(fun _ _ _ _ _ _ => (qgc_name (pg_name S.nd (i := 16) (by rfl) (by first | exact .inl rfl | exact .inr rfl)))), (fun _ _ _ _ _ _ => qts_nil), (fun _ _ _ _ _ _ => (qe_cH o__law_links (hr.mono (by decide)) (by rfl) takes0 (pv 1) (qa_cons (qe_ix (qe_var (pv 3)) (qe_var (pv 16))) (qa_cons (qe_ix (qe_var (pv 3)) (qe_op op_addD rf_add (qe_var (pv 16)) qe_int)) (qa_cons (qe_cH o__law_one (hr.mono (by decide)) (by rfl) takes0 (pv 1) (qa_cons (qe_lst (qa_cons qe_int (qa_cons qe_int (qa_cons (qe_var (pv 2)) (qa_cons (qe_var (pv 2)) qa_nil))))) qa_nil)) qa_nil)))))⟩).run))
      (qss_cons (qs_asg (ps_asg (qe_comp (own := [("_law_k", 16)]) (by rfl) S.nd (qi_range1 (by rfl) T.z_range (qa_cons qe_int qa_nil)) (show BlkOk nm_law (defScope s_law) _ [("_law_k", 16)] from ⟨rfl, by decide +kernel, by decide +kernel, by decide +kernel, by decide +kernel⟩) ⟨(fun _ _ _ _ _ _ => (qgc_name (pg_name S.nd (i := 16) (by rfl) (by first | exact .inl rfl | exact .inr rfl)))), (fun _ _ _ _ _ _ => qts_nil), (fun _ _ _ _ _ _ => (qe_mk T.k_Likeness o_Likeness_M___init__ (hr.mono (by decide)) (by rfl) takes0 (qa_cons (qe_ix (qe_var (pv 3)) (qe_var (pv 16))) (qa_cons (qe_ix (qe_var (pv 3)) (qe_op op_addD rf_add (qe_var (pv 16)) qe_int)) (qa_cons (qe_ix (qe_var (pv 4)) (qe_var (pv 16))) qa_nil)))))⟩).run (qg_lst (by rfl) (qgs_cons (qg_name (pg_name S.nd (i := 5) (by rfl) (by first | exact .inl rfl | exact .inr rfl))) (qgs_cons (qg_name (pg_name S.nd (i := 6) (by rfl) (by first | exact .inl rfl | exact .inr rfl))) (qgs_cons (qg_name (pg_name S.nd (i := 7) (by rfl) (by first | exact .inl rfl | exact .inr rfl))) qgs_nil)))).run))
      (qss_cons (qs_set (ps_set (i := 8) S.nd (by rfl) (by first | exact .inl rfl | exact .inr rfl) (qe_op op_addD rf_add (qe_op op_addD rf_add (qe_callB (call_reprD (by rfl) (room200 hr)) rf_repr (by rfl) T.z_repr bb_repr (qa_cons (qe_fld (qe_var (pv 5)) T.k_Likeness.cl T.n_Likeness_links) qa_nil)) (qe_callB (call_reprD (by rfl) (room200 hr)) rf_repr (by rfl) T.z_repr bb_repr (qa_cons (qe_fld (qe_var (pv 6)) T.k_Likeness.cl T.n_Likeness_links) qa_nil))) (qe_callB (call_reprD (by rfl) (room200 hr)) rf_repr (by rfl) T.z_repr bb_repr (qa_cons (qe_fld (qe_var (pv 7)) T.k_Likeness.cl T.n_Likeness_links) qa_nil))).run))
      (qss_cons (qs_par (ps_par (i := 9) (j := 10) (by rfl) S.nd (by rfl) (by rfl) (by decide) (by rfl) (by rfl) (qa_cons (qe_mM (qe_var (pv 5)) T.k_Likeness o_Likeness_M_then (hr.mono (by decide)) (takes_of (by rfl) (by rfl) (by rfl) (by rfl)) (qa_cons (qe_var (pv 6)) qa_nil)) (qa_cons (qe_mM (qe_var (pv 6)) T.k_Likeness o_Likeness_M_then (hr.mono (by decide)) (takes_of (by rfl) (by rfl) (by rfl) (by rfl)) (qa_cons (qe_var (pv 7)) qa_nil)) qa_nil)).run (by rfl)))
      (qss_cons (qs_if (qt_not (qt_val (qe_cP o__law_told (hr.mono (by decide)) (by rfl) (takes_of (by rfl) (by rfl) (by rfl) (by rfl)) (qa_cons (qe_var (pv 9)) (qa_cons (qe_ix (qe_var (pv 3)) qe_int) (qa_cons (qe_ix (qe_var (pv 3)) qe_int) (qa_cons (qe_cP o__law_chained (hr.mono (by decide)) (by rfl) (takes_of (by rfl) (by rfl) (by rfl) (by rfl)) (qa_cons (qe_ix (qe_var (pv 4)) qe_int) (qa_cons (qe_ix (qe_var (pv 4)) qe_int) qa_nil))) qa_nil))))))) (qss_one (qs_ret qe_bl)) qss_nil)
      (qss_cons (qs_if (qt_not (qt_val (qe_cP o__law_told (hr.mono (by decide)) (by rfl) (takes_of (by rfl) (by rfl) (by rfl) (by rfl)) (qa_cons (qe_var (pv 10)) (qa_cons (qe_ix (qe_var (pv 3)) qe_int) (qa_cons (qe_ix (qe_var (pv 3)) qe_int) (qa_cons (qe_cP o__law_chained (hr.mono (by decide)) (by rfl) (takes_of (by rfl) (by rfl) (by rfl) (by rfl)) (qa_cons (qe_ix (qe_var (pv 4)) qe_int) (qa_cons (qe_ix (qe_var (pv 4)) qe_int) qa_nil))) qa_nil))))))) (qss_one (qs_ret qe_bl)) qss_nil)
      (qss_cons (qs_if (qw_or (qt_one o_Likeness_M___eq__ (hr.mono (by decide)) (qe_mM (qe_var (pv 9)) T.k_Likeness o_Likeness_M_then (hr.mono (by decide)) (takes_of (by rfl) (by rfl) (by rfl) (by rfl)) (qa_cons (qe_var (pv 7)) qa_nil)) (qe_mM (qe_var (pv 5)) T.k_Likeness o_Likeness_M_then (hr.mono (by decide)) (takes_of (by rfl) (by rfl) (by rfl) (by rfl)) (qa_cons (qe_var (pv 10)) qa_nil))) (qw_or1 (qt_not (qt_val (qe_cP o__law_told (hr.mono (by decide)) (by rfl) (takes_of (by rfl) (by rfl) (by rfl) (by rfl)) (qa_cons (qe_mM (qe_var (pv 9)) T.k_Likeness o_Likeness_M_then (hr.mono (by decide)) (takes_of (by rfl) (by rfl) (by rfl) (by rfl)) (qa_cons (qe_var (pv 7)) qa_nil)) (qa_cons (qe_ix (qe_var (pv 3)) qe_int) (qa_cons (qe_ix (qe_var (pv 3)) qe_int) (qa_cons (qe_cP o__law_chained (hr.mono (by decide)) (by rfl) (takes_of (by rfl) (by rfl) (by rfl) (by rfl)) (qa_cons (qe_cP o__law_chained (hr.mono (by decide)) (by rfl) (takes_of (by rfl) (by rfl) (by rfl) (by rfl)) (qa_cons (qe_ix (qe_var (pv 4)) qe_int) (qa_cons (qe_ix (qe_var (pv 4)) qe_int) qa_nil))) (qa_cons (qe_ix (qe_var (pv 4)) qe_int) qa_nil))) qa_nil))))))))).qt (qss_one (qs_ret qe_bl)) qss_nil)
      (qss_cons (qs_if (qw_or (qt_one o_Likeness_M___eq__ (hr.mono (by decide)) (qe_mM0 (qe_var (pv 9)) T.k_Likeness o_Likeness_M_flipped (hr.mono (by decide)) (takes_of (by rfl) (by rfl) (by rfl) (by rfl))) (qe_mM (qe_mM0 (qe_var (pv 6)) T.k_Likeness o_Likeness_M_flipped (hr.mono (by decide)) (takes_of (by rfl) (by rfl) (by rfl) (by rfl))) T.k_Likeness o_Likeness_M_then (hr.mono (by decide)) (takes_of (by rfl) (by rfl) (by rfl) (by rfl)) (qa_cons (qe_mM0 (qe_var (pv 5)) T.k_Likeness o_Likeness_M_flipped (hr.mono (by decide)) (takes_of (by rfl) (by rfl) (by rfl) (by rfl))) qa_nil))) (qw_or1 (qt_one o_Likeness_M___eq__ (hr.mono (by decide)) (qe_mM0 (qe_mM0 (qe_var (pv 9)) T.k_Likeness o_Likeness_M_flipped (hr.mono (by decide)) (takes_of (by rfl) (by rfl) (by rfl) (by rfl))) T.k_Likeness o_Likeness_M_flipped (hr.mono (by decide)) (takes_of (by rfl) (by rfl) (by rfl) (by rfl))) (qe_var (pv 9))))).qt (qss_one (qs_ret qe_bl)) qss_nil)
      (qss_cons (qs_setComp (own := [("_law_size", 13)]) (by rfl) S.nd (i := 11) (by rfl) (by rfl) (by rfl) (qi_list (qe_var (pv 3))) (show BlkOk nm_law (defScope s_law) _ [("_law_size", 13)] from ⟨rfl, by decide +kernel, by decide +kernel, by decide +kernel, by decide +kernel⟩) ⟨(fun _ _ _ _ _ _ => (qgc_name (pg_name S.nd (i := 13) (by rfl) (by first | exact .inl rfl | exact .inr rfl)))), (fun _ _ _ _ _ _ => qts_nil), (fun _ _ _ _ _ _ => (qe_mk T.k_Likeness o_Likeness_M___init__ (hr.mono (by decide)) (by rfl) takes0 (qa_cons (qe_var (pv 13)) (qa_cons (qe_var (pv 13)) (qa_cons (qe_comp (own := [("_law_k", 16)]) (by rfl) S.nd (qi_range1 (by rfl) T.z_range (qa_cons (qe_var (pv 13)) qa_nil)) (show BlkOk nm_law (relS _ (defScope s_law)) _ [("_law_k", 16)] from ⟨rfl, by decide +kernel, by decide +kernel, by decide +kernel, by decide +kernel⟩) ⟨(fun _ _ _ _ _ _ => (qgc_name (pg_name S.nd (i := 16) (by rfl) (by first | exact .inl rfl | exact .inr rfl)))), (fun _ _ _ _ _ _ => qts_nil), (fun _ _ _ _ _ _ => (qe_tup (qa_cons (qe_var (pv 16)) (qa_cons (qe_var (pv 16)) qa_nil))))⟩) qa_nil)))))⟩)
      (qss_cons (qs_if (qw_or (qt_one o_Likeness_M___eq__ (hr.mono (by decide)) (qe_mM (qe_ix (qe_var (pv 11)) qe_int) T.k_Likeness o_Likeness_M_then (hr.mono (by decide)) (takes_of (by rfl) (by rfl) (by rfl) (by rfl)) (qa_cons (qe_var (pv 5)) qa_nil)) (qe_var (pv 5))) (qw_or (qt_one o_Likeness_M___eq__ (hr.mono (by decide)) (qe_mM (qe_var (pv 5)) T.k_Likeness o_Likeness_M_then (hr.mono (by decide)) (takes_of (by rfl) (by rfl) (by rfl) (by rfl)) (qa_cons (qe_ix (qe_var (pv 11)) qe_int) qa_nil)) (qe_var (pv 5))) (qw_or1 (qt_not (qt_val (qe_callB (cr_all (by rfl)) rf_all (by rfl) T.z_all bb_all (qa_cons (qe_comp (own := [("_law_x", 19)]) (by rfl) S.nd (qi_list (qe_var (pv 11))) (show BlkOk nm_law (defScope s_law) _ [("_law_x", 19)] from ⟨rfl, by decide +kernel, by decide +kernel, by decide +kernel, by decide +kernel⟩) ⟨(fun _ _ _ _ _ _ => (qgc_name (pg_name S.nd (i := 19) (by rfl) (by first | exact .inl rfl | exact .inr rfl)))), (fun _ _ _ _ _ _ => qts_nil), (fun _ _ _ _ _ _ => (qe_cmp op_isD rf_is (qe_pr (qe_var (pv 19)) T.k_Likeness o_Likeness_M_is_full (hr.mono (by decide))) qe_bl (nomark _)))⟩) qa_nil))))))).qt (qss_one (qs_ret qe_bl)) qss_nil)
      (qss_cons (qs_set (ps_set (i := 12) S.nd (by rfl) (by first | exact .inl rfl | exact .inr rfl) (qe_mM (qe_var (pv 5)) T.k_Likeness o_Likeness_M_then (hr.mono (by decide)) (takes_of (by rfl) (by rfl) (by rfl) (by rfl)) (qa_cons (qe_mM0 (qe_var (pv 5)) T.k_Likeness o_Likeness_M_flipped (hr.mono (by decide)) (takes_of (by rfl) (by rfl) (by rfl) (by rfl))) qa_nil)).run))
      (qss_cons (qs_if (qt_not (qt_val (qe_cP o__law_told (hr.mono (by decide)) (by rfl) (takes_of (by rfl) (by rfl) (by rfl) (by rfl)) (qa_cons (qe_var (pv 12)) (qa_cons (qe_ix (qe_var (pv 3)) qe_int) (qa_cons (qe_ix (qe_var (pv 3)) qe_int) (qa_cons (qe_comp (own := [("_law_near", 17), ("_law_far", 18)]) (by rfl) S.nd (qi_list (qe_ix (qe_var (pv 4)) qe_int)) (show BlkOk nm_law (defScope s_law) _ [("_law_near", 17), ("_law_far", 18)] from ⟨rfl, by decide +kernel, by decide +kernel, by decide +kernel, by decide +kernel⟩) ⟨(fun _ _ _ _ _ _ => (qgc_tup (by rfl) (qgcs_cons (qgc_name (pg_name S.nd (i := 17) (by rfl) (by first | exact .inl rfl | exact .inr rfl))) (qgcs_cons (qgc_name (pg_name S.nd (i := 18) (by rfl) (by first | exact .inl rfl | exact .inr rfl))) qgcs_nil)))), (fun _ _ _ _ _ _ => qts_nil), (fun _ _ _ _ _ _ => (qe_tup (qa_cons (qe_var (pv 17)) (qa_cons (qe_var (pv 17)) qa_nil))))⟩) qa_nil))))))) (qss_one (qs_ret qe_bl)) qss_nil)
      (qss_cons (qs_if (qt_cmp (op_neD hr.units) rf_ne (qe_oeq o_Likeness_M___eq__ (hr.mono (by decide)) (qe_var (pv 12)) (qe_ix (qe_var (pv 11)) qe_int)) (qe_cmp (op_eqD hr.units) rf_eq (qe_callB Dx.call_lenD rf_len (by rfl) T.z_len bb_len (qa_cons (qe_ix (qe_var (pv 4)) qe_int) qa_nil)) (qe_ix (qe_var (pv 3)) qe_int) (nomark _)) (nomark _)) (qss_one (qs_ret qe_bl)) qss_nil)
      (qss_cons (qs_set (ps_set (i := 13) S.nd (by rfl) (by first | exact .inl rfl | exact .inr rfl) (qe_ix (qe_var (pv 3)) qe_int).run))
      (qss_cons (qs_asg (ps_asg (qe_comp (own := [("_law_k", 16)]) (by rfl) S.nd (qi_range1 (by rfl) T.z_range (qa_cons qe_int qa_nil)) (show BlkOk nm_law (defScope s_law) _ [("_law_k", 16)] from ⟨rfl, by decide +kernel, by decide +kernel, by decide +kernel, by decide +kernel⟩) ⟨(fun _ _ _ _ _ _ => (qgc_name (pg_name S.nd (i := 16) (by rfl) (by first | exact .inl rfl | exact .inr rfl)))), (fun _ _ _ _ _ _ => qts_nil), (fun _ _ _ _ _ _ => (qe_mk T.k_Likeness o_Likeness_M___init__ (hr.mono (by decide)) (by rfl) takes0 (qa_cons (qe_var (pv 13)) (qa_cons (qe_var (pv 13)) (qa_cons (qe_cH o__law_links (hr.mono (by decide)) (by rfl) takes0 (pv 1) (qa_cons (qe_var (pv 13)) (qa_cons (qe_var (pv 13)) (qa_cons (qe_var (pv 13)) qa_nil)))) qa_nil)))))⟩).run (qg_lst (by rfl) (qgs_cons (qg_name (pg_name S.nd (i := 14) (by rfl) (by first | exact .inl rfl | exact .inr rfl))) (qgs_cons (qg_name (pg_name S.nd (i := 15) (by rfl) (by first | exact .inl rfl | exact .inr rfl))) qgs_nil))).run))
      (qss_cons (qs_if (qw_or (qt_one o_Likeness_M___eq__ (hr.mono (by decide)) (qe_mM (qe_var (pv 14)) T.k_Likeness o_Likeness_M_then (hr.mono (by decide)) (takes_of (by rfl) (by rfl) (by rfl) (by rfl)) (qa_cons (qe_mM0 (qe_var (pv 14)) T.k_Likeness o_Likeness_M_flipped (hr.mono (by decide)) (takes_of (by rfl) (by rfl) (by rfl) (by rfl))) qa_nil)) (qe_ix (qe_var (pv 11)) qe_int)) (qw_or (qt_one o_Likeness_M___eq__ (hr.mono (by decide)) (qe_mM (qe_mM0 (qe_var (pv 14)) T.k_Likeness o_Likeness_M_flipped (hr.mono (by decide)) (takes_of (by rfl) (by rfl) (by rfl) (by rfl))) T.k_Likeness o_Likeness_M_then (hr.mono (by decide)) (takes_of (by rfl) (by rfl) (by rfl) (by rfl)) (qa_cons (qe_var (pv 14)) qa_nil)) (qe_ix (qe_var (pv 11)) qe_int)) (qw_or1 (qt_cmp op_isNotD rf_is (qe_pr (qe_mM (qe_var (pv 14)) T.k_Likeness o_Likeness_M_then (hr.mono (by decide)) (takes_of (by rfl) (by rfl) (by rfl) (by rfl)) (qa_cons (qe_var (pv 15)) qa_nil)) T.k_Likeness o_Likeness_M_is_full (hr.mono (by decide))) qe_bl (nomark _))))).qt (qss_one (qs_ret qe_bl)) qss_nil)
      (qss_cons (qs_if (qt_one o_Likeness_M___eq__ (hr.mono (by decide)) (qe_mM (qe_mM (qe_var (pv 14)) T.k_Likeness o_Likeness_M_then (hr.mono (by decide)) (takes_of (by rfl) (by rfl) (by rfl) (by rfl)) (qa_cons (qe_var (pv 15)) qa_nil)) T.k_Likeness o_Likeness_M_then (hr.mono (by decide)) (takes_of (by rfl) (by rfl) (by rfl) (by rfl)) (qa_cons (qe_mM0 (qe_var (pv 15)) T.k_Likeness o_Likeness_M_flipped (hr.mono (by decide)) (takes_of (by rfl) (by rfl) (by rfl) (by rfl))) qa_nil)) (qe_var (pv 14))) (qss_one (qs_ret qe_bl)) qss_nil)
      (qss_cons (qs_if (qw_and (qt_cmp op_gt rf_gt (qe_var (pv 13)) qe_int (nomark _)) (qw_and1 (qt_cmp op_isNotD rf_is (qe_pr (qe_mM (qe_var (pv 14)) T.k_Likeness o_Likeness_M_then (hr.mono (by decide)) (takes_of (by rfl) (by rfl) (by rfl) (by rfl)) (qa_cons (qe_mk T.k_Likeness o_Likeness_M___init__ (hr.mono (by decide)) (by rfl) (takes_of (by rfl) (by rfl) (by rfl) (by rfl)) (qa_cons (qe_var (pv 13)) (qa_cons (qe_var (pv 13)) (qa_cons (qe_slice (qe_fld (qe_var (pv 15)) T.k_Likeness.cl T.n_Likeness_links) (qo_some qe_int) qo_none) qa_nil)))) qa_nil)) T.k_Likeness o_Likeness_M_is_full (hr.mono (by decide))) qe_bl (nomark _)))).qt (qss_one (qs_ret qe_bl)) qss_nil)
      (qss_one (qs_ret (qe_and (qe_cmp (op_eqD hr.units) rf_eq (qe_var (pv 8)) (qe_op op_addD rf_add (qe_op op_addD rf_add (qe_callB (call_reprD (by rfl) (room200 hr)) rf_repr (by rfl) T.z_repr bb_repr (qa_cons (qe_fld (qe_var (pv 5)) T.k_Likeness.cl T.n_Likeness_links) qa_nil)) (qe_callB (call_reprD (by rfl) (room200 hr)) rf_repr (by rfl) T.z_repr bb_repr (qa_cons (qe_fld (qe_var (pv 6)) T.k_Likeness.cl T.n_Likeness_links) qa_nil))) (qe_callB (call_reprD (by rfl) (room200 hr)) rf_repr (by rfl) T.z_repr bb_repr (qa_cons (qe_fld (qe_var (pv 7)) T.k_Likeness.cl T.n_Likeness_links) qa_nil))) (nomark _)) (qe_and (qe_oeq o_Likeness_M___eq__ (hr.mono (by decide)) (qe_mM (qe_var (pv 5)) T.k_Likeness o_Likeness_M_then (hr.mono (by decide)) (takes_of (by rfl) (by rfl) (by rfl) (by rfl)) (qa_cons (qe_var (pv 6)) qa_nil)) (qe_var (pv 9))) (qe_one (qe_oeq o_Likeness_M___eq__ (hr.mono (by decide)) (qe_mM (qe_var (pv 9)) T.k_Likeness o_Likeness_M_then (hr.mono (by decide)) (takes_of (by rfl) (by rfl) (by rfl) (by rfl)) (qa_cons (qe_var (pv 7)) qa_nil)) (qe_mM (qe_var (pv 5)) T.k_Likeness o_Likeness_M_then (hr.mono (by decide)) (takes_of (by rfl) (by rfl) (by rfl) (by rfl)) (qa_cons (qe_var (pv 10)) qa_nil))))))))))))))))))))))))))))
theorem q_law0 (o__law_hand : OkP P w K mg base 2 "_law_hand" 1 (ph__law_hand C_Likeness)) (cdv : Value) (st0 : Shared) (H : Hp) (f : Addr) (E : XK) (F : Fx) : QS (cxOf (L2.CX P w) P w K mg base nm_law "law" (defScope s_law) f cdv callerA [] st0 H E) F (WOut E) ((defBody s_law).headD (.Pass ⟨0, 0, 0, 0⟩)) dHand := by
  have hr : Room 60 (callerA.deeper (PyProof.Rows.envOfC "law" (defScope s_law) st0.heap.objs.size f cdv)) := (show Room 61 callerA from ⟨rfl, by decide, by decide⟩).deeper _
  have S := sc_law
  exact (qs_own (ps_set (i := 1) S.nd (by rfl) (by first | exact .inl rfl | exact .inr rfl) (qn_cP o__law_hand (hr.mono (by decide)) (by rfl) (takes_of (by rfl) (by rfl) (by rfl) (by rfl)) (qa_cons (qe_var (pv 0)) qa_nil)).run))
end
end Kb
namespace Kb
open PySem L2 Dx
theorem all_mk (U : ∀ (C_Likeness : Addr), Pure C_Likeness) {l : PySem.W.OpenLaw} {w : World} {K : Fg} {h : Heap} {mg : Str → Option Value} {fa : Addr} (X : K.In h) (G : h.Ns mainGlobals mg) (hfa : mg "law" = some (.ref fa))
    {C_Likeness : Addr}
    {f0 : Addr} {od0 an0 : Option Addr} {sl0 : Array (Option Value)} {oc0 kV0 dc0 pm0 cv0 ct0 : Value}
    {f1 : Addr} {od1 an1 : Option Addr} {sl1 : Array (Option Value)} {oc1 kV1 dc1 pm1 cv1 ct1 : Value}
    {f2 : Addr} {od2 an2 : Option Addr} {sl2 : Array (Option Value)} {oc2 kV2 dc2 pm2 cv2 ct2 : Value}
    {f3 : Addr} {od3 an3 : Option Addr} {sl3 : Array (Option Value)} {oc3 kV3 dc3 pm3 cv3 ct3 : Value}
    {f4 : Addr} {od4 an4 : Option Addr} {sl4 : Array (Option Value)} {oc4 kV4 dc4 pm4 cv4 ct4 : Value}
    {f5 : Addr} {od5 an5 : Option Addr} {sl5 : Array (Option Value)} {oc5 kV5 dc5 pm5 cv5 ct5 : Value}
    {f6 : Addr} {od6 an6 : Option Addr} {sl6 : Array (Option Value)} {oc6 kV6 dc6 pm6 cv6 ct6 : Value}
    {f7 : Addr} {od7 an7 : Option Addr} {sl7 : Array (Option Value)} {oc7 kV7 dc7 pm7 cv7 ct7 : Value}
    {f8 : Addr} {od8 an8 : Option Addr} {sl8 : Array (Option Value)} {oc8 kV8 dc8 pm8 cv8 ct8 : Value}
    {f9 : Addr} {od9 an9 : Option Addr} {sl9 : Array (Option Value)} {oc9 kV9 dc9 pm9 cv9 ct9 : Value}
    {f10 : Addr} {od10 an10 : Option Addr} {sl10 : Array (Option Value)} {oc10 kV10 dc10 pm10 cv10 ct10 : Value}
    {f11 : Addr} {od11 an11 : Option Addr} {sl11 : Array (Option Value)} {oc11 kV11 dc11 pm11 cv11 ct11 : Value}
    {f12 : Addr} {od12 an12 : Option Addr} {sl12 : Array (Option Value)} {oc12 kV12 dc12 pm12 cv12 ct12 : Value}
    {f13 : Addr} {od13 an13 : Option Addr} {sl13 : Array (Option Value)} {oc13 kV13 dc13 pm13 cv13 ct13 : Value}
    {f14 : Addr} {od14 an14 : Option Addr} {sl14 : Array (Option Value)} {oc14 kV14 dc14 pm14 cv14 ct14 : Value}
    {nm14 q14 : Str} {N14 : Addr} {bs14 : List Value} {hx14 : Bool} {sn14 : List Str} {sb14 : List Value} {ab14 : Bool} {co14 : Option Bool} {dd14 : Option Addr} {x014 x114 x214 x314 x514 : Option Value} {nw14 : String}
    {f15 : Addr} {od15 an15 : Option Addr} {sl15 : Array (Option Value)} {oc15 kV15 dc15 pm15 cv15 ct15 : Value}
    {f16 : Addr} {od16 an16 : Option Addr} {sl16 : Array (Option Value)} {oc16 kV16 dc16 pm16 cv16 ct16 : Value}
    {p16 : Addr} {rs16 : List Value}
    {f17 : Addr} {od17 an17 : Option Addr} {sl17 : Array (Option Value)} {oc17 kV17 dc17 pm17 cv17 ct17 : Value}
    {tk_MOST_LINKED : Tok}
    (aC_Likeness : PySem.W.nsIn K mainGlobals "Likeness" = some (some (.ref C_Likeness)))
    (pgC_Likeness : PySem.W.plainGet K C_Likeness Str.empty = true)
    (hdC_Likeness : PySem.W.hasDictIn K C_Likeness = true)
    (poC_Likeness : PySem.W.plainOver K C_Likeness = true)
    (saC_Likeness : PySem.W.findIn K (.ref C_Likeness) "__setattr__" = some (some (.builtin "object.__setattr__")))
    (mkC_Likeness : PySem.W.makesIn K C_Likeness = true)
    (kcC_Likeness : PySem.W.keepIn K (.ref C_Likeness) = true)
    (haC_Likeness : PySem.W.findIn K (.ref C_Likeness) "__class__" = some (some (.builtin "object.__class__")))
    (hmC_Likeness : PySem.W.mroIn K C_Likeness (.type "object") = some true)
    (kiC_Likeness : PySem.W.kitOne K (.type "int") (.ref C_Likeness) = some false)
    (hn0 : PySem.W.specialIn K (.builtin "object.__class__") "__get__" = some (some (.builtin "getset_descriptor.__get__")))
    (ht0 : PySem.W.takesIn K (.builtin "object.__class__") = some true)
    (no_Likeness_first : PySem.W.findIn K (.ref C_Likeness) "first" = some none)
    (no_Likeness_links : PySem.W.findIn K (.ref C_Likeness) "links" = some none)
    (no_Likeness_second : PySem.W.findIn K (.ref C_Likeness) "second" = some none)
    (a0 : PySem.W.nsIn K mainGlobals "_law_hand" = some (some (.ref f0)))
    (l0 : K.lookup f0 = some ⟨oc0, od0, .func (PySem.W.fnOf "_law_hand" "_law_hand" (defArgs s__law_hand) (defBody s__law_hand) (defScope s__law_hand) .none kV0 dc0 pm0 an0 cv0 ct0), sl0⟩)
    (c0 : PySem.W.codeIn K cv0 "_law_hand" = true)
    (k0 : PySem.W.keepIn K (.ref f0) = true)
    (a1 : PySem.W.nsIn K mainGlobals "_law_mix" = some (some (.ref f1)))
    (l1 : K.lookup f1 = some ⟨oc1, od1, .func (PySem.W.fnOf "_law_mix" "_law_mix" (defArgs s__law_mix) (defBody s__law_mix) (defScope s__law_mix) .none kV1 dc1 pm1 an1 cv1 ct1), sl1⟩)
    (c1 : PySem.W.codeIn K cv1 "_law_mix" = true)
    (k1 : PySem.W.keepIn K (.ref f1) = true)
    (a2 : PySem.W.nsIn K mainGlobals "_law_draw" = some (some (.ref f2)))
    (l2 : K.lookup f2 = some ⟨oc2, od2, .func (PySem.W.fnOf "_law_draw" "_law_draw" (defArgs s__law_draw) (defBody s__law_draw) (defScope s__law_draw) .none kV2 dc2 pm2 an2 cv2 ct2), sl2⟩)
    (c2 : PySem.W.codeIn K cv2 "_law_draw" = true)
    (k2 : PySem.W.keepIn K (.ref f2) = true)
    (a3 : PySem.W.nsIn K mainGlobals "_law_one" = some (some (.ref f3)))
    (l3 : K.lookup f3 = some ⟨oc3, od3, .func (PySem.W.fnOf "_law_one" "_law_one" (defArgs s__law_one) (defBody s__law_one) (defScope s__law_one) .none kV3 dc3 pm3 an3 cv3 ct3), sl3⟩)
    (c3 : PySem.W.codeIn K cv3 "_law_one" = true)
    (k3 : PySem.W.keepIn K (.ref f3) = true)
    (a4 : PySem.W.nsIn K mainGlobals "_law_links" = some (some (.ref f4)))
    (l4 : K.lookup f4 = some ⟨oc4, od4, .func (PySem.W.fnOf "_law_links" "_law_links" (defArgs s__law_links) (defBody s__law_links) (defScope s__law_links) .none kV4 dc4 pm4 an4 cv4 ct4), sl4⟩)
    (c4 : PySem.W.codeIn K cv4 "_law_links" = true)
    (k4 : PySem.W.keepIn K (.ref f4) = true)
    (a5 : PySem.W.nsIn K mainGlobals "is_sequence" = some (some (.ref f5)))
    (l5 : K.lookup f5 = some ⟨oc5, od5, .func (PySem.W.fnOf "is_sequence" "is_sequence" (defArgs s_is_sequence) (defBody s_is_sequence) (defScope s_is_sequence) .none kV5 dc5 pm5 an5 cv5 ct5), sl5⟩)
    (c5 : PySem.W.codeIn K cv5 "is_sequence" = true)
    (k5 : PySem.W.keepIn K (.ref f5) = true)
    (a6 : PySem.W.nsIn K mainGlobals "is_whole" = some (some (.ref f6)))
    (l6 : K.lookup f6 = some ⟨oc6, od6, .func (PySem.W.fnOf "is_whole" "is_whole" (defArgs s_is_whole) (defBody s_is_whole) (defScope s_is_whole) .none kV6 dc6 pm6 an6 cv6 ct6), sl6⟩)
    (c6 : PySem.W.codeIn K cv6 "is_whole" = true)
    (k6 : PySem.W.keepIn K (.ref f6) = true)
    (a7 : PySem.W.nsIn K mainGlobals "check_links" = some (some (.ref f7)))
    (l7 : K.lookup f7 = some ⟨oc7, od7, .func (PySem.W.fnOf "check_links" "check_links" (defArgs s_check_links) (defBody s_check_links) (defScope s_check_links) .none kV7 dc7 pm7 an7 cv7 ct7), sl7⟩)
    (c7 : PySem.W.codeIn K cv7 "check_links" = true)
    (k7 : PySem.W.keepIn K (.ref f7) = true)
    (a8 : PySem.W.nsIn K mainGlobals "check_sizes" = some (some (.ref f8)))
    (l8 : K.lookup f8 = some ⟨oc8, od8, .func (PySem.W.fnOf "check_sizes" "check_sizes" (defArgs s_check_sizes) (defBody s_check_sizes) (defScope s_check_sizes) .none kV8 dc8 pm8 an8 cv8 ct8), sl8⟩)
    (c8 : PySem.W.codeIn K cv8 "check_sizes" = true)
    (k8 : PySem.W.keepIn K (.ref f8) = true)
    (a9 : PySem.W.findIn K (.ref C_Likeness) "__init__" = some (some (.ref f9)))
    (i9 : PySem.W.isFn K (.ref f9) = true)
    (l9 : K.lookup f9 = some ⟨oc9, od9, .func (PySem.W.fnOf "__init__" "Likeness.__init__" (defArgs s_Likeness_M___init__) (defBody s_Likeness_M___init__) (defScope s_Likeness_M___init__) .none kV9 dc9 pm9 an9 cv9 ct9), sl9⟩)
    (c9 : PySem.W.codeIn K cv9 "Likeness.__init__" = true)
    (k9 : PySem.W.keepIn K (.ref f9) = true)
    (a10 : PySem.W.findIn K (.ref C_Likeness) "then" = some (some (.ref f10)))
    (i10 : PySem.W.isFn K (.ref f10) = true)
    (l10 : K.lookup f10 = some ⟨oc10, od10, .func (PySem.W.fnOf "then" "Likeness.then" (defArgs s_Likeness_M_then) (defBody s_Likeness_M_then) (defScope s_Likeness_M_then) .none kV10 dc10 pm10 an10 cv10 ct10), sl10⟩)
    (c10 : PySem.W.codeIn K cv10 "Likeness.then" = true)
    (k10 : PySem.W.keepIn K (.ref f10) = true)
    (a11 : PySem.W.nsIn K mainGlobals "_law_is_whole" = some (some (.ref f11)))
    (l11 : K.lookup f11 = some ⟨oc11, od11, .func (PySem.W.fnOf "_law_is_whole" "_law_is_whole" (defArgs s__law_is_whole) (defBody s__law_is_whole) (defScope s__law_is_whole) .none kV11 dc11 pm11 an11 cv11 ct11), sl11⟩)
    (c11 : PySem.W.codeIn K cv11 "_law_is_whole" = true)
    (k11 : PySem.W.keepIn K (.ref f11) = true)
    (a12 : PySem.W.nsIn K mainGlobals "_law_told" = some (some (.ref f12)))
    (l12 : K.lookup f12 = some ⟨oc12, od12, .func (PySem.W.fnOf "_law_told" "_law_told" (defArgs s__law_told) (defBody s__law_told) (defScope s__law_told) .none kV12 dc12 pm12 an12 cv12 ct12), sl12⟩)
    (c12 : PySem.W.codeIn K cv12 "_law_told" = true)
    (k12 : PySem.W.keepIn K (.ref f12) = true)
    (a13 : PySem.W.nsIn K mainGlobals "_law_chained" = some (some (.ref f13)))
    (l13 : K.lookup f13 = some ⟨oc13, od13, .func (PySem.W.fnOf "_law_chained" "_law_chained" (defArgs s__law_chained) (defBody s__law_chained) (defScope s__law_chained) .none kV13 dc13 pm13 an13 cv13 ct13), sl13⟩)
    (c13 : PySem.W.codeIn K cv13 "_law_chained" = true)
    (k13 : PySem.W.keepIn K (.ref f13) = true)
    (a14 : PySem.W.findIn K (.ref C_Likeness) "__eq__" = some (some (.ref f14)))
    (i14 : PySem.W.isFn K (.ref f14) = true)
    (lc14 : K.lookup C_Likeness = some (excClassObj nm14 q14 C_Likeness N14 bs14 [.type "object"] hx14 sn14 sb14 ab14 co14 dd14 x014 x114 x214 x314 x514 nw14))
    (no14 : PySem.W.nsOkIn K N14 = true)
    (ne14 : PySem.W.nsIn K N14 "__eq__" = some (some (.ref f14)))
    (nn14 : PySem.W.nsIn K N14 "__ne__" = some none)
    (l14 : K.lookup f14 = some ⟨oc14, od14, .func (PySem.W.fnOf "__eq__" "Likeness.__eq__" (defArgs s_Likeness_M___eq__) (defBody s_Likeness_M___eq__) (defScope s_Likeness_M___eq__) .none kV14 dc14 pm14 an14 cv14 ct14), sl14⟩)
    (c14 : PySem.W.codeIn K cv14 "Likeness.__eq__" = true)
    (k14 : PySem.W.keepIn K (.ref f14) = true)
    (a15 : PySem.W.findIn K (.ref C_Likeness) "flipped" = some (some (.ref f15)))
    (i15 : PySem.W.isFn K (.ref f15) = true)
    (l15 : K.lookup f15 = some ⟨oc15, od15, .func (PySem.W.fnOf "flipped" "Likeness.flipped" (defArgs s_Likeness_M_flipped) (defBody s_Likeness_M_flipped) (defScope s_Likeness_M_flipped) .none kV15 dc15 pm15 an15 cv15 ct15), sl15⟩)
    (c15 : PySem.W.codeIn K cv15 "Likeness.flipped" = true)
    (k15 : PySem.W.keepIn K (.ref f15) = true)
    (a16 : PySem.W.findIn K (.ref C_Likeness) "is_full" = some (some (.ref p16)))
    (g16 : PySem.W.specialIn K (.ref p16) "__get__" = some (some (.builtin "property.__get__")))
    (t16 : PySem.W.takesIn K (.ref p16) = some true)
    (r16 : PySem.W.recIn K p16 "property" = some (.ref f16 :: rs16))
    (l16 : K.lookup f16 = some ⟨oc16, od16, .func (PySem.W.fnOf "is_full" "Likeness.is_full" (defArgs s_Likeness_M_is_full) (defBody s_Likeness_M_is_full) (defScope s_Likeness_M_is_full) .none kV16 dc16 pm16 an16 cv16 ct16), sl16⟩)
    (c16 : PySem.W.codeIn K cv16 "Likeness.is_full" = true)
    (k16 : PySem.W.keepIn K (.ref f16) = true)
    (a17 : PySem.W.nsIn K mainGlobals "law" = some (some (.ref f17)))
    (l17 : K.lookup f17 = some ⟨oc17, od17, .func (PySem.W.fnOf "law" "law" (defArgs s_law) (defBody s_law) (defScope s_law) .none kV17 dc17 pm17 an17 cv17 ct17), sl17⟩)
    (c17 : PySem.W.codeIn K cv17 "law" = true)
    (k17 : PySem.W.keepIn K (.ref f17) = true)
    (z_abs : PySem.W.nsIn K mainGlobals "abs" = some none)
    (z_all : PySem.W.nsIn K mainGlobals "all" = some none)
    (z_bool : PySem.W.nsIn K mainGlobals "bool" = some none)
    (z_enumerate : PySem.W.nsIn K mainGlobals "enumerate" = some none)
    (z_int : PySem.W.nsIn K mainGlobals "int" = some none)
    (z_isinstance : PySem.W.nsIn K mainGlobals "isinstance" = some none)
    (z_len : PySem.W.nsIn K mainGlobals "len" = some none)
    (z_list : PySem.W.nsIn K mainGlobals "list" = some none)
    (z_min : PySem.W.nsIn K mainGlobals "min" = some none)
    (z_range : PySem.W.nsIn K mainGlobals "range" = some none)
    (z_repr : PySem.W.nsIn K mainGlobals "repr" = some none)
    (z_sorted : PySem.W.nsIn K mainGlobals "sorted" = some none)
    (z_tuple : PySem.W.nsIn K mainGlobals "tuple" = some none)
    (e_MOST_LINKED : PySem.W.nsIn K mainGlobals "MOST_LINKED" = some (some (.int 40 tk_MOST_LINKED))) :
    ∃ fd : FuncData, (∀ (s : Shared) (v : Value), BindsTo s fd ⟨[v], []⟩ [("_law_script", v)]) ∧ ∀ base : Heap, K.In base → base.Ns mainGlobals mg → LawAt l.prog w K mg base fa fd "_law_script" (spLaw K) := by
  have ee := hfa.symm.trans (PySem.W.mg_of X G a17)
  cases ee
  have T : Txt K mg C_Likeness := ⟨⟨⟨_, _, fun_mk (st := s__law_hand) l0 c0 k0, (fun_mk (st := s__law_hand) l0 c0 k0).binds (fun _ _ _ _ _ _ us hl => match us, hl with | [_], _ => rfl), PySem.W.mg_of X G a0⟩⟩,
    ⟨⟨_, _, fun_mk (st := s__law_mix) l1 c1 k1, (fun_mk (st := s__law_mix) l1 c1 k1).binds (fun _ _ _ _ _ _ us hl => match us, hl with | [_, _], _ => rfl), PySem.W.mg_of X G a1⟩⟩,
    ⟨⟨_, _, fun_mk (st := s__law_draw) l2 c2 k2, (fun_mk (st := s__law_draw) l2 c2 k2).binds (fun _ _ _ _ _ _ us hl => match us, hl with | [_, _], _ => rfl), PySem.W.mg_of X G a2⟩⟩,
    ⟨⟨_, _, fun_mk (st := s__law_one) l3 c3 k3, (fun_mk (st := s__law_one) l3 c3 k3).binds (fun _ _ _ _ _ _ us hl => match us, hl with | [_, _], _ => rfl), PySem.W.mg_of X G a3⟩⟩,
    ⟨⟨_, _, fun_mk (st := s__law_links) l4 c4 k4, (fun_mk (st := s__law_links) l4 c4 k4).binds (fun _ _ _ _ _ _ us hl => match us, hl with | [_, _, _, _], _ => rfl), PySem.W.mg_of X G a4⟩⟩,
    ⟨⟨_, _, fun_mk (st := s_is_sequence) l5 c5 k5, (fun_mk (st := s_is_sequence) l5 c5 k5).binds (fun _ _ _ _ _ _ us hl => match us, hl with | [_], _ => rfl), PySem.W.mg_of X G a5⟩⟩,
    ⟨⟨_, _, fun_mk (st := s_is_whole) l6 c6 k6, (fun_mk (st := s_is_whole) l6 c6 k6).binds (fun _ _ _ _ _ _ us hl => match us, hl with | [_, _, _], _ => rfl), PySem.W.mg_of X G a6⟩⟩,
    ⟨⟨_, _, fun_mk (st := s_check_links) l7 c7 k7, (fun_mk (st := s_check_links) l7 c7 k7).binds (fun _ _ _ _ _ _ us hl => match us, hl with | [_, _, _], _ => rfl), PySem.W.mg_of X G a7⟩⟩,
    ⟨⟨_, _, fun_mk (st := s_check_sizes) l8 c8 k8, (fun_mk (st := s_check_sizes) l8 c8 k8).binds (fun _ _ _ _ _ _ us hl => match us, hl with | [_, _], _ => rfl), PySem.W.mg_of X G a8⟩⟩,
    ⟨⟨_, _, fun_mk (st := s_Likeness_M___init__) l9 c9 k9, (fun_mk (st := s_Likeness_M___init__) l9 c9 k9).binds (fun _ _ _ _ _ _ us hl => match us, hl with | [_, _, _, _], _ => rfl), ⟨mkC_Likeness, a9, i9, kcC_Likeness⟩⟩⟩,
    ⟨⟨_, _, fun_mk (st := s_Likeness_M_then) l10 c10 k10, (fun_mk (st := s_Likeness_M_then) l10 c10 k10).binds (fun _ _ _ _ _ _ us hl => match us, hl with | [_, _], _ => rfl), ⟨a10, i10, k10⟩⟩⟩,
    ⟨⟨_, _, fun_mk (st := s__law_is_whole) l11 c11 k11, (fun_mk (st := s__law_is_whole) l11 c11 k11).binds (fun _ _ _ _ _ _ us hl => match us, hl with | [_, _], _ => rfl), PySem.W.mg_of X G a11⟩⟩,
    ⟨⟨_, _, fun_mk (st := s__law_told) l12 c12 k12, (fun_mk (st := s__law_told) l12 c12 k12).binds (fun _ _ _ _ _ _ us hl => match us, hl with | [_, _, _, _], _ => rfl), PySem.W.mg_of X G a12⟩⟩,
    ⟨⟨_, _, fun_mk (st := s__law_chained) l13 c13 k13, (fun_mk (st := s__law_chained) l13 c13 k13).binds (fun _ _ _ _ _ _ us hl => match us, hl with | [_, _], _ => rfl), PySem.W.mg_of X G a13⟩⟩,
    ⟨⟨_, _, fun_mk (st := s_Likeness_M___eq__) l14 c14 k14, (fun_mk (st := s_Likeness_M___eq__) l14 c14 k14).binds (fun _ _ _ _ _ _ us hl => match us, hl with | [_, _], _ => rfl), ⟨a14, i14⟩, ⟨⟨_, _, _, _, _, _, _, _, _, _, _, _, _, _, _, _, lc14, no14, ne14, nn14⟩, fn_cls i14⟩⟩⟩,
    ⟨⟨_, _, fun_mk (st := s_Likeness_M_flipped) l15 c15 k15, (fun_mk (st := s_Likeness_M_flipped) l15 c15 k15).binds (fun _ _ _ _ _ _ us hl => match us, hl with | [_], _ => rfl), ⟨a15, i15, k15⟩⟩⟩,
    ⟨⟨_, _, _, fun_mk (st := s_Likeness_M_is_full) l16 c16 k16, (fun_mk (st := s_Likeness_M_is_full) l16 c16 k16).binds (fun _ _ _ _ _ _ us hl => match us, hl with | [_], _ => rfl), ⟨a16, g16, t16, ⟨_, r16⟩⟩⟩⟩,
    ⟨⟨pgC_Likeness, hdC_Likeness, poC_Likeness, saC_Likeness⟩, PySem.W.mg_of X G aC_Likeness, ⟨⟨pgC_Likeness, hdC_Likeness, poC_Likeness, saC_Likeness⟩, haC_Likeness, hn0, ht0, hmC_Likeness, kiC_Likeness⟩⟩,
    no_Likeness_first,
    no_Likeness_links,
    no_Likeness_second,
    PySem.W.mg_none_of X G z_abs,
    PySem.W.mg_none_of X G z_all,
    PySem.W.mg_none_of X G z_bool,
    PySem.W.mg_none_of X G z_enumerate,
    PySem.W.mg_none_of X G z_int,
    PySem.W.mg_none_of X G z_isinstance,
    PySem.W.mg_none_of X G z_len,
    PySem.W.mg_none_of X G z_list,
    PySem.W.mg_none_of X G z_min,
    PySem.W.mg_none_of X G z_range,
    PySem.W.mg_none_of X G z_repr,
    PySem.W.mg_none_of X G z_sorted,
    PySem.W.mg_none_of X G z_tuple,
    ⟨_, PySem.W.mg_of X G e_MOST_LINKED⟩⟩
  refine ⟨PySem.W.fnOf "law" "law" (defArgs s_law) (defBody s_law) (defScope s_law) .none kV17 dc17 pm17 an17 cv17 ct17, fun s v => .of_eq rfl, fun base _ _ => ?_⟩
  have o__law_hand : OkP l.prog w K mg base 2 "_law_hand" 1 (ph__law_hand C_Likeness) := okP_of T.d__law_hand sc__law_hand rfl (q__law_hand T ) (U C_Likeness).p__law_hand
  have o__law_mix : OkP l.prog w K mg base 2 "_law_mix" 2 (ph__law_mix C_Likeness) := okP_of T.d__law_mix sc__law_mix rfl (q__law_mix T ) (U C_Likeness).p__law_mix
  have o__law_draw : OkH l.prog w K mg base 4 "_law_draw" 1 (ph__law_draw C_Likeness) := ok__law_draw T o__law_mix
  have o__law_one : OkH l.prog w K mg base 6 "_law_one" 1 (ph__law_one C_Likeness) := okH_of T.d__law_one sc__law_one rfl (q__law_one T o__law_draw) (U C_Likeness).p__law_one
  have o__law_links : OkH l.prog w K mg base 6 "_law_links" 3 (ph__law_links C_Likeness) := okH_of T.d__law_links sc__law_links rfl (q__law_links T o__law_draw) (U C_Likeness).p__law_links
  have o_is_sequence : OkP l.prog w K mg base 2 "is_sequence" 1 (ph_is_sequence C_Likeness) := okP_of T.d_is_sequence sc_is_sequence rfl (q_is_sequence T ) (U C_Likeness).p_is_sequence
  have o_is_whole : OkP l.prog w K mg base 2 "is_whole" 3 (ph_is_whole C_Likeness) := okP_of T.d_is_whole sc_is_whole rfl (q_is_whole T ) (U C_Likeness).p_is_whole
  have o_check_links : OkP l.prog w K mg base 4 "check_links" 3 (ph_check_links C_Likeness) := okP_of T.d_check_links sc_check_links rfl (q_check_links T o_is_sequence o_is_whole) (U C_Likeness).p_check_links
  have o_check_sizes : OkP l.prog w K mg base 4 "check_sizes" 2 (ph_check_sizes C_Likeness) := okP_of T.d_check_sizes sc_check_sizes rfl (q_check_sizes T o_is_whole) (U C_Likeness).p_check_sizes
  have o_Likeness_M___init__ : OkI l.prog w K mg base 6 C_Likeness 3 (ph_Likeness_M___init__ C_Likeness) := okI_of T.d_Likeness_M___init__ sc_Likeness_M___init__ rfl (q_Likeness_M___init__ T o_check_links o_check_sizes) (U C_Likeness).p_Likeness_M___init__
  have o_Likeness_M_then : OkM l.prog w K mg base 8 C_Likeness "then" 1 (ph_Likeness_M_then C_Likeness) := okM_of T.d_Likeness_M_then sc_Likeness_M_then rfl (q_Likeness_M_then T o_Likeness_M___init__) (U C_Likeness).p_Likeness_M_then
  have o__law_is_whole : OkP l.prog w K mg base 2 "_law_is_whole" 2 (ph__law_is_whole C_Likeness) := okP_of T.d__law_is_whole sc__law_is_whole rfl (q__law_is_whole T ) (U C_Likeness).p__law_is_whole
  have o__law_told : OkP l.prog w K mg base 4 "_law_told" 4 (ph__law_told C_Likeness) := okP_of T.d__law_told sc__law_told rfl (q__law_told T o__law_is_whole) (U C_Likeness).p__law_told
  have o__law_chained : OkP l.prog w K mg base 2 "_law_chained" 2 (ph__law_chained C_Likeness) := okP_of T.d__law_chained sc__law_chained rfl (q__law_chained T ) (U C_Likeness).p__law_chained
  have o_Likeness_M___eq__ : OkEq l.prog w K mg base 2 C_Likeness (ph_Likeness_M___eq__ C_Likeness) := okEq_of T.d_Likeness_M___eq__ sc_Likeness_M___eq__ rfl (q_Likeness_M___eq__ T ) (U C_Likeness).p_Likeness_M___eq__
  have o_Likeness_M_flipped : OkM l.prog w K mg base 8 C_Likeness "flipped" 0 (ph_Likeness_M_flipped C_Likeness) := okM_of T.d_Likeness_M_flipped sc_Likeness_M_flipped rfl (q_Likeness_M_flipped T o_Likeness_M___init__) (U C_Likeness).p_Likeness_M_flipped
  have o_Likeness_M_is_full : OkPr l.prog w K mg base 2 C_Likeness "is_full" (ph_Likeness_M_is_full C_Likeness) := okPr_of T.d_Likeness_M_is_full sc_Likeness_M_is_full rfl (q_Likeness_M_is_full T ) (U C_Likeness).p_Likeness_M_is_full
  exact law_hand (fun_mk (st := s_law) l17 c17 k17) sc_law (by decide) (s1 := (defBody s_law).headD (.Pass ⟨0, 0, 0, 0⟩)) (rest := (defBody s_law).tail) rfl (fun cdv st0 H E F => q_law0 o__law_hand cdv st0 H _ E F) (fun cdv st0 H E F => q_law T o__law_one o__law_draw o__law_links o_Likeness_M___init__ o_Likeness_M_then o__law_told o__law_chained o_Likeness_M___eq__ o_Likeness_M_flipped o_Likeness_M_is_full cdv st0 H _ E F) (U C_Likeness).p_law
theorem walk {l : PySem.W.OpenLaw} {q : Program} {loose : List Str} {XP : (Str → Option Value) → Heap → Prop} {YP : World → Heap → Prop} {d : DefRec} {K : Params → Fg} (hn : l.most = some 63) (hdf : d.params.defaults = [])
    (hY : ∀ (w : World) (h : Heap), YP w h → (K w.params).In h)
    (Fo : ∀ (w : World) (mg : Str → Option Value) (fa : Addr) (h : Heap), (K w.params).In h → h.Ns mainGlobals mg → mg d.name = some (.ref fa) →
      ∃ fd : FuncData, (∀ (s : Shared) (u : Value), BindsTo s fd ⟨[u], []⟩ [("_law_script", u)]) ∧ ∀ base : Heap, (K w.params).In base → base.Ns mainGlobals mg → LawAt l.prog w (K w.params) mg base fa fd "_law_script" (spLaw (K w.params))) :
    PySem.W.WalkO q loose XP YP l.row.toRowW d [] (fun f vs => PySem.call f vs) :=
  walk_here (sp := spLaw) (x := "_law_script") hn (by decide) hdf hY Fo fun _ _ a ns hl hS => ⟨a, ns, rfl, hl, hS, fun _ => rfl⟩
end Kb
namespace Kb
open PySem L2 Dx
theorem p_is_sequence (C : Addr) (ds : List D) (Q : Ret → Prop) (QE : D → Prop) (hl : ds.length = 1) (h : ph_is_sequence C ds Q QE) : dl_is_sequence C (endsD Q QE) (startD nm_is_sequence ds) := by
  obtain ⟨d, rfl, hd, h⟩ := h
  show d.isObj = false ∧ Q (.val (.bl (subTy d.ty "list" || subTy d.ty "tuple")))
  refine ⟨hd, ?_⟩
  cases d <;> first | (cases hd; done) | exact h
theorem p_is_whole (C : Addr) (ds : List D) (Q : Ret → Prop) (QE : D → Prop) (hl : ds.length = 3) (h : ph_is_whole C ds Q QE) : dl_is_whole C (endsD Q QE) (startD nm_is_whole ds) := by
  obtain ⟨d, lo, hi, rfl, hd, h⟩ := h
  cases d <;> first | (cases hd; done) | (simp [dl_is_whole, startD, nm_is_whole, dAsg, dOwn, dC, dVar, dOp, dUn, dCl, dClB, dOpB, dBs, dCons, dNil, dTup, dLst, dIf, dAnd, dOr, dNot, dAndV, dOrV, dNotV, dTest, dChain, dCond, dRet, dRetO, dRetN, dRetOwn, dNext, dDrop, dCall, dCallN, dCallB, dCallH, dCallHN, hName, hTup_tup, hLst_lst, hCons_cons, hNil_nil, dItems, dRange1, dRange2, dEnum, dAltI, dAppend, dPopAt, dPop, dSetIx, dPutK, dIxB, dListB, dSl, dPart, dNoPart, dDisp1, dFor, dComp, dYes, oAdd, oSub, oMod, oFdiv, oPow, oLt, oLe, oGt, oGe, oMul, oNeg, oI, oI0, oEq, oNe, oIn, oIs, oIx, oLen, oInt, oI1, oAbs, oI2, oDivmod, oList, oTuple, oUpper, oIsi, oIsi2, Sl.own, peek, isLst, lstOf, isDic, keysOf, valsOf, D.flat, D.isObj, D.ty, subTy, D.isN, dq_int, dq_bl, dq_bi, dq_ib, dq_str, dq_non, dq_lst, dq_tup, dq_nil, dq_cons, asLst, asTup, asStr, asSeq, Ret.d, endsD, Slot.hid, unsets, phDraw, plain_int, plain_bl, plain_non, List.getElem?_cons_zero, List.getElem?_cons_succ, List.set_cons_zero, List.set_cons_succ]; done) | skip
  all_goals simp [dl_is_whole, startD, nm_is_whole, dAsg, dOwn, dC, dVar, dOp, dUn, dCl, dClB, dOpB, dBs, dCons, dNil, dTup, dLst, dIf, dAnd, dOr, dNot, dAndV, dOrV, dNotV, dTest, dChain, dCond, dRet, dRetO, dRetN, dRetOwn, dNext, dDrop, dCall, dCallN, dCallB, dCallH, dCallHN, hName, hTup_tup, hLst_lst, hCons_cons, hNil_nil, dItems, dRange1, dRange2, dEnum, dAltI, dAppend, dPopAt, dPop, dSetIx, dPutK, dIxB, dListB, dSl, dPart, dNoPart, dDisp1, dFor, dComp, dYes, oAdd, oSub, oMod, oFdiv, oPow, oLt, oLe, oGt, oGe, oMul, oNeg, oI, oI0, oEq, oNe, oIn, oIs, oIx, oLen, oInt, oI1, oAbs, oI2, oDivmod, oList, oTuple, oUpper, oIsi, oIsi2, Sl.own, peek, isLst, lstOf, isDic, keysOf, valsOf, D.flat, D.isObj, D.ty, subTy, D.isN, dq_int, dq_bl, dq_bi, dq_ib, dq_str, dq_non, dq_lst, dq_tup, dq_nil, dq_cons, asLst, asTup, asStr, asSeq, Ret.d, endsD, Slot.hid, unsets, phDraw, plain_int, plain_bl, plain_non, List.getElem?_cons_zero, List.getElem?_cons_succ, List.set_cons_zero, List.set_cons_succ]
  all_goals try exact h
  rename_i i
  unfold isWh at h
  by_cases hc : lo ≤ i
  · rw [if_pos hc]; simpa [hc] using h
  · rw [if_neg hc]; simpa [hc] using h
theorem p__law_mix (C : Addr) (ds : List D) (Q : Ret → Prop) (QE : D → Prop) (hl : ds.length = 2) (h : ph__law_mix C ds Q QE) : dl__law_mix C (endsD Q QE) (startD nm__law_mix ds) := by
  obtain ⟨a, b, rfl, a0, a1, b0, b1, h⟩ := h
  simp [dl__law_mix, startD, nm__law_mix, dSeq, dAsg, dOwn, dC, dVar, dOp, dUn, dCl, dClB, dOpB, dBs, dCons, dNil, dTup, dLst, dIf, dAnd, dOr, dNot, dAndV, dOrV, dNotV, dTest, dChain, dCond, dRet, dRetO, dRetN, dRetOwn, dNext, dDrop, dCall, dCallN, dCallB, dCallH, dCallHN, hName, hTup_tup, hLst_lst, hCons_cons, hNil_nil, dItems, dRange1, dRange2, dEnum, dAltI, dAppend, dPopAt, dPop, dSetIx, dPutK, dIxB, dListB, dSl, dPart, dNoPart, dDisp1, dFor, dComp, dYes, oAdd, oSub, oMod, oFdiv, oPow, oLt, oLe, oGt, oGe, oMul, oNeg, oI, oI0, oEq, oNe, oIn, oIs, oIx, oLen, oInt, oI1, oAbs, oI2, oDivmod, oList, oTuple, oUpper, oIsi, oIsi2, Sl.own, peek, isLst, lstOf, isDic, keysOf, valsOf, D.flat, D.isObj, D.ty, subTy, D.isN, dq_int, dq_bl, dq_bi, dq_ib, dq_str, dq_non, dq_lst, dq_tup, dq_nil, dq_cons, asLst, asTup, asStr, asSeq, Ret.d, endsD, Slot.hid, unsets, phDraw, plain_int, plain_bl, plain_non, List.getElem?_cons_zero, List.getElem?_cons_succ, List.set_cons_zero, List.set_cons_succ]
  have p0 : 0 ≤ (a * 48271 + b * 16807 + 11) % 2147483647 := Int.emod_nonneg _ (by decide)
  have p1 : (a * 48271 + b * 16807 + 11) % 2147483647 < 2147483647 := Int.emod_lt_of_pos _ (by decide)
  generalize (a * 48271 + b * 16807 + 11) % 2147483647 = p at *
  have q0 : 0 ≤ (p * p + p / 127 * 40692 + b * 69621) % 2147483399 := Int.emod_nonneg _ (by decide)
  have q1 : (p * p + p / 127 * 40692 + b * 69621) % 2147483399 < 2147483399 := Int.emod_lt_of_pos _ (by decide)
  generalize (p * p + p / 127 * 40692 + b * 69621) % 2147483399 = q at *
  exact ⟨mul64r (by decide) (by decide), mul64r (by decide) (by decide), mul64l p0 (by omega), divW (by decide) (by decide), mul64r (by decide) (by decide), mul64r (by decide) (by decide), mul64l q0 (by omega), divW (by decide) (by decide), divW (by decide) (by decide),
    h _ (Int.ediv_nonneg (Int.emod_nonneg _ (by decide)) (by decide))⟩
theorem p__law_one (C : Addr) (ds : List D) (Q : Ret → Prop) (QE : D → Prop) (hl : ds.length = 1) (h : ph__law_one C ds Q QE) : dl__law_one C (endsD Q QE) (startH nm__law_one ds) := by
  obtain ⟨d, xs, rfl, hd, l1, l2, h⟩ := h
  have go : 0 < xs.length ∧ xs.length.log2 < 4000 ∧ ∀ r : Int, 0 ≤ r → r < xs.length → ∃ f, L2.atI xs r = some f ∧ Q (.val f) := ⟨by omega, log_small (n := xs.length) (by omega), fun r r0 r1 => let ⟨f, e, m⟩ := atI_mem r0 r1; ⟨f, e, h f m⟩⟩
  cases d <;> first | (cases hd; done) | skip
  all_goals obtain rfl : _ = xs := Option.some.inj hd
  all_goals simp [dl__law_one, startH, nm__law_one, dSeq, dAsg, dOwn, dC, dVar, dOp, dUn, dCl, dClB, dOpB, dBs, dCons, dNil, dTup, dLst, dIf, dAnd, dOr, dNot, dAndV, dOrV, dNotV, dTest, dChain, dCond, dRet, dRetO, dRetN, dRetOwn, dNext, dDrop, dCall, dCallN, dCallB, dCallH, dCallHN, hName, hTup_tup, hLst_lst, hCons_cons, hNil_nil, dItems, dRange1, dRange2, dEnum, dAltI, dAppend, dPopAt, dPop, dSetIx, dPutK, dIxB, dListB, dSl, dPart, dNoPart, dDisp1, dFor, dComp, dYes, oAdd, oSub, oMod, oFdiv, oPow, oLt, oLe, oGt, oGe, oMul, oNeg, oI, oI0, oEq, oNe, oIn, oIs, oIx, oLen, oInt, oI1, oAbs, oI2, oDivmod, oList, oTuple, oUpper, oIsi, oIsi2, Sl.own, peek, isLst, lstOf, isDic, keysOf, valsOf, D.flat, D.isObj, D.ty, subTy, D.isN, dq_int, dq_bl, dq_bi, dq_ib, dq_str, dq_non, dq_lst, dq_tup, dq_nil, dq_cons, asLst, asTup, asStr, asSeq, Ret.d, endsD, Slot.hid, unsets, phDraw, plain_int, plain_bl, plain_non, List.getElem?_cons_zero, List.getElem?_cons_succ, List.set_cons_zero, List.set_cons_succ]
  all_goals exact go
theorem p__law_hand (C : Addr) (ds : List D) (Q : Ret → Prop) (QE : D → Prop) (hl : ds.length = 1) (h : ph__law_hand C ds Q QE) : dl__law_hand C (endsD Q QE) (startD nm__law_hand ds) := by
  obtain ⟨ns, rfl, l63, h⟩ := h
  simp [dl__law_hand, startD, nm__law_hand, dSeq, dAsg, dOwn, dC, dVar, dOp, dUn, dCl, dClB, dOpB, dBs, dCons, dNil, dTup, dLst, dIf, dAnd, dOr, dNot, dAndV, dOrV, dNotV, dTest, dChain, dCond, dRet, dRetO, dRetN, dRetOwn, dNext, dDrop, dCall, dCallN, dCallB, dCallH, dCallHN, hName, hTup_tup, hLst_lst, hCons_cons, hNil_nil, dItems, dRange1, dRange2, dEnum, dAltI, dAppend, dPopAt, dPop, dSetIx, dPutK, dIxB, dListB, dSl, dPart, dNoPart, dDisp1, dFor, dComp, dYes, oAdd, oSub, oMod, oFdiv, oPow, oLt, oLe, oGt, oGe, oMul, oNeg, oI, oI0, oEq, oNe, oIn, oIs, oIx, oLen, oInt, oI1, oAbs, oI2, oDivmod, oList, oTuple, oUpper, oIsi, oIsi2, Sl.own, peek, isLst, lstOf, isDic, keysOf, valsOf, D.flat, D.isObj, D.ty, subTy, D.isN, dq_int, dq_bl, dq_bi, dq_ib, dq_str, dq_non, dq_lst, dq_tup, dq_nil, dq_cons, asLst, asTup, asStr, asSeq, Ret.d, endsD, Slot.hid, unsets, phDraw, plain_int, plain_bl, plain_non, List.getElem?_cons_zero, List.getElem?_cons_succ, List.set_cons_zero, List.set_cons_succ]
  refine fo_of (fun ds s => ∃ (t : Int) (x y : Slot), s = [.val (.scr ns), .val (.int t), x, y] ∧ 0 ≤ t ∧ t < 2147483629 ∧ ∀ d ∈ ds, ∃ (k : Nat) (c : Int), d = .tup [.int k, .int c] ∧ k < 63) ?_ ?_ ⟨0, .un, .un, rfl, by decide, by decide, fun d hd => ?_⟩
  · rintro s ⟨t, x, y, rfl, t0, t1, _⟩
    simp [dAsg, dOwn, dC, dVar, dOp, dUn, dCl, dClB, dOpB, dBs, dCons, dNil, dTup, dLst, dIf, dAnd, dOr, dNot, dAndV, dOrV, dNotV, dTest, dChain, dCond, dRet, dRetO, dRetN, dRetOwn, dNext, dDrop, dCall, dCallN, dCallB, dCallH, dCallHN, hName, hTup_tup, hLst_lst, hCons_cons, hNil_nil, dItems, dRange1, dRange2, dEnum, dAltI, dAppend, dPopAt, dPop, dSetIx, dPutK, dIxB, dListB, dSl, dPart, dNoPart, dDisp1, dFor, dComp, dYes, oAdd, oSub, oMod, oFdiv, oPow, oLt, oLe, oGt, oGe, oMul, oNeg, oI, oI0, oEq, oNe, oIn, oIs, oIx, oLen, oInt, oI1, oAbs, oI2, oDivmod, oList, oTuple, oUpper, oIsi, oIsi2, Sl.own, peek, isLst, lstOf, isDic, keysOf, valsOf, D.flat, D.isObj, D.ty, subTy, D.isN, dq_int, dq_bl, dq_bi, dq_ib, dq_str, dq_non, dq_lst, dq_tup, dq_nil, dq_cons, asLst, asTup, asStr, asSeq, Ret.d, endsD, Slot.hid, unsets, phDraw, plain_int, plain_bl, plain_non, List.getElem?_cons_zero, List.getElem?_cons_succ, List.set_cons_zero, List.set_cons_succ]
    refine tu_of (fun ds acc => ∃ ms rs : List Int, acc = ms.map (fun n => .int (n.natAbs : Int)) ∧ ds = rs.map .int ∧ ms ++ rs = ns) ?_ ?_ ⟨[], ns, rfl, rfl, rfl⟩
    · rintro acc ⟨ms, rs, rfl, hr, e⟩
      have : rs = [] := by cases rs with | nil => rfl | cons _ _ => cases hr
      subst this
      rw [List.append_nil] at e
      subst e
      exact ⟨Nat.le_trans (by decide) size_ge, h t t0 t1⟩
    · rintro d r acc ⟨ms, rs, rfl, hr, e⟩ Q' hQ
      cases rs with
      | nil => cases hr
      | cons c rs =>
        cases hr
        simp [dAsg, dOwn, dC, dVar, dOp, dUn, dCl, dClB, dOpB, dBs, dCons, dNil, dTup, dLst, dIf, dAnd, dOr, dNot, dAndV, dOrV, dNotV, dTest, dChain, dCond, dRet, dRetO, dRetN, dRetOwn, dNext, dDrop, dCall, dCallN, dCallB, dCallH, dCallHN, hName, hTup_tup, hLst_lst, hCons_cons, hNil_nil, dItems, dRange1, dRange2, dEnum, dAltI, dAppend, dPopAt, dPop, dSetIx, dPutK, dIxB, dListB, dSl, dPart, dNoPart, dDisp1, dFor, dComp, dYes, oAdd, oSub, oMod, oFdiv, oPow, oLt, oLe, oGt, oGe, oMul, oNeg, oI, oI0, oEq, oNe, oIn, oIs, oIx, oLen, oInt, oI1, oAbs, oI2, oDivmod, oList, oTuple, oUpper, oIsi, oIsi2, Sl.own, peek, isLst, lstOf, isDic, keysOf, valsOf, D.flat, D.isObj, D.ty, subTy, D.isN, dq_int, dq_bl, dq_bi, dq_ib, dq_str, dq_non, dq_lst, dq_tup, dq_nil, dq_cons, asLst, asTup, asStr, asSeq, Ret.d, endsD, Slot.hid, unsets, phDraw, plain_int, plain_bl, plain_non, List.getElem?_cons_zero, List.getElem?_cons_succ, List.set_cons_zero, List.set_cons_succ]
        have hl2 : ms.length + (rs.length + 1) = ns.length := by rw [← e]; simp
        refine ⟨Nat.lt_of_lt_of_le (by omega) size_ge, hQ _ ⟨ms ++ [c], rs, ?_, rfl, by simpa using e⟩⟩
        rw [List.map_append]
        have ec : (if c < 0 then -c else c) = (c.natAbs : Int) := by split <;> omega
        rw [List.map_cons, List.map_nil, ec]
  · rintro d ds s ⟨t, x, y, rfl, t0, t1, hd⟩ k hk
    obtain ⟨i, c, rfl, i63⟩ := hd d List.mem_cons_self
    simp [dAsg, dOwn, dC, dVar, dOp, dUn, dCl, dClB, dOpB, dBs, dCons, dNil, dTup, dLst, dIf, dAnd, dOr, dNot, dAndV, dOrV, dNotV, dTest, dChain, dCond, dRet, dRetO, dRetN, dRetOwn, dNext, dDrop, dCall, dCallN, dCallB, dCallH, dCallHN, hName, hTup_tup, hLst_lst, hCons_cons, hNil_nil, dItems, dRange1, dRange2, dEnum, dAltI, dAppend, dPopAt, dPop, dSetIx, dPutK, dIxB, dListB, dSl, dPart, dNoPart, dDisp1, dFor, dComp, dYes, oAdd, oSub, oMod, oFdiv, oPow, oLt, oLe, oGt, oGe, oMul, oNeg, oI, oI0, oEq, oNe, oIn, oIs, oIx, oLen, oInt, oI1, oAbs, oI2, oDivmod, oList, oTuple, oUpper, oIsi, oIsi2, Sl.own, peek, isLst, lstOf, isDic, keysOf, valsOf, D.flat, D.isObj, D.ty, subTy, D.isN, dq_int, dq_bl, dq_bi, dq_ib, dq_str, dq_non, dq_lst, dq_tup, dq_nil, dq_cons, asLst, asTup, asStr, asSeq, Ret.d, endsD, Slot.hid, unsets, phDraw, plain_int, plain_bl, plain_non, List.getElem?_cons_zero, List.getElem?_cons_succ, List.set_cons_zero, List.set_cons_succ]
    refine ⟨mul64r (by decide) (by decide), mul64r (by omega) (by omega), hk _ ⟨_, _, _, rfl, Int.emod_nonneg _ (by decide), Int.emod_lt_of_pos _ (by decide), fun d' hd' => hd d' (List.mem_cons_of_mem _ hd')⟩⟩
  · obtain ⟨j, hj, e⟩ := List.getElem_of_mem hd
    have e2 : (Dx.numbered 0 (ns.map D.int))[j]? = some d := by rw [← e]; exact List.getElem?_eq_getElem hj
    rw [numbered_at] at e2
    obtain ⟨d', h1, h2⟩ := Option.map_eq_some_iff.mp e2
    rw [List.getElem?_map] at h1
    obtain ⟨c, h3, h4⟩ := Option.map_eq_some_iff.mp h1
    subst h4
    have hj2 := (List.getElem?_eq_some_iff.mp h3).1
    exact ⟨0 + j, c, h2.symm, by omega⟩
end Kb
namespace Kb
open PySem L2 Dx
theorem bqd {i j : Int} : (i == j) = decide (i = j) := by by_cases h : i = j <;> simp [h]
theorem n12 : ("second" : Str) ≠ "first" := by decide
theorem n13 : ("links" : Str) ≠ "first" := by decide
theorem n23 : ("links" : Str) ≠ "second" := by decide
theorem lk_first {C : Addr} {a b : Int} {ps : Lks} : attrOf C "first" (lk C a b ps) = some (.int a) := by simp [attrOf, lk, lookD]
theorem lk_second {C : Addr} {a b : Int} {ps : Lks} : attrOf C "second" (lk C a b ps) = some (.int b) := by simp [attrOf, lk, lookD, n12]
theorem lk_links {C : Addr} {a b : Int} {ps : Lks} : attrOf C "links" (lk C a b ps) = some (.tup (ps.map prD)) := by simp [attrOf, lk, lookD, n13, n23]
theorem lk_isC {C : Addr} {a b : Int} {ps : Lks} : isC C (lk C a b ps) = true := by simp [isC, lk]
theorem lk_obj {C : Addr} {a b : Int} {ps : Lks} : (lk C a b ps).isObj = true := by simp [lk, D.isObj]
theorem lk_then {C : Addr} {a b : Int} {ps : Lks} : instOf C "then" (lk C a b ps) = true := by
  simp [instOf, lk, hasAttr]
  decide
theorem lk_flipped {C : Addr} {a b : Int} {ps : Lks} : instOf C "flipped" (lk C a b ps) = true := by
  simp [instOf, lk, hasAttr]
  decide
theorem dep_pr {p : Int × Int} : (prD p).dep ≤ 2 ∧ (prD p).py.isSome = true := by
  refine ⟨by simp [prD, D.dep, D.deps], ?_⟩
  simp [prD, D.py, D.pys]
theorem pys_prs : ∀ {ps : Lks}, (D.pys (ps.map prD)).isSome = true ∧ D.deps (ps.map prD) ≤ 2
  | [] => ⟨rfl, by simp [D.deps]⟩
  | p :: r => by
    obtain ⟨h2, h3⟩ := pys_prs (ps := r)
    obtain ⟨a, ha⟩ := Option.isSome_iff_exists.mp (dep_pr (p := p)).2
    obtain ⟨b, hb⟩ := Option.isSome_iff_exists.mp h2
    refine ⟨?_, ?_⟩
    · rw [List.map_cons]
      unfold D.pys
      rw [ha, hb]
      rfl
    · rw [List.map_cons]
      have := (dep_pr (p := p)).1
      simp [D.deps]
      omega
theorem plain_prsL {ps : Lks} : (D.lst (ps.map prD)).plain := plain_lst ⟨pys_prs.1, Nat.le_trans pys_prs.2 (by decide)⟩
theorem plain_prsT {ps : Lks} : (D.tup (ps.map prD)).plain := plain_tup ⟨pys_prs.1, Nat.le_trans pys_prs.2 (by decide)⟩
theorem eqv_pr {p q : Int × Int} : D.eqv (prD p) (prD q) = decide (p = q) := by
  obtain ⟨a, b⟩ := p
  obtain ⟨c, d⟩ := q
  simp [prD, dq_tup, dq_cons, dq_nil, dq_int]
  by_cases h : a = c <;> by_cases h2 : b = d <;> simp [h, h2]
theorem eqvs_prs : ∀ {ps qs : Lks}, D.eqvs (ps.map prD) (qs.map prD) = decide (ps = qs)
  | [], [] => by simp [dq_nil]
  | [], _ :: _ => by simp [D.eqvs]
  | _ :: _, [] => by simp [D.eqvs]
  | p :: ps, q :: qs => by
    rw [List.map_cons, List.map_cons, dq_cons, eqv_pr, eqvs_prs]
    by_cases h : p = q <;> by_cases h2 : ps = qs <;> simp [h, h2]
theorem whole_iff {C : Addr} {i lo hi : Int} {P : Ret → Prop} {E : D → Prop} : ph_is_whole C [.int i, .int lo, .int hi] P E ↔ P (.val (.bl (decide (lo ≤ i) && decide (i ≤ hi)))) := by
  constructor
  · rintro ⟨d, l, h, e, _, k⟩
    cases e
    exact k
  · intro k
    exact ⟨_, _, _, rfl, rfl, k⟩
theorem seqL_iff {C : Addr} {xs : List D} {P : Ret → Prop} {E : D → Prop} : ph_is_sequence C [.lst xs] P E ↔ P (.val (.bl true)) := by
  constructor
  · rintro ⟨d, e, _, k⟩
    cases e
    exact k
  · intro k
    exact ⟨_, rfl, rfl, k⟩
theorem seqT_iff {C : Addr} {xs : List D} {P : Ret → Prop} {E : D → Prop} : ph_is_sequence C [.tup xs] P E ↔ P (.val (.bl true)) := by
  constructor
  · rintro ⟨d, e, _, k⟩
    cases e
    exact k
  · intro k
    exact ⟨_, rfl, rfl, k⟩
theorem p_check_sizes (C : Addr) (ds : List D) (Q : Ret → Prop) (QE : D → Prop) (hl : ds.length = 2) (h : ph_check_sizes C ds Q QE) : dl_check_sizes C (endsD Q QE) (startD nm_check_sizes ds) := by
  obtain ⟨a, b, rfl, a0, a1, b0, b1, h⟩ := h
  have e1 : isWh (.int a) 0 40 = true := by simp [isWh, a0, a1]
  have e2 : isWh (.int b) 0 40 = true := by simp [isWh, b0, b1]
  simp [dl_check_sizes, startD, nm_check_sizes, dSeq, whole_iff, dNever, a0, a1, b0, b1, dAsg, dOwn, dC, dVar, dOp, dUn, dCl, dClB, dOpB, dBs, dCons, dNil, dTup, dLst, dIf, dAnd, dOr, dNot, dAndV, dOrV, dNotV, dTest, dChain, dCond, dRet, dRetO, dRetN, dRetOwn, dNext, dDrop, dCall, dCallN, dCallB, dCallH, dCallHN, hName, hTup_tup, hLst_lst, hCons_cons, hNil_nil, dItems, dRange1, dRange2, dEnum, dAltI, dAppend, dPopAt, dPop, dSetIx, dPutK, dIxB, dListB, dSl, dPart, dNoPart, dDisp1, dFor, dComp, dYes, oAdd, oSub, oMod, oFdiv, oPow, oLt, oLe, oGt, oGe, oMul, oNeg, oI, oI0, oEq, oNe, oIn, oIs, oIx, oLen, oInt, oI1, oAbs, oI2, oDivmod, oList, oTuple, oUpper, oIsi, oIsi2, Sl.own, peek, isLst, lstOf, isDic, keysOf, valsOf, D.flat, D.isObj, D.ty, subTy, D.isN, dq_int, dq_bl, dq_bi, dq_ib, dq_str, dq_non, dq_lst, dq_tup, dq_nil, dq_cons, asLst, asTup, asStr, asSeq, Ret.d, endsD, Slot.hid, unsets, phDraw, plain_int, plain_bl, plain_non, List.getElem?_cons_zero, List.getElem?_cons_succ, List.set_cons_zero, List.set_cons_succ]
  exact h
theorem p__law_is_whole (C : Addr) (ds : List D) (Q : Ret → Prop) (QE : D → Prop) (hl : ds.length = 2) (h : ph__law_is_whole C ds Q QE) : dl__law_is_whole C (endsD Q QE) (startD nm__law_is_whole ds) := by
  obtain ⟨x, y, rfl, h⟩ := h
  simp [dl__law_is_whole, startD, nm__law_is_whole, dSeq, dAsg, dOwn, dC, dVar, dOp, dUn, dCl, dClB, dOpB, dBs, dCons, dNil, dTup, dLst, dIf, dAnd, dOr, dNot, dAndV, dOrV, dNotV, dTest, dChain, dCond, dRet, dRetO, dRetN, dRetOwn, dNext, dDrop, dCall, dCallN, dCallB, dCallH, dCallHN, hName, hTup_tup, hLst_lst, hCons_cons, hNil_nil, dItems, dRange1, dRange2, dEnum, dAltI, dAppend, dPopAt, dPop, dSetIx, dPutK, dIxB, dListB, dSl, dPart, dNoPart, dDisp1, dFor, dComp, dYes, oAdd, oSub, oMod, oFdiv, oPow, oLt, oLe, oGt, oGe, oMul, oNeg, oI, oI0, oEq, oNe, oIn, oIs, oIx, oLen, oInt, oI1, oAbs, oI2, oDivmod, oList, oTuple, oUpper, oIsi, oIsi2, Sl.own, peek, isLst, lstOf, isDic, keysOf, valsOf, D.flat, D.isObj, D.ty, subTy, D.isN, dq_int, dq_bl, dq_bi, dq_ib, dq_str, dq_non, dq_lst, dq_tup, dq_nil, dq_cons, asLst, asTup, asStr, asSeq, Ret.d, endsD, Slot.hid, unsets, phDraw, plain_int, plain_bl, plain_non, List.getElem?_cons_zero, List.getElem?_cons_succ, List.set_cons_zero, List.set_cons_succ]
  exact h
theorem p_Likeness_M_is_full (C : Addr) (ds : List D) (Q : Ret → Prop) (QE : D → Prop) (hl : ds.length = 1) (h : ph_Likeness_M_is_full C ds Q QE) : dl_Likeness_M_is_full C (endsD Q QE) (startD nm_Likeness_M_is_full ds) := by
  obtain ⟨a, b, ps, rfl, h⟩ := h
  simp [dl_Likeness_M_is_full, startD, nm_Likeness_M_is_full, dSeq, dFld, lk_first, lk_second, lk_links, dAsg, dOwn, dC, dVar, dOp, dUn, dCl, dClB, dOpB, dBs, dCons, dNil, dTup, dLst, dIf, dAnd, dOr, dNot, dAndV, dOrV, dNotV, dTest, dChain, dCond, dRet, dRetO, dRetN, dRetOwn, dNext, dDrop, dCall, dCallN, dCallB, dCallH, dCallHN, hName, hTup_tup, hLst_lst, hCons_cons, hNil_nil, dItems, dRange1, dRange2, dEnum, dAltI, dAppend, dPopAt, dPop, dSetIx, dPutK, dIxB, dListB, dSl, dPart, dNoPart, dDisp1, dFor, dComp, dYes, oAdd, oSub, oMod, oFdiv, oPow, oLt, oLe, oGt, oGe, oMul, oNeg, oI, oI0, oEq, oNe, oIn, oIs, oIx, oLen, oInt, oI1, oAbs, oI2, oDivmod, oList, oTuple, oUpper, oIsi, oIsi2, Sl.own, peek, isLst, lstOf, isDic, keysOf, valsOf, D.flat, D.isObj, D.ty, subTy, D.isN, dq_int, dq_bl, dq_bi, dq_ib, dq_str, dq_non, dq_lst, dq_tup, dq_nil, dq_cons, asLst, asTup, asStr, asSeq, Ret.d, endsD, Slot.hid, unsets, phDraw, plain_int, plain_bl, plain_non, List.getElem?_cons_zero, List.getElem?_cons_succ, List.set_cons_zero, List.set_cons_succ]
  by_cases hc : a = b
  · rw [if_pos hc]; simpa [hc, bqd] using h
  · rw [if_neg hc]; simpa [hc] using h
theorem p_Likeness_M___eq__ (C : Addr) (ds : List D) (Q : Ret → Prop) (QE : D → Prop) (hl : ds.length = 2) (h : ph_Likeness_M___eq__ C ds Q QE) : dl_Likeness_M___eq__ C (endsD Q QE) (startD nm_Likeness_M___eq__ ds) := by
  obtain ⟨a, b, a', b', ps, ps', rfl, h⟩ := h
  simp [dl_Likeness_M___eq__, startD, nm_Likeness_M___eq__, dSeq, dFld, lk_first, lk_second, lk_links, lk_isC, oIsC, lk_obj, plain_prsT, eqvs_prs, dAsg, dOwn, dC, dVar, dOp, dUn, dCl, dClB, dOpB, dBs, dCons, dNil, dTup, dLst, dIf, dAnd, dOr, dNot, dAndV, dOrV, dNotV, dTest, dChain, dCond, dRet, dRetO, dRetN, dRetOwn, dNext, dDrop, dCall, dCallN, dCallB, dCallH, dCallHN, hName, hTup_tup, hLst_lst, hCons_cons, hNil_nil, dItems, dRange1, dRange2, dEnum, dAltI, dAppend, dPopAt, dPop, dSetIx, dPutK, dIxB, dListB, dSl, dPart, dNoPart, dDisp1, dFor, dComp, dYes, oAdd, oSub, oMod, oFdiv, oPow, oLt, oLe, oGt, oGe, oMul, oNeg, oI, oI0, oEq, oNe, oIn, oIs, oIx, oLen, oInt, oI1, oAbs, oI2, oDivmod, oList, oTuple, oUpper, oIsi, oIsi2, Sl.own, peek, isLst, lstOf, isDic, keysOf, valsOf, D.flat, D.isObj, D.ty, subTy, D.isN, dq_int, dq_bl, dq_bi, dq_ib, dq_str, dq_non, dq_lst, dq_tup, dq_nil, dq_cons, asLst, asTup, asStr, asSeq, Ret.d, endsD, Slot.hid, unsets, phDraw, plain_int, plain_bl, plain_non, List.getElem?_cons_zero, List.getElem?_cons_succ, List.set_cons_zero, List.set_cons_succ]
  refine .inl ?_
  by_cases hp : ps = ps'
  · refine .inl ⟨hp, ?_⟩
    by_cases hc : a = a'
    · rw [if_pos hc]; simpa [hp, hc, bqd] using h
    · rw [if_neg hc]; simpa [hp, hc] using h
  · refine .inr ⟨hp, ?_⟩
    simpa [hp] using h
end Kb
namespace Kb
open PySem L2 Dx
theorem nd_nat : ∀ {n : Nat} {l : List Nat}, l.Nodup → (∀ i ∈ l, i < n) → l.length ≤ n
  | 0, [], _, _ => Nat.le_refl _
  | 0, x :: _, _, h => absurd (h x List.mem_cons_self) (by omega)
  | n + 1, l, hn, h => by
    have h1 := nd_nat (n := n) (l := l.erase n) (hn.erase n) fun i hi => by
      obtain ⟨h2, h3⟩ := hn.mem_erase_iff.mp hi
      have := h i h3
      omega
    have h2 := List.length_erase (a := n) (l := l)
    split at h2 <;> omega
theorem nd_len {l : List Int} {a : Int} (hn : l.Nodup) (hb : ∀ i ∈ l, 0 ≤ i ∧ i < a) : l.length ≤ a.toNat := by
  have h1 : (l.map Int.toNat).Nodup := by
    refine List.pairwise_map.mpr (hn.imp_of_mem fun {x y} hx hy h e => h ?_)
    have := hb x hx
    have := hb y hy
    omega
  have h2 := nd_nat (n := a.toNat) h1 fun n hn => by
    obtain ⟨i, hi, rfl⟩ := List.mem_map.mp hn
    have := hb i hi
    omega
  simpa using h2
theorem at20 {x y : D} : L2.atI [x, y] 0 = some x := rfl
theorem at21 {x y : D} : L2.atI [x, y] 1 = some y := rfl
theorem memb_ints {i : Int} : ∀ {l : List Int}, (D.int i).memb (l.map .int) = decide (i ∈ l)
  | [] => by simp [D.memb]
  | j :: r => by
    have := memb_ints (i := i) (l := r)
    simp [D.memb, dq_int, bqd] at this ⊢
    by_cases h : i = j <;> simp_all
    exact fun e => absurd e.symm h
theorem good_len {a b : Int} {ps : Lks} (g : Good a b ps) (ha : a ≤ 40) : ps.length ≤ 40 := by
  have := nd_len (a := a) g.n1 fun i hi => by
    obtain ⟨p, hp, rfl⟩ := List.mem_map.mp hi
    exact (g.bd p hp).1
  rw [List.length_map] at this
  omega
theorem p_check_links (C : Addr) (ds : List D) (Q : Ret → Prop) (QE : D → Prop) (hl : ds.length = 3) (h : ph_check_links C ds Q QE) : dl_check_links C (endsD Q QE) (startD nm_check_links ds) := by
  obtain ⟨a, b, d, ps, rfl, a1, b1, hd, g, h⟩ := h
  have hlen := good_len g a1
  cases d <;> first | (cases hd; done) | skip
  all_goals obtain rfl := Option.some.inj hd
  all_goals simp [dl_check_links, startD, nm_check_links, dSeq, seqL_iff, seqT_iff, dParN, dAsg, dOwn, dC, dVar, dOp, dUn, dCl, dClB, dOpB, dBs, dCons, dNil, dTup, dLst, dIf, dAnd, dOr, dNot, dAndV, dOrV, dNotV, dTest, dChain, dCond, dRet, dRetO, dRetN, dRetOwn, dNext, dDrop, dCall, dCallN, dCallB, dCallH, dCallHN, hName, hTup_tup, hLst_lst, hCons_cons, hNil_nil, dItems, dRange1, dRange2, dEnum, dAltI, dAppend, dPopAt, dPop, dSetIx, dPutK, dIxB, dListB, dSl, dPart, dNoPart, dDisp1, dFor, dComp, dYes, oAdd, oSub, oMod, oFdiv, oPow, oLt, oLe, oGt, oGe, oMul, oNeg, oI, oI0, oEq, oNe, oIn, oIs, oIx, oLen, oInt, oI1, oAbs, oI2, oDivmod, oList, oTuple, oUpper, oIsi, oIsi2, Sl.own, peek, isLst, lstOf, isDic, keysOf, valsOf, D.flat, D.isObj, D.ty, subTy, D.isN, dq_int, dq_bl, dq_bi, dq_ib, dq_str, dq_non, dq_lst, dq_tup, dq_nil, dq_cons, asLst, asTup, asStr, asSeq, Ret.d, endsD, Slot.hid, unsets, phDraw, plain_int, plain_bl, plain_non, List.getElem?_cons_zero, List.getElem?_cons_succ, List.set_cons_zero, List.set_cons_succ]
  all_goals refine fo_of (fun ds s => ∃ (l rs : Lks) (x y : Slot), s = [.val (.int a), .val (.int b), y, .own (.lst ((l.map (·.1)).map .int)), .own (.lst ((l.map (·.2)).map .int)), x] ∧ ds = rs.map prD ∧ l ++ rs = ps) ?_ ?_ ⟨[], ps, _, _, rfl, rfl, rfl⟩
  · rintro s ⟨l, rs, x, y, rfl, hr, e⟩
    exact h
  · rintro d ds s ⟨l, rs, x, y, rfl, hr, e⟩ k hk
    cases rs with
    | nil => cases hr
    | cons p rs =>
      cases hr
      simp only [prD]
      simp [dSeq, seqT_iff, whole_iff, at20, at21, memb_ints, -List.map_map, dNever, dAsg, dOwn, dC, dVar, dOp, dUn, dCl, dClB, dOpB, dBs, dCons, dNil, dTup, dLst, dIf, dAnd, dOr, dNot, dAndV, dOrV, dNotV, dTest, dChain, dCond, dRet, dRetO, dRetN, dRetOwn, dNext, dDrop, dCall, dCallN, dCallB, dCallH, dCallHN, hName, hTup_tup, hLst_lst, hCons_cons, hNil_nil, dItems, dRange1, dRange2, dEnum, dAltI, dAppend, dPopAt, dPop, dSetIx, dPutK, dIxB, dListB, dSl, dPart, dNoPart, dDisp1, dFor, dComp, dYes, oAdd, oSub, oMod, oFdiv, oPow, oLt, oLe, oGt, oGe, oMul, oNeg, oI, oI0, oEq, oNe, oIn, oIs, oIx, oLen, oInt, oI1, oAbs, oI2, oDivmod, oList, oTuple, oUpper, oIsi, oIsi2, Sl.own, peek, isLst, lstOf, isDic, keysOf, valsOf, D.flat, D.isObj, D.ty, subTy, D.isN, dq_int, dq_bl, dq_bi, dq_ib, dq_str, dq_non, dq_lst, dq_tup, dq_nil, dq_cons, asLst, asTup, asStr, asSeq, Ret.d, endsD, Slot.hid, unsets, phDraw, plain_int, plain_bl, plain_non, List.getElem?_cons_zero, List.getElem?_cons_succ, List.set_cons_zero, List.set_cons_succ]
      subst e
      have hp := g.bd p (by simp)
      have m1 : ∀ z : Int, ¬ (p.1, z) ∈ l := fun z hz => by
        have := g.n1
        rw [List.map_append, List.nodup_append] at this
        exact this.2.2 p.1 (List.mem_map.mpr ⟨_, hz, rfl⟩) p.1 (by simp) rfl
      have m2 : ∀ z : Int, ¬ (z, p.2) ∈ l := fun z hz => by
        have := g.n2
        rw [List.map_append, List.nodup_append] at this
        exact this.2.2 p.2 (List.mem_map.mpr ⟨_, hz, rfl⟩) p.2 (by simp) rfl
      simp at hlen
      have h5 : l.length < sizeLine := Nat.lt_of_lt_of_le (by omega) size_ge
      refine ⟨⟨by omega, by omega⟩, ⟨by omega, by omega⟩, fun _ _ _ _ e => e ▸ rfl, m1, fun _ _ _ _ e => e ▸ rfl, m2, h5, ?_⟩
      exact hk _ ⟨l ++ [p], rs, .val (.tup [.int p.1, .int p.2]), y, by simp, rfl, by simp⟩
  · rintro s ⟨l, rs, x, y, rfl, hr, e⟩
    exact h
  · rintro d ds s ⟨l, rs, x, y, rfl, hr, e⟩ k hk
    cases rs with
    | nil => cases hr
    | cons p rs =>
      cases hr
      simp only [prD]
      simp [dSeq, seqT_iff, whole_iff, at20, at21, memb_ints, -List.map_map, dNever, dAsg, dOwn, dC, dVar, dOp, dUn, dCl, dClB, dOpB, dBs, dCons, dNil, dTup, dLst, dIf, dAnd, dOr, dNot, dAndV, dOrV, dNotV, dTest, dChain, dCond, dRet, dRetO, dRetN, dRetOwn, dNext, dDrop, dCall, dCallN, dCallB, dCallH, dCallHN, hName, hTup_tup, hLst_lst, hCons_cons, hNil_nil, dItems, dRange1, dRange2, dEnum, dAltI, dAppend, dPopAt, dPop, dSetIx, dPutK, dIxB, dListB, dSl, dPart, dNoPart, dDisp1, dFor, dComp, dYes, oAdd, oSub, oMod, oFdiv, oPow, oLt, oLe, oGt, oGe, oMul, oNeg, oI, oI0, oEq, oNe, oIn, oIs, oIx, oLen, oInt, oI1, oAbs, oI2, oDivmod, oList, oTuple, oUpper, oIsi, oIsi2, Sl.own, peek, isLst, lstOf, isDic, keysOf, valsOf, D.flat, D.isObj, D.ty, subTy, D.isN, dq_int, dq_bl, dq_bi, dq_ib, dq_str, dq_non, dq_lst, dq_tup, dq_nil, dq_cons, asLst, asTup, asStr, asSeq, Ret.d, endsD, Slot.hid, unsets, phDraw, plain_int, plain_bl, plain_non, List.getElem?_cons_zero, List.getElem?_cons_succ, List.set_cons_zero, List.set_cons_succ]
      subst e
      have hp := g.bd p (by simp)
      have m1 : ∀ z : Int, ¬ (p.1, z) ∈ l := fun z hz => by
        have := g.n1
        rw [List.map_append, List.nodup_append] at this
        exact this.2.2 p.1 (List.mem_map.mpr ⟨_, hz, rfl⟩) p.1 (by simp) rfl
      have m2 : ∀ z : Int, ¬ (z, p.2) ∈ l := fun z hz => by
        have := g.n2
        rw [List.map_append, List.nodup_append] at this
        exact this.2.2 p.2 (List.mem_map.mpr ⟨_, hz, rfl⟩) p.2 (by simp) rfl
      simp at hlen
      have h5 : l.length < sizeLine := Nat.lt_of_lt_of_le (by omega) size_ge
      refine ⟨⟨by omega, by omega⟩, ⟨by omega, by omega⟩, fun _ _ _ _ e => e ▸ rfl, m1, fun _ _ _ _ e => e ▸ rfl, m2, h5, ?_⟩
      exact hk _ ⟨l ++ [p], rs, .val (.tup [.int p.1, .int p.2]), y, by simp, rfl, by simp⟩
end Kb
namespace Kb
open PySem L2 Dx
theorem p_Likeness_M___init__ (C : Addr) (ds : List D) (Q : D → Prop) (QE : D → Prop) (hl : ds.length = 3) (h : ph_Likeness_M___init__ C ds Q QE) : dl_Likeness_M___init__ C (endsD (fun _ => False) QE) Q (startI nm_Likeness_M___init__ ds) := by
  obtain ⟨a, b, d, ps, rfl, a0, a1, b0, b1, hd, g, h⟩ := h
  have hlen := good_len g a1
  simp [dl_Likeness_M___init__, startI, nm_Likeness_M___init__, jSeq, jTail, dTail, putN, putD, n12.symm, n13.symm, n23.symm, dAsg, dOwn, dC, dVar, dOp, dUn, dCl, dClB, dOpB, dBs, dCons, dNil, dTup, dLst, dIf, dAnd, dOr, dNot, dAndV, dOrV, dNotV, dTest, dChain, dCond, dRet, dRetO, dRetN, dRetOwn, dNext, dDrop, dCall, dCallN, dCallB, dCallH, dCallHN, hName, hTup_tup, hLst_lst, hCons_cons, hNil_nil, dItems, dRange1, dRange2, dEnum, dAltI, dAppend, dPopAt, dPop, dSetIx, dPutK, dIxB, dListB, dSl, dPart, dNoPart, dDisp1, dFor, dComp, dYes, oAdd, oSub, oMod, oFdiv, oPow, oLt, oLe, oGt, oGe, oMul, oNeg, oI, oI0, oEq, oNe, oIn, oIs, oIx, oLen, oInt, oI1, oAbs, oI2, oDivmod, oList, oTuple, oUpper, oIsi, oIsi2, Sl.own, peek, isLst, lstOf, isDic, keysOf, valsOf, D.flat, D.isObj, D.ty, subTy, D.isN, dq_int, dq_bl, dq_bi, dq_ib, dq_str, dq_non, dq_lst, dq_tup, dq_nil, dq_cons, asLst, asTup, asStr, asSeq, Ret.d, endsD, Slot.hid, unsets, phDraw, plain_int, plain_bl, plain_non, List.getElem?_cons_zero, List.getElem?_cons_succ, List.set_cons_zero, List.set_cons_succ]
  refine ⟨_, _, rfl, a0, a1, b0, b1, _, _, _, _, rfl, a1, b1, hd, g, ?_⟩
  cases d <;> first | (cases hd; done) | skip
  all_goals obtain rfl := Option.some.inj hd
  all_goals simp [dAsg, dOwn, dC, dVar, dOp, dUn, dCl, dClB, dOpB, dBs, dCons, dNil, dTup, dLst, dIf, dAnd, dOr, dNot, dAndV, dOrV, dNotV, dTest, dChain, dCond, dRet, dRetO, dRetN, dRetOwn, dNext, dDrop, dCall, dCallN, dCallB, dCallH, dCallHN, hName, hTup_tup, hLst_lst, hCons_cons, hNil_nil, dItems, dRange1, dRange2, dEnum, dAltI, dAppend, dPopAt, dPop, dSetIx, dPutK, dIxB, dListB, dSl, dPart, dNoPart, dDisp1, dFor, dComp, dYes, oAdd, oSub, oMod, oFdiv, oPow, oLt, oLe, oGt, oGe, oMul, oNeg, oI, oI0, oEq, oNe, oIn, oIs, oIx, oLen, oInt, oI1, oAbs, oI2, oDivmod, oList, oTuple, oUpper, oIsi, oIsi2, Sl.own, peek, isLst, lstOf, isDic, keysOf, valsOf, D.flat, D.isObj, D.ty, subTy, D.isN, dq_int, dq_bl, dq_bi, dq_ib, dq_str, dq_non, dq_lst, dq_tup, dq_nil, dq_cons, asLst, asTup, asStr, asSeq, Ret.d, endsD, Slot.hid, unsets, phDraw, plain_int, plain_bl, plain_non, List.getElem?_cons_zero, List.getElem?_cons_succ, List.set_cons_zero, List.set_cons_succ]
  all_goals refine tu_of (fun ds acc => ∃ ms rs : Lks, acc = ms.map prD ∧ ds = rs.map prD ∧ ms ++ rs = ps) ?_ ?_ ⟨[], ps, rfl, rfl, rfl⟩
  all_goals first
    | (rintro acc ⟨ms, rs, rfl, hr, e⟩
       have : rs = [] := by cases rs with | nil => rfl | cons _ _ => cases hr
       subst this
       rw [List.append_nil] at e
       subst e
       exact ⟨ms, rfl, fun qs h1 h2 => h qs h1 h2⟩)
    | (rintro d r acc ⟨ms, rs, rfl, hr, e⟩ Q' hQ
       cases rs with
       | nil => cases hr
       | cons p rs =>
         cases hr
         simp only [prD]
         simp [at20, at21, dAsg, dOwn, dC, dVar, dOp, dUn, dCl, dClB, dOpB, dBs, dCons, dNil, dTup, dLst, dIf, dAnd, dOr, dNot, dAndV, dOrV, dNotV, dTest, dChain, dCond, dRet, dRetO, dRetN, dRetOwn, dNext, dDrop, dCall, dCallN, dCallB, dCallH, dCallHN, hName, hTup_tup, hLst_lst, hCons_cons, hNil_nil, dItems, dRange1, dRange2, dEnum, dAltI, dAppend, dPopAt, dPop, dSetIx, dPutK, dIxB, dListB, dSl, dPart, dNoPart, dDisp1, dFor, dComp, dYes, oAdd, oSub, oMod, oFdiv, oPow, oLt, oLe, oGt, oGe, oMul, oNeg, oI, oI0, oEq, oNe, oIn, oIs, oIx, oLen, oInt, oI1, oAbs, oI2, oDivmod, oList, oTuple, oUpper, oIsi, oIsi2, Sl.own, peek, isLst, lstOf, isDic, keysOf, valsOf, D.flat, D.isObj, D.ty, subTy, D.isN, dq_int, dq_bl, dq_bi, dq_ib, dq_str, dq_non, dq_lst, dq_tup, dq_nil, dq_cons, asLst, asTup, asStr, asSeq, Ret.d, endsD, Slot.hid, unsets, phDraw, plain_int, plain_bl, plain_non, List.getElem?_cons_zero, List.getElem?_cons_succ, List.set_cons_zero, List.set_cons_succ]
         subst e
         have h5 : ms.length < sizeLine := Nat.lt_of_lt_of_le (by simp at hlen; omega) size_ge
         exact ⟨Nat.le_trans (by decide) size_ge, h5, hQ _ ⟨ms ++ [p], rs, by simp [prD], rfl, by simp⟩⟩)
theorem srd_eq {l m : Lks} (h1 : Srd l) (h2 : Srd m) (p : l.Perm m) : l = m :=
  List.Perm.eq_of_pairwise (fun a b _ _ x y => by
    have := SrtO.lexB_no.mp x
    have := SrtO.lexB_no.mp y
    exact Prod.ext (by omega) (by omega)) h1 h2 p
theorem p__law_told (C : Addr) (ds : List D) (Q : Ret → Prop) (QE : D → Prop) (hl : ds.length = 4) (h : ph__law_told C ds Q QE) : dl__law_told C (endsD Q QE) (startD nm__law_told ds) := by
  obtain ⟨a, b, ps, qs, rfl, hp, hs, h⟩ := h
  simp [dl__law_told, startD, nm__law_told, dSeq, dFld, lk_first, lk_second, lk_links, oIsC, lk_isC, oSortP, ph__law_is_whole, dAsg, dOwn, dC, dVar, dOp, dUn, dCl, dClB, dOpB, dBs, dCons, dNil, dTup, dLst, dIf, dAnd, dOr, dNot, dAndV, dOrV, dNotV, dTest, dChain, dCond, dRet, dRetO, dRetN, dRetOwn, dNext, dDrop, dCall, dCallN, dCallB, dCallH, dCallHN, hName, hTup_tup, hLst_lst, hCons_cons, hNil_nil, dItems, dRange1, dRange2, dEnum, dAltI, dAppend, dPopAt, dPop, dSetIx, dPutK, dIxB, dListB, dSl, dPart, dNoPart, dDisp1, dFor, dComp, dYes, oAdd, oSub, oMod, oFdiv, oPow, oLt, oLe, oGt, oGe, oMul, oNeg, oI, oI0, oEq, oNe, oIn, oIs, oIx, oLen, oInt, oI1, oAbs, oI2, oDivmod, oList, oTuple, oUpper, oIsi, oIsi2, Sl.own, peek, isLst, lstOf, isDic, keysOf, valsOf, D.flat, D.isObj, D.ty, subTy, D.isN, dq_int, dq_bl, dq_bi, dq_ib, dq_str, dq_non, dq_lst, dq_tup, dq_nil, dq_cons, asLst, asTup, asStr, asSeq, Ret.d, endsD, Slot.hid, unsets, phDraw, plain_int, plain_bl, plain_non, List.getElem?_cons_zero, List.getElem?_cons_succ, List.set_cons_zero, List.set_cons_succ]
  refine .inl ⟨qs, rfl, fun rs h1 h2 => ⟨plain_prsL, plain_prsL, .inl ⟨?_, a, a, ⟨rfl, rfl⟩, ?_⟩⟩⟩
  · have := srd_eq hs h2 ((h1.trans hp).symm)
    rw [eqvs_prs]
    simp [this]
  · rw [if_pos rfl]
    exact ⟨b, b, ⟨rfl, rfl⟩, by simpa using h⟩
theorem pr_inj {p q : Int × Int} : prD p = prD q ↔ p = q := by
  obtain ⟨a, b⟩ := p
  obtain ⟨c, d⟩ := q
  simp [prD]
theorem map_pr : ∀ {l m : Lks}, l.map prD = m.map prD ↔ l = m
  | [], [] => by simp
  | [], _ :: _ => by simp
  | _ :: _, [] => by simp
  | p :: l, q :: m => by simp [pr_inj, map_pr (l := l) (m := m)]
end Kb
namespace Kb
open PySem L2 Dx
theorem mem_cmp {ps qs : Lks} {x z : Int} : (x, z) ∈ cmpL ps qs ↔ ∃ y, (x, y) ∈ ps ∧ (y, z) ∈ qs := by
  unfold cmpL
  constructor
  · intro h
    obtain ⟨p, hp, h2⟩ := List.mem_flatMap.mp h
    obtain ⟨q, hq, h3⟩ := List.mem_filterMap.mp h2
    split at h3
    · rename_i e
      cases h3
      exact ⟨p.2, hp, e ▸ hq⟩
    · cases h3
  · rintro ⟨y, hp, hq⟩
    exact List.mem_flatMap.mpr ⟨_, hp, List.mem_filterMap.mpr ⟨_, hq, by simp⟩⟩
theorem fm_none {y x : Int} : ∀ {qs : Lks}, y ∉ qs.map (·.1) → qs.filterMap (fun q => if q.1 = y then some (x, q.2) else none) = []
  | [], _ => rfl
  | q :: r, h => by
    simp only [List.map_cons, List.mem_cons, not_or] at h
    rw [List.filterMap_cons, if_neg (fun e => h.1 e.symm)]
    exact fm_none h.2
theorem fm_one {y x : Int} : ∀ {qs : Lks}, (qs.map (·.1)).Nodup → qs.filterMap (fun q => if q.1 = y then some (x, q.2) else none) = ((qs.lookup y).map fun z => (x, z)).toList
  | [], _ => rfl
  | (a, b) :: r, h => by
    rw [List.map_cons, List.nodup_cons] at h
    rw [List.filterMap_cons, List.lookup_cons]
    by_cases e : a = y
    · subst e
      simp [fm_none h.1]
    · have : (y == a) = false := by simp [Ne.symm e]
      simp [e, this, fm_one h.2]
theorem look_mem {y z : Int} : ∀ {qs : Lks}, qs.lookup y = some z → (y, z) ∈ qs
  | [], h => by cases h
  | (a, b) :: r, h => by
    rw [List.lookup_cons] at h
    by_cases e : y = a
    · subst e
      simp at h
      simp [h]
    · have : (y == a) = false := by simp [e]
      simp [this] at h
      exact List.mem_cons_of_mem _ (look_mem h)
def cmpF (ps qs : Lks) : Lks := ps.filterMap fun p => (qs.lookup p.2).map fun z => (p.1, z)
theorem cmpL_F {ps qs : Lks} (h : (qs.map (·.1)).Nodup) : cmpL ps qs = cmpF ps qs := by
  unfold cmpL cmpF
  induction ps with
  | nil => rfl
  | cons p r ih =>
    rw [List.flatMap_cons, List.filterMap_cons, ih, fm_one h]
    cases qs.lookup p.2 <;> rfl
theorem nd_inj2 {qs : Lks} (h : (qs.map (·.2)).Nodup) {x y z : Int} (h1 : (x, z) ∈ qs) (h2 : (y, z) ∈ qs) : x = y := by
  induction qs with
  | nil => cases h1
  | cons q r ih =>
    rw [List.map_cons, List.nodup_cons] at h
    rcases List.mem_cons.mp h1 with e1 | m1 <;> rcases List.mem_cons.mp h2 with e2 | m2
    · cases e1; cases e2; rfl
    · cases e1; exact absurd (List.mem_map.mpr ⟨_, m2, rfl⟩) h.1
    · cases e2; exact absurd (List.mem_map.mpr ⟨_, m1, rfl⟩) h.1
    · exact ih h.2 m1 m2
theorem nd_inj1 {qs : Lks} (h : (qs.map (·.1)).Nodup) {x y z : Int} (h1 : (z, x) ∈ qs) (h2 : (z, y) ∈ qs) : x = y := by
  have : ((qs.map fun p => (p.2, p.1)).map (·.2)).Nodup := by rw [List.map_map]; exact h
  exact nd_inj2 this (List.mem_map.mpr ⟨_, h1, rfl⟩) (List.mem_map.mpr ⟨_, h2, rfl⟩)
theorem cmpF_n1 {qs : Lks} : ∀ {ps : Lks}, ((cmpF ps qs).map (·.1)).Sublist (ps.map (·.1))
  | [] => List.Sublist.refl _
  | p :: r => by
    have := cmpF_n1 (qs := qs) (ps := r)
    unfold cmpF at this ⊢
    rw [List.filterMap_cons]
    cases qs.lookup p.2 with
    | none => exact this.cons _
    | some z => exact this.cons₂ _
theorem good_cmp {a b c : Int} {ps qs : Lks} (g : Good a b ps) (k : Good b c qs) : Good a c (cmpL ps qs) := by
  refine ⟨?_, ?_, ?_⟩
  · rw [cmpL_F k.n1]
    exact cmpF_n1.nodup g.n1
  · rw [cmpL_F k.n1]
    unfold cmpF
    refine List.pairwise_map.mpr ?_
    refine List.Pairwise.filterMap (R := fun p p' => p.2 ≠ p'.2) _ ?_ (List.pairwise_map.mp g.n2)
    intro p p' hne q hq q' hq' e
    obtain ⟨z, h1, h2⟩ := Option.map_eq_some_iff.mp hq
    obtain ⟨z', h1', h2'⟩ := Option.map_eq_some_iff.mp hq'
    subst h2 h2'
    cases e
    exact hne (nd_inj2 k.n2 (look_mem h1) (look_mem h1'))
  · rintro ⟨x, z⟩ h
    obtain ⟨y, h1, h2⟩ := mem_cmp.mp h
    exact ⟨(g.bd _ h1).1, (k.bd _ h2).2⟩
theorem good_perm {a b : Int} {ps qs : Lks} (g : Good a b ps) (h : qs.Perm ps) : Good a b qs :=
  ⟨(h.map _).nodup_iff.mpr g.n1, (h.map _).nodup_iff.mpr g.n2, fun p hp => g.bd p (h.mem_iff.mp hp)⟩
theorem good_flip {a b : Int} {ps : Lks} (g : Good a b ps) : Good b a (ps.map fun p => (p.2, p.1)) := by
  refine ⟨by rw [List.map_map]; exact g.n2, by rw [List.map_map]; exact g.n1, fun p hp => ?_⟩
  obtain ⟨q, hq, rfl⟩ := List.mem_map.mp hp
  exact ⟨(g.bd q hq).2, (g.bd q hq).1⟩
theorem good_nd {a b : Int} {ps : Lks} (g : Good a b ps) : ps.Nodup := (List.pairwise_map.mp g.n1).imp fun {x y} (h : x.1 ≠ y.1) (e : x = y) => h (by rw [e])
theorem srd_ext {a b a' b' : Int} {l m : Lks} (h1 : Srd l) (h2 : Srd m) (g : Good a b l) (g' : Good a' b' m) (h : ∀ x y, (x, y) ∈ l ↔ (x, y) ∈ m) : l = m :=
  srd_eq h1 h2 ((List.perm_ext_iff_of_nodup (good_nd g) (good_nd g')).mpr fun ⟨x, y⟩ => h x y)
theorem init_iff {C : Addr} {a b : Int} {ps : Lks} {Q : D → Prop} {E : D → Prop} (a0 : 0 ≤ a) (a1 : a ≤ 40) (b0 : 0 ≤ b) (b1 : b ≤ 40) (g : Good a b ps) (h : ∀ rs : Lks, rs.Perm ps → Srd rs → Q (lk C a b rs)) :
    ph_Likeness_M___init__ C [.int a, .int b, .lst (ps.map prD)] Q E := ⟨a, b, _, ps, rfl, a0, a1, b0, b1, rfl, g, h⟩
theorem p_Likeness_M_flipped (C : Addr) (ds : List D) (Q : Ret → Prop) (QE : D → Prop) (hl : ds.length = 1) (h : ph_Likeness_M_flipped C ds Q QE) : dl_Likeness_M_flipped C (endsD Q QE) (startD nm_Likeness_M_flipped ds) := by
  obtain ⟨a, b, ps, rfl, L, h⟩ := h
  have hlen := good_len L.g L.a1
  simp [dl_Likeness_M_flipped, startD, nm_Likeness_M_flipped, dSeq, dFld, lk_first, lk_second, lk_links, dMake, dAsg, dOwn, dC, dVar, dOp, dUn, dCl, dClB, dOpB, dBs, dCons, dNil, dTup, dLst, dIf, dAnd, dOr, dNot, dAndV, dOrV, dNotV, dTest, dChain, dCond, dRet, dRetO, dRetN, dRetOwn, dNext, dDrop, dCall, dCallN, dCallB, dCallH, dCallHN, hName, hTup_tup, hLst_lst, hCons_cons, hNil_nil, dItems, dRange1, dRange2, dEnum, dAltI, dAppend, dPopAt, dPop, dSetIx, dPutK, dIxB, dListB, dSl, dPart, dNoPart, dDisp1, dFor, dComp, dYes, oAdd, oSub, oMod, oFdiv, oPow, oLt, oLe, oGt, oGe, oMul, oNeg, oI, oI0, oEq, oNe, oIn, oIs, oIx, oLen, oInt, oI1, oAbs, oI2, oDivmod, oList, oTuple, oUpper, oIsi, oIsi2, Sl.own, peek, isLst, lstOf, isDic, keysOf, valsOf, D.flat, D.isObj, D.ty, subTy, D.isN, dq_int, dq_bl, dq_bi, dq_ib, dq_str, dq_non, dq_lst, dq_tup, dq_nil, dq_cons, asLst, asTup, asStr, asSeq, Ret.d, endsD, Slot.hid, unsets, phDraw, plain_int, plain_bl, plain_non, List.getElem?_cons_zero, List.getElem?_cons_succ, List.set_cons_zero, List.set_cons_succ]
  refine tu_of (fun ds acc => ∃ ms rs : Lks, acc = (ms.map fun p => (p.2, p.1)).map prD ∧ ds = rs.map prD ∧ ms ++ rs = ps) ?_ ?_ ⟨[], ps, rfl, rfl, rfl⟩
  · rintro acc ⟨ms, rs, rfl, hr, e⟩
    have : rs = [] := by cases rs with | nil => rfl | cons _ _ => cases hr
    subst this
    rw [List.append_nil] at e
    subst e
    refine init_iff L.b0 L.b1 L.a0 L.a1 (good_flip L.g) fun rs h1 h2 => h rs h1 ⟨L.b0, L.b1, L.a0, L.a1, good_perm (good_flip L.g) h1, h2⟩
  · rintro d r acc ⟨ms, rs, rfl, hr, e⟩ Q' hQ
    cases rs with
    | nil => cases hr
    | cons p rs =>
      cases hr
      simp only [prD]
      simp [at20, at21, -List.map_map, dAsg, dOwn, dC, dVar, dOp, dUn, dCl, dClB, dOpB, dBs, dCons, dNil, dTup, dLst, dIf, dAnd, dOr, dNot, dAndV, dOrV, dNotV, dTest, dChain, dCond, dRet, dRetO, dRetN, dRetOwn, dNext, dDrop, dCall, dCallN, dCallB, dCallH, dCallHN, hName, hTup_tup, hLst_lst, hCons_cons, hNil_nil, dItems, dRange1, dRange2, dEnum, dAltI, dAppend, dPopAt, dPop, dSetIx, dPutK, dIxB, dListB, dSl, dPart, dNoPart, dDisp1, dFor, dComp, dYes, oAdd, oSub, oMod, oFdiv, oPow, oLt, oLe, oGt, oGe, oMul, oNeg, oI, oI0, oEq, oNe, oIn, oIs, oIx, oLen, oInt, oI1, oAbs, oI2, oDivmod, oList, oTuple, oUpper, oIsi, oIsi2, Sl.own, peek, isLst, lstOf, isDic, keysOf, valsOf, D.flat, D.isObj, D.ty, subTy, D.isN, dq_int, dq_bl, dq_bi, dq_ib, dq_str, dq_non, dq_lst, dq_tup, dq_nil, dq_cons, asLst, asTup, asStr, asSeq, Ret.d, endsD, Slot.hid, unsets, phDraw, plain_int, plain_bl, plain_non, List.getElem?_cons_zero, List.getElem?_cons_succ, List.set_cons_zero, List.set_cons_succ]
      subst e
      have h5 : ms.length < sizeLine := Nat.lt_of_lt_of_le (by simp at hlen; omega) size_ge
      exact ⟨Nat.le_trans (by decide) size_ge, h5, hQ _ ⟨ms ++ [p], rs, by simp [prD], rfl, by simp⟩⟩
end Kb
namespace Kb
open PySem L2 Dx
theorem cmp_len {ps qs : Lks} : (cmpL ps qs).length ≤ ps.length * qs.length := by
  unfold cmpL
  induction ps with
  | nil => simp
  | cons p r ih =>
    rw [List.flatMap_cons, List.length_append, List.length_cons, Nat.add_mul, Nat.one_mul]
    have := List.length_filterMap_le (fun q : Int × Int => if q.1 = p.2 then some (p.1, q.2) else none) qs
    omega
theorem cmp_app {l m qs : Lks} : cmpL (l ++ m) qs = cmpL l qs ++ cmpL m qs := by simp [cmpL]
theorem p__law_chained (C : Addr) (ds : List D) (Q : Ret → Prop) (QE : D → Prop) (hl : ds.length = 2) (h : ph__law_chained C ds Q QE) : dl__law_chained C (endsD Q QE) (startD nm__law_chained ds) := by
  obtain ⟨ps, qs, rfl, l1, l2, h⟩ := h
  simp [dl__law_chained, startD, nm__law_chained, dSeq, dAsg, dOwn, dC, dVar, dOp, dUn, dCl, dClB, dOpB, dBs, dCons, dNil, dTup, dLst, dIf, dAnd, dOr, dNot, dAndV, dOrV, dNotV, dTest, dChain, dCond, dRet, dRetO, dRetN, dRetOwn, dNext, dDrop, dCall, dCallN, dCallB, dCallH, dCallHN, hName, hTup_tup, hLst_lst, hCons_cons, hNil_nil, dItems, dRange1, dRange2, dEnum, dAltI, dAppend, dPopAt, dPop, dSetIx, dPutK, dIxB, dListB, dSl, dPart, dNoPart, dDisp1, dFor, dComp, dYes, oAdd, oSub, oMod, oFdiv, oPow, oLt, oLe, oGt, oGe, oMul, oNeg, oI, oI0, oEq, oNe, oIn, oIs, oIx, oLen, oInt, oI1, oAbs, oI2, oDivmod, oList, oTuple, oUpper, oIsi, oIsi2, Sl.own, peek, isLst, lstOf, isDic, keysOf, valsOf, D.flat, D.isObj, D.ty, subTy, D.isN, dq_int, dq_bl, dq_bi, dq_ib, dq_str, dq_non, dq_lst, dq_tup, dq_nil, dq_cons, asLst, asTup, asStr, asSeq, Ret.d, endsD, Slot.hid, unsets, phDraw, plain_int, plain_bl, plain_non, List.getElem?_cons_zero, List.getElem?_cons_succ, List.set_cons_zero, List.set_cons_succ]
  refine fo_of (fun ds s => ∃ (l rs : Lks) (x y : Slot), s = [.val (.lst (ps.map prD)), .val (.lst (qs.map prD)), .val (.lst ((cmpL l qs).map prD)), x, y, .un, .un] ∧ ds = rs.map prD ∧ l ++ rs = ps) ?_ ?_ ⟨[], ps, .un, .un, rfl, rfl, rfl⟩
  · rintro s ⟨l, rs, x, y, rfl, hr, e⟩
    have : rs = [] := by cases rs with | nil => rfl | cons _ _ => cases hr
    subst this
    rw [List.append_nil] at e
    subst e
    simp [oSortP, dAsg, dOwn, dC, dVar, dOp, dUn, dCl, dClB, dOpB, dBs, dCons, dNil, dTup, dLst, dIf, dAnd, dOr, dNot, dAndV, dOrV, dNotV, dTest, dChain, dCond, dRet, dRetO, dRetN, dRetOwn, dNext, dDrop, dCall, dCallN, dCallB, dCallH, dCallHN, hName, hTup_tup, hLst_lst, hCons_cons, hNil_nil, dItems, dRange1, dRange2, dEnum, dAltI, dAppend, dPopAt, dPop, dSetIx, dPutK, dIxB, dListB, dSl, dPart, dNoPart, dDisp1, dFor, dComp, dYes, oAdd, oSub, oMod, oFdiv, oPow, oLt, oLe, oGt, oGe, oMul, oNeg, oI, oI0, oEq, oNe, oIn, oIs, oIx, oLen, oInt, oI1, oAbs, oI2, oDivmod, oList, oTuple, oUpper, oIsi, oIsi2, Sl.own, peek, isLst, lstOf, isDic, keysOf, valsOf, D.flat, D.isObj, D.ty, subTy, D.isN, dq_int, dq_bl, dq_bi, dq_ib, dq_str, dq_non, dq_lst, dq_tup, dq_nil, dq_cons, asLst, asTup, asStr, asSeq, Ret.d, endsD, Slot.hid, unsets, phDraw, plain_int, plain_bl, plain_non, List.getElem?_cons_zero, List.getElem?_cons_succ, List.set_cons_zero, List.set_cons_succ]
    exact ⟨_, rfl, fun rs h1 h2 => h rs h1 h2⟩
  · rintro d ds s ⟨l, rs, x, y, rfl, hr, e⟩ k hk
    cases rs with
    | nil => cases hr
    | cons p rs =>
      cases hr
      simp only [prD]
      simp [dSeq, dAsg, dOwn, dC, dVar, dOp, dUn, dCl, dClB, dOpB, dBs, dCons, dNil, dTup, dLst, dIf, dAnd, dOr, dNot, dAndV, dOrV, dNotV, dTest, dChain, dCond, dRet, dRetO, dRetN, dRetOwn, dNext, dDrop, dCall, dCallN, dCallB, dCallH, dCallHN, hName, hTup_tup, hLst_lst, hCons_cons, hNil_nil, dItems, dRange1, dRange2, dEnum, dAltI, dAppend, dPopAt, dPop, dSetIx, dPutK, dIxB, dListB, dSl, dPart, dNoPart, dDisp1, dFor, dComp, dYes, oAdd, oSub, oMod, oFdiv, oPow, oLt, oLe, oGt, oGe, oMul, oNeg, oI, oI0, oEq, oNe, oIn, oIs, oIx, oLen, oInt, oI1, oAbs, oI2, oDivmod, oList, oTuple, oUpper, oIsi, oIsi2, Sl.own, peek, isLst, lstOf, isDic, keysOf, valsOf, D.flat, D.isObj, D.ty, subTy, D.isN, dq_int, dq_bl, dq_bi, dq_ib, dq_str, dq_non, dq_lst, dq_tup, dq_nil, dq_cons, asLst, asTup, asStr, asSeq, Ret.d, endsD, Slot.hid, unsets, phDraw, plain_int, plain_bl, plain_non, List.getElem?_cons_zero, List.getElem?_cons_succ, List.set_cons_zero, List.set_cons_succ]
      have hb : ∀ {l' m' : Lks}, l'.length ≤ 40 → m'.length ≤ 40 → (cmpL l' m').length ≤ 1600 := fun {l' m'} h1 h2 => Nat.le_trans cmp_len (Nat.mul_le_mul h1 h2)
      subst e
      simp at l1
      refine tu_of (fun ds acc => ∃ ms rs : Lks, acc = (cmpL [p] ms).map prD ∧ ds = rs.map prD ∧ ms ++ rs = qs) ?_ ?_ ⟨[], qs, rfl, rfl, rfl⟩
      · rintro acc ⟨ms, rs', rfl, hr, e⟩
        have : rs' = [] := by cases rs' with | nil => rfl | cons _ _ => cases hr
        subst this
        rw [List.append_nil] at e
        subst e
        have b1 := hb (l' := l) (m' := ms) (by omega) l2
        have b2 := hb (l' := [p]) (m' := ms) (by simp) l2
        refine ⟨Nat.le_trans (by simp; omega) size_ge, hk _ ⟨l ++ [p], rs, .val (.int p.1), .val (.int p.2), ?_, rfl, by simp⟩⟩
        rw [← List.map_append, ← cmp_app]
      · rintro d r acc ⟨ms, rs', rfl, hr, e⟩ Q' hQ
        cases rs' with
        | nil => cases hr
        | cons q rs' =>
          cases hr
          subst e
          simp at l2
          have b2 := hb (l' := [p]) (m' := ms) (by simp) (by omega)
          simp only [prD]
          simp [dAsg, dOwn, dC, dVar, dOp, dUn, dCl, dClB, dOpB, dBs, dCons, dNil, dTup, dLst, dIf, dAnd, dOr, dNot, dAndV, dOrV, dNotV, dTest, dChain, dCond, dRet, dRetO, dRetN, dRetOwn, dNext, dDrop, dCall, dCallN, dCallB, dCallH, dCallHN, hName, hTup_tup, hLst_lst, hCons_cons, hNil_nil, dItems, dRange1, dRange2, dEnum, dAltI, dAppend, dPopAt, dPop, dSetIx, dPutK, dIxB, dListB, dSl, dPart, dNoPart, dDisp1, dFor, dComp, dYes, oAdd, oSub, oMod, oFdiv, oPow, oLt, oLe, oGt, oGe, oMul, oNeg, oI, oI0, oEq, oNe, oIn, oIs, oIx, oLen, oInt, oI1, oAbs, oI2, oDivmod, oList, oTuple, oUpper, oIsi, oIsi2, Sl.own, peek, isLst, lstOf, isDic, keysOf, valsOf, D.flat, D.isObj, D.ty, subTy, D.isN, dq_int, dq_bl, dq_bi, dq_ib, dq_str, dq_non, dq_lst, dq_tup, dq_nil, dq_cons, asLst, asTup, asStr, asSeq, Ret.d, endsD, Slot.hid, unsets, phDraw, plain_int, plain_bl, plain_non, List.getElem?_cons_zero, List.getElem?_cons_succ, List.set_cons_zero, List.set_cons_succ]
          by_cases hq : q.1 = p.2
          · rw [if_pos hq]
            refine ⟨Nat.le_trans (by decide) size_ge, Nat.lt_of_lt_of_le (by omega) size_ge, hQ _ ⟨ms ++ [q], rs', ?_, rfl, by simp⟩⟩
            simp [cmpL, hq, prD]
          · rw [if_neg hq]
            refine hQ _ ⟨ms ++ [q], rs', ?_, rfl, by simp⟩
            simp [cmpL, hq]
end Kb
namespace Kb
open PySem L2 Dx
abbrev kI (l : List Int) : List Key := l.map fun i => (.inl i : Key)
theorem hasK {i : Int} {l : List Int} : hasKey (.inl i) (kI l) = decide (i ∈ l) := by
  simp [hasKey, kI]
  induction l with
  | nil => simp
  | cons j r ih => simp_all [eq_comm]
theorem atK {y : Int} : ∀ {l : Lks}, atKey (.inl y) (kI (l.map (·.1))) (l.map fun p => .int p.2) = (l.lookup y).map .int
  | [] => rfl
  | (a, b) :: r => by
    have := atK (y := y) (l := r)
    simp only [kI, List.map_cons, Dx.atKey, List.lookup_cons] at this ⊢
    by_cases e : a = y
    · subst e; simp
    · have h2 : (y == a) = false := by simp [Ne.symm e]
      rw [if_neg (fun h => e (Sum.inl.inj h)), h2]
      exact this
theorem look_some {y : Int} : ∀ {l : Lks}, y ∈ l.map (·.1) ↔ ∃ z, l.lookup y = some z
  | [] => by simp
  | (a, b) :: r => by
    have := look_some (y := y) (l := r)
    rw [List.map_cons, List.mem_cons, List.lookup_cons]
    by_cases e : y = a
    · subst e; simp
    · have h2 : (y == a) = false := by simp [e]
      rw [h2]
      simp only [this]
      simp [e]
theorem dd_of {g : DG} {τ : DT} {κ ν : DE} {base : Sl} {P : List Key → List D → Prop} (I : List D → List Key → List D → Prop) (dn : ∀ ks es, I [] ks es → P ks es)
    (step : ∀ d r ks es, I (d :: r) ks es → ∀ Q : List Key → List D → Prop, (∀ ks' es', I r ks' es' → Q ks' es') → g d base fun sl1 => τ sl1 EF fun b sl2 => if b = true then κ sl2 EF fun e sl3 => ν sl3 EF fun f _ => ∃ k, e.key = some k ∧ ks.length < sizeLine ∧ Q (Dx.putKey k ks) (putVal k f ks es) else Q ks es) :
    ∀ {ds ks es}, I ds ks es → dDTurns g τ κ ν base P ds ks es
  | [], ks, es, h => dn _ _ h
  | d :: r, ks, es, h => step d r ks es h _ fun _ _ h' => dd_of I dn step h'
theorem p_Likeness_M_then (C : Addr) (ds : List D) (Q : Ret → Prop) (QE : D → Prop) (hl : ds.length = 2) (h : ph_Likeness_M_then C ds Q QE) : dl_Likeness_M_then C (endsD Q QE) (startD nm_Likeness_M_then ds) := by
  obtain ⟨a, b, c, ps, qs, rfl, L, M, h⟩ := h
  have hlen := good_len L.g L.a1
  have hlen2 := good_len M.g M.a1
  simp [dl_Likeness_M_then, startD, nm_Likeness_M_then, dSeq, dFld, lk_first, lk_second, lk_links, oIsC, lk_isC, dMake, dDComp, dAsg, dOwn, dC, dVar, dOp, dUn, dCl, dClB, dOpB, dBs, dCons, dNil, dTup, dLst, dIf, dAnd, dOr, dNot, dAndV, dOrV, dNotV, dTest, dChain, dCond, dRet, dRetO, dRetN, dRetOwn, dNext, dDrop, dCall, dCallN, dCallB, dCallH, dCallHN, hName, hTup_tup, hLst_lst, hCons_cons, hNil_nil, dItems, dRange1, dRange2, dEnum, dAltI, dAppend, dPopAt, dPop, dSetIx, dPutK, dIxB, dListB, dSl, dPart, dNoPart, dDisp1, dFor, dComp, dYes, oAdd, oSub, oMod, oFdiv, oPow, oLt, oLe, oGt, oGe, oMul, oNeg, oI, oI0, oEq, oNe, oIn, oIs, oIx, oLen, oInt, oI1, oAbs, oI2, oDivmod, oList, oTuple, oUpper, oIsi, oIsi2, Sl.own, peek, isLst, lstOf, isDic, keysOf, valsOf, D.flat, D.isObj, D.ty, subTy, D.isN, dq_int, dq_bl, dq_bi, dq_ib, dq_str, dq_non, dq_lst, dq_tup, dq_nil, dq_cons, asLst, asTup, asStr, asSeq, Ret.d, endsD, Slot.hid, unsets, phDraw, plain_int, plain_bl, plain_non, List.getElem?_cons_zero, List.getElem?_cons_succ, List.set_cons_zero, List.set_cons_succ]
  refine .inl (dd_of (fun ds ks es => ∃ l rs : Lks, ks = kI (l.map (·.1)) ∧ es = l.map (fun p => .int p.2) ∧ ds = rs.map prD ∧ l ++ rs = qs) ?_ ?_ ⟨[], qs, rfl, rfl, rfl, rfl⟩)
  · rintro ks es ⟨l, rs, rfl, rfl, hr, e⟩
    have : rs = [] := by cases rs with | nil => rfl | cons _ _ => cases hr
    subst this
    rw [List.append_nil] at e
    subst e
    refine tu_of (fun ds acc => ∃ ms rs : Lks, acc = (cmpF ms l).map prD ∧ ds = rs.map prD ∧ ms ++ rs = ps) ?_ ?_ ⟨[], ps, rfl, rfl, rfl⟩
    · rintro acc ⟨ms, rs, rfl, hr, e⟩
      have : rs = [] := by cases rs with | nil => rfl | cons _ _ => cases hr
      subst this
      rw [List.append_nil] at e
      subst e
      rw [← cmpL_F M.g.n1]
      have g := good_cmp L.g M.g
      exact init_iff L.a0 L.a1 M.b0 M.b1 g fun rs h1 h2 => h rs h1 ⟨L.a0, L.a1, M.b0, M.b1, good_perm g h1, h2⟩
    · rintro d r acc ⟨ms, rs, rfl, hr, e⟩ Q' hQ
      cases rs with
      | nil => cases hr
      | cons p rs =>
        cases hr
        simp only [prD]
        simp [oGet, hasK, -List.map_map, dAsg, dOwn, dC, dVar, dOp, dUn, dCl, dClB, dOpB, dBs, dCons, dNil, dTup, dLst, dIf, dAnd, dOr, dNot, dAndV, dOrV, dNotV, dTest, dChain, dCond, dRet, dRetO, dRetN, dRetOwn, dNext, dDrop, dCall, dCallN, dCallB, dCallH, dCallHN, hName, hTup_tup, hLst_lst, hCons_cons, hNil_nil, dItems, dRange1, dRange2, dEnum, dAltI, dAppend, dPopAt, dPop, dSetIx, dPutK, dIxB, dListB, dSl, dPart, dNoPart, dDisp1, dFor, dComp, dYes, oAdd, oSub, oMod, oFdiv, oPow, oLt, oLe, oGt, oGe, oMul, oNeg, oI, oI0, oEq, oNe, oIn, oIs, oIx, oLen, oInt, oI1, oAbs, oI2, oDivmod, oList, oTuple, oUpper, oIsi, oIsi2, Sl.own, peek, isLst, lstOf, isDic, keysOf, valsOf, D.flat, D.isObj, D.ty, subTy, D.isN, dq_int, dq_bl, dq_bi, dq_ib, dq_str, dq_non, dq_lst, dq_tup, dq_nil, dq_cons, asLst, asTup, asStr, asSeq, Ret.d, endsD, Slot.hid, unsets, phDraw, plain_int, plain_bl, plain_non, List.getElem?_cons_zero, List.getElem?_cons_succ, List.set_cons_zero, List.set_cons_succ]
        subst e
        have h5 : (cmpF ms l).length ≤ ms.length := List.length_filterMap_le _ _
        simp at hlen
        refine ⟨.inl p.2, rfl, ?_⟩
        rw [hasK]
        cases hz : l.lookup p.2 with
        | none =>
          have : p.2 ∉ l.map (·.1) := fun hm => by
            obtain ⟨z, e⟩ := look_some.mp hm
            rw [hz] at e
            cases e
          rw [if_neg (by simpa using this)]
          exact hQ _ ⟨ms ++ [p], rs, by simp [cmpF, hz], rfl, by simp⟩
        | some z =>
          rw [if_pos (by simpa using look_some.mpr ⟨z, hz⟩)]
          refine ⟨_, rfl, .int z, by rw [atK, hz]; rfl, Nat.le_trans (by decide) size_ge, Nat.lt_of_lt_of_le (by omega) size_ge, hQ _ ⟨ms ++ [p], rs, by simp [cmpF, hz, prD], rfl, by simp⟩⟩
  · rintro d r ks es ⟨l, rs, rfl, rfl, hr, e⟩ Q' hQ
    cases rs with
    | nil => cases hr
    | cons p rs =>
      cases hr
      simp only [prD]
      subst e
      simp [D.key, Dx.putKey, putVal, -List.map_map, dAsg, dOwn, dC, dVar, dOp, dUn, dCl, dClB, dOpB, dBs, dCons, dNil, dTup, dLst, dIf, dAnd, dOr, dNot, dAndV, dOrV, dNotV, dTest, dChain, dCond, dRet, dRetO, dRetN, dRetOwn, dNext, dDrop, dCall, dCallN, dCallB, dCallH, dCallHN, hName, hTup_tup, hLst_lst, hCons_cons, hNil_nil, dItems, dRange1, dRange2, dEnum, dAltI, dAppend, dPopAt, dPop, dSetIx, dPutK, dIxB, dListB, dSl, dPart, dNoPart, dDisp1, dFor, dComp, dYes, oAdd, oSub, oMod, oFdiv, oPow, oLt, oLe, oGt, oGe, oMul, oNeg, oI, oI0, oEq, oNe, oIn, oIs, oIx, oLen, oInt, oI1, oAbs, oI2, oDivmod, oList, oTuple, oUpper, oIsi, oIsi2, Sl.own, peek, isLst, lstOf, isDic, keysOf, valsOf, D.flat, D.isObj, D.ty, subTy, D.isN, dq_int, dq_bl, dq_bi, dq_ib, dq_str, dq_non, dq_lst, dq_tup, dq_nil, dq_cons, asLst, asTup, asStr, asSeq, Ret.d, endsD, Slot.hid, unsets, phDraw, plain_int, plain_bl, plain_non, List.getElem?_cons_zero, List.getElem?_cons_succ, List.set_cons_zero, List.set_cons_succ]
      have m1 : p.1 ∉ l.map (·.1) := fun hz => by
        have := M.g.n1
        rw [List.map_append, List.nodup_append] at this
        exact this.2.2 p.1 hz p.1 (by simp) rfl
      have m2 : ¬ hasKey (.inl p.1) (kI (l.map (·.1))) = true := by rw [hasK]; simpa using m1
      rw [if_neg m2, if_neg m2]
      simp at hlen2
      exact ⟨Nat.lt_of_lt_of_le (by omega) size_ge, hQ _ _ ⟨l ++ [p], rs, by simp, by simp, rfl, by simp⟩⟩
end Kb
namespace Kb
open PySem L2 Dx
def rg (a : Int) : List Int := (List.range a.toNat).map fun (k : Nat) => 0 + (k : Int)
theorem rg_range {a : Int} : rangeD 0 a.toNat = (rg a).map .int := by
  unfold rg rangeD
  rw [List.map_map]
  rfl
theorem ers_map {l : List Int} {j : Nat} : (l.map D.int).eraseIdx j = (l.eraseIdx j).map .int := by
  rw [List.eraseIdx_eq_take_drop_succ, List.eraseIdx_eq_take_drop_succ, List.map_append, List.map_take, List.map_drop]
theorem rg_nd {a : Int} : (rg a).Nodup := List.pairwise_map.mpr (List.nodup_range.imp fun h e => h (by omega))
theorem rg_bd {a i : Int} (h : i ∈ rg a) : 0 ≤ i ∧ i < a := by
  obtain ⟨k, hk, rfl⟩ := List.mem_map.mp h
  have := List.mem_range.mp hk
  omega
theorem ers_perm {l : List Int} {j : Nat} (m : List Int) (hj : j < l.length) : (l.eraseIdx j ++ (m ++ [l[j]])).Perm (l ++ m) := by
  have h1 : (l[j] :: l.eraseIdx j).Perm l := by
    rw [List.eraseIdx_eq_take_drop_succ]
    refine List.perm_middle.symm.trans ?_
    rw [List.getElem_cons_drop, List.take_append_drop]
  rw [← List.append_assoc]
  refine List.perm_append_comm.trans ?_
  exact (h1.append_right m)
theorem p__law_links (C : Addr) (ds : List D) (Q : Ret → Prop) (QE : D → Prop) (hl : ds.length = 3) (h : ph__law_links C ds Q QE) : dl__law_links C (endsD Q QE) (startH nm__law_links ds) := by
  obtain ⟨a, b, m, rfl, a0, a1, b0, b1, m0, h⟩ := h
  simp [dl__law_links, startH, nm__law_links, dSeq, dParN3, dLstRg1, oMin3, dAsg, dOwn, dC, dVar, dOp, dUn, dCl, dClB, dOpB, dBs, dCons, dNil, dTup, dLst, dIf, dAnd, dOr, dNot, dAndV, dOrV, dNotV, dTest, dChain, dCond, dRet, dRetO, dRetN, dRetOwn, dNext, dDrop, dCall, dCallN, dCallB, dCallH, dCallHN, hName, hTup_tup, hLst_lst, hCons_cons, hNil_nil, dItems, dRange1, dRange2, dEnum, dAltI, dAppend, dPopAt, dPop, dSetIx, dPutK, dIxB, dListB, dSl, dPart, dNoPart, dDisp1, dFor, dComp, dYes, oAdd, oSub, oMod, oFdiv, oPow, oLt, oLe, oGt, oGe, oMul, oNeg, oI, oI0, oEq, oNe, oIn, oIs, oIx, oLen, oInt, oI1, oAbs, oI2, oDivmod, oList, oTuple, oUpper, oIsi, oIsi2, Sl.own, peek, isLst, lstOf, isDic, keysOf, valsOf, D.flat, D.isObj, D.ty, subTy, D.isN, dq_int, dq_bl, dq_bi, dq_ib, dq_str, dq_non, dq_lst, dq_tup, dq_nil, dq_cons, asLst, asTup, asStr, asSeq, Ret.d, endsD, Slot.hid, unsets, phDraw, plain_int, plain_bl, plain_non, List.getElem?_cons_zero, List.getElem?_cons_succ, List.set_cons_zero, List.set_cons_succ]
  have n0 : 0 ≤ (if m < if b < a then b else a then m else if b < a then b else a) ∧ (if m < if b < a then b else a then m else if b < a then b else a) ≤ a ∧ (if m < if b < a then b else a then m else if b < a then b else a) ≤ b := by split <;> split <;> omega
  generalize (if m < if b < a then b else a then m else if b < a then b else a) = n at *
  refine ⟨a0, by omega, b0, by omega, by omega, by omega, ?_⟩
  refine fo_of (fun ds s => ∃ (os ts : List Int) (ps : Lks) (x : Slot), s = [.hand, .val (.int a), .val (.int b), .val (.int m), .own (.lst (os.map .int)), .own (.lst (ts.map .int)), .own (.lst (ps.map prD)), x] ∧ ps.length + ds.length = n.toNat ∧ os.length + ps.length = a.toNat ∧ ts.length + ps.length = b.toNat ∧ (os ++ ps.map (·.1)).Nodup ∧ (ts ++ ps.map (·.2)).Nodup ∧ (∀ i ∈ os ++ ps.map (·.1), 0 ≤ i ∧ i < a) ∧ ∀ i ∈ ts ++ ps.map (·.2), 0 ≤ i ∧ i < b) ?_ ?_ ⟨rg a, rg b, [], .un, by rw [rg_range, rg_range]; rfl, by simp [rangeD], by simp [rg], by simp [rg], by simpa using rg_nd, by simpa using rg_nd, by simpa using fun i => rg_bd, by simpa using fun i => rg_bd⟩
  · rintro s ⟨os, ts, ps, x, rfl, e1, e2, e3, d1, d2, c1, c2⟩
    simp [dAsg, dOwn, dC, dVar, dOp, dUn, dCl, dClB, dOpB, dBs, dCons, dNil, dTup, dLst, dIf, dAnd, dOr, dNot, dAndV, dOrV, dNotV, dTest, dChain, dCond, dRet, dRetO, dRetN, dRetOwn, dNext, dDrop, dCall, dCallN, dCallB, dCallH, dCallHN, hName, hTup_tup, hLst_lst, hCons_cons, hNil_nil, dItems, dRange1, dRange2, dEnum, dAltI, dAppend, dPopAt, dPop, dSetIx, dPutK, dIxB, dListB, dSl, dPart, dNoPart, dDisp1, dFor, dComp, dYes, oAdd, oSub, oMod, oFdiv, oPow, oLt, oLe, oGt, oGe, oMul, oNeg, oI, oI0, oEq, oNe, oIn, oIs, oIx, oLen, oInt, oI1, oAbs, oI2, oDivmod, oList, oTuple, oUpper, oIsi, oIsi2, Sl.own, peek, isLst, lstOf, isDic, keysOf, valsOf, D.flat, D.isObj, D.ty, subTy, D.isN, dq_int, dq_bl, dq_bi, dq_ib, dq_str, dq_non, dq_lst, dq_tup, dq_nil, dq_cons, asLst, asTup, asStr, asSeq, Ret.d, endsD, Slot.hid, unsets, phDraw, plain_int, plain_bl, plain_non, List.getElem?_cons_zero, List.getElem?_cons_succ, List.set_cons_zero, List.set_cons_succ]
    refine h ps ⟨(List.nodup_append.mp d1).2.1, (List.nodup_append.mp d2).2.1, fun p hp => ⟨c1 _ (List.mem_append_right _ (List.mem_map.mpr ⟨p, hp, rfl⟩)), c2 _ (List.mem_append_right _ (List.mem_map.mpr ⟨p, hp, rfl⟩))⟩⟩ ?_
    rw [List.length_nil] at e1
    omega
  · rintro d ds s ⟨os, ts, ps, x, rfl, e1, e2, e3, d1, d2, c1, c2⟩ k hk
    simp [dAsg, dOwn, dC, dVar, dOp, dUn, dCl, dClB, dOpB, dBs, dCons, dNil, dTup, dLst, dIf, dAnd, dOr, dNot, dAndV, dOrV, dNotV, dTest, dChain, dCond, dRet, dRetO, dRetN, dRetOwn, dNext, dDrop, dCall, dCallN, dCallB, dCallH, dCallHN, hName, hTup_tup, hLst_lst, hCons_cons, hNil_nil, dItems, dRange1, dRange2, dEnum, dAltI, dAppend, dPopAt, dPop, dSetIx, dPutK, dIxB, dListB, dSl, dPart, dNoPart, dDisp1, dFor, dComp, dYes, oAdd, oSub, oMod, oFdiv, oPow, oLt, oLe, oGt, oGe, oMul, oNeg, oI, oI0, oEq, oNe, oIn, oIs, oIx, oLen, oInt, oI1, oAbs, oI2, oDivmod, oList, oTuple, oUpper, oIsi, oIsi2, Sl.own, peek, isLst, lstOf, isDic, keysOf, valsOf, D.flat, D.isObj, D.ty, subTy, D.isN, dq_int, dq_bl, dq_bi, dq_ib, dq_str, dq_non, dq_lst, dq_tup, dq_nil, dq_cons, asLst, asTup, asStr, asSeq, Ret.d, endsD, Slot.hid, unsets, phDraw, plain_int, plain_bl, plain_non, List.getElem?_cons_zero, List.getElem?_cons_succ, List.set_cons_zero, List.set_cons_succ]
    rw [List.length_cons] at e1
    refine ⟨by omega, log_small (by omega), fun r r0 r1 => ?_⟩
    obtain ⟨j, rfl⟩ := Int.eq_ofNat_of_zero_le r0
    have hj : j < os.length := by omega
    refine ⟨j, rfl, by omega, _, ⟨_, List.getElem?_eq_getElem hj, rfl⟩, by omega, log_small (by omega), fun r r0 r1 => ?_⟩
    obtain ⟨j2, rfl⟩ := Int.eq_ofNat_of_zero_le r0
    have hj2 : j2 < ts.length := by omega
    refine ⟨j2, rfl, by omega, _, ⟨_, List.getElem?_eq_getElem hj2, rfl⟩, Nat.le_trans (by decide) size_ge, Nat.lt_of_lt_of_le (by omega) size_ge, ?_⟩
    have q1 := ers_perm (ps.map (·.1)) hj
    have q2 := ers_perm (ps.map (·.2)) hj2
    refine hk _ ⟨os.eraseIdx j, ts.eraseIdx j2, ps ++ [(os[j], ts[j2])], .val d, ?_, ?_, ?_, ?_, ?_, ?_, ?_, ?_⟩
    · rw [ers_map, ers_map, List.map_append]
      rfl
    · simp
      omega
    · rw [List.length_eraseIdx_of_lt hj]
      simp
      omega
    · rw [List.length_eraseIdx_of_lt hj2]
      simp
      omega
    · rw [List.map_append]
      exact q1.nodup_iff.mpr d1
    · rw [List.map_append]
      exact q2.nodup_iff.mpr d2
    · rw [List.map_append]
      exact fun i hi => c1 i (q1.mem_iff.mp hi)
    · rw [List.map_append]
      exact fun i hi => c2 i (q2.mem_iff.mp hi)
end Kb
namespace Kb
open PySem L2 Dx
/-! ### how links are shown -/
def prP (p : Int × Int) : PyData := .tuple [.int p.1, .int p.2]
theorem pys_pr : ∀ {ps : Lks}, D.pys (ps.map prD) = some (ps.map prP)
  | [] => rfl
  | p :: r => by
    rw [List.map_cons]
    unfold D.pys
    rw [pys_pr (ps := r)]
    simp [prD, D.py, D.pys, prP]
def shw (ps : Lks) : Str := (PyData.tuple (ps.map prP)).shown
theorem digs40 : ∀ n : Fin 40, ((PyData.int ((n.val : Nat) : Int)).shown).length ≤ 13 := by
  intro n
  have := n.isLt
  simp only [PyData.shown]
  revert n
  decide
def bd40 (ps : Lks) : Prop := ∀ p ∈ ps, (0 ≤ p.1 ∧ p.1 < 40) ∧ 0 ≤ p.2 ∧ p.2 < 40
theorem dig40 {i : Int} (h0 : 0 ≤ i) (h1 : i < 40) : ((PyData.int i).shown).length ≤ 13 := by
  have := digs40 ⟨i.toNat, by omega⟩
  have e : ((i.toNat : Nat) : Int) = i := by omega
  rw [← e]
  exact this
theorem log40 {i : Int} (h0 : 0 ≤ i) (h1 : i < 40) : i.natAbs.log2 < 6 := log_lt 6 (by decide) (by omega)
theorem prs_facts : ∀ {ps : Lks}, bd40 ps → PyData.showableAll (ps.map prP) = true ∧ PyData.hasDictAll (ps.map prP) = false ∧ PyData.leavesShortAll 13 (ps.map prP) = true ∧ PyData.weightAll (ps.map prP) ≤ 20 * ps.length
  | [], _ => by simp [PyData.showableAll, PyData.hasDictAll, PyData.leavesShortAll, PyData.weightAll]
  | p :: r, h => by
    obtain ⟨h1, h2, h3, h4⟩ := prs_facts (ps := r) fun q hq => h q (List.mem_cons_of_mem _ hq)
    obtain ⟨⟨a0, a1⟩, b0, b1⟩ := h p List.mem_cons_self
    have la := log40 a0 a1
    have lb := log40 b0 b1
    have da := dig40 a0 a1
    have db := dig40 b0 b1
    have wa : (if p.1 = 0 then 0 else p.1.natAbs.log2 + 1) ≤ 7 := by split <;> omega
    have wb : (if p.2 = 0 then 0 else p.2.natAbs.log2 + 1) ≤ 7 := by split <;> omega
    refine ⟨?_, ?_, ?_, ?_⟩
    · simp [PyData.showableAll, PyData.showable, prP, h1]
      omega
    · simp [PyData.hasDictAll, PyData.hasDict, prP, h2]
    · simp [PyData.leavesShortAll, PyData.leavesShort, prP, h3, da, db]
    · simp [PyData.weightAll, PyData.weight, prP]
      omega
theorem prs_depth : ∀ {ps : Lks}, PyData.depthAll (ps.map prP) ≤ 2
  | [] => by simp [PyData.depthAll]
  | p :: r => by
    have := prs_depth (ps := r)
    simp [PyData.depthAll, PyData.depth, prP]
    omega
theorem repr_in {ps : Lks} {P : D → Prop} (h : bd40 ps) (hl : ps.length ≤ 40) (k : (shw ps).length ≤ 13000 → P (.str (shw ps))) : oRepr [.tup (ps.map prD)] P := by
  obtain ⟨h1, h2, h3, h4⟩ := prs_facts h
  have h5 := PyData.shown_le 13 (by decide) (.tuple (ps.map prP)) (by simpa [PyData.leavesShort] using h3)
  have h6 : (shw ps).length ≤ 13000 := by
    simp only [PyData.weight] at h5
    unfold shw
    omega
  refine ⟨.tuple (ps.map prP), ?_, by simpa [PyData.showable] using h1, by simpa [PyData.hasDict] using h2, ?_, Nat.le_trans h6 (Nat.le_trans (by decide) size_ge), k h6⟩
  · unfold D.py
    rw [pys_pr]
    rfl
  · have := prs_depth (ps := ps)
    simp only [PyData.depth]
    omega
/-! ### sorted lists of pairs -/
def leP (x y : Int × Int) : Bool := !SrtO.lexB y x
def srt (ps : Lks) : Lks := ps.mergeSort leP
theorem srt_perm (ps : Lks) : (srt ps).Perm ps := List.mergeSort_perm _ _
theorem srt_srd (ps : Lks) : Srd (srt ps) := by
  have := List.pairwise_mergeSort (le := leP) (fun a b c h1 h2 => by
    simp only [leP, Bool.not_eq_true'] at *
    have := SrtO.lexB_no.mp h1
    have := SrtO.lexB_no.mp h2
    exact SrtO.lexB_no.mpr (by omega)) (fun a b => by
    simp only [leP, Bool.or_eq_true, Bool.not_eq_true']
    by_cases h : SrtO.lexB b a = false
    · exact .inl h
    · refine .inr (SrtO.lexB_no.mpr fun h2 => h (SrtO.lexB_no.mpr fun h3 => ?_))
      omega) ps
  exact this.imp fun h => by simpa [leP] using h
theorem srt_of {ps rs : Lks} (p : rs.Perm ps) (s : Srd rs) : rs = srt ps := srd_eq s (srt_srd _) (p.trans (srt_perm _).symm)
theorem mem_srt {ps : Lks} {q : Int × Int} : q ∈ srt ps ↔ q ∈ ps := (srt_perm ps).mem_iff
theorem len_srt {ps : Lks} : (srt ps).length = ps.length := (srt_perm ps).length_eq
theorem good_srt {a b : Int} {ps : Lks} (g : Good a b ps) : Good a b (srt ps) := good_perm g (srt_perm ps)
theorem srt_eq {a b a' b' : Int} {l m : Lks} (g : Good a b l) (g' : Good a' b' m) (h : ∀ x y, (x, y) ∈ l ↔ (x, y) ∈ m) : srt l = srt m :=
  srd_ext (srt_srd _) (srt_srd _) (good_srt g) (good_srt g') fun x y => by rw [mem_srt, mem_srt]; exact h x y
def flp (ps : Lks) : Lks := ps.map fun p => (p.2, p.1)
theorem mem_flp {ps : Lks} {x y : Int} : (x, y) ∈ flp ps ↔ (y, x) ∈ ps := by
  unfold flp
  constructor
  · intro h
    obtain ⟨⟨a, b⟩, hp, e⟩ := List.mem_map.mp h
    cases e
    exact hp
  · intro h
    exact List.mem_map.mpr ⟨_, h, rfl⟩
theorem len_flp {ps : Lks} : (flp ps).length = ps.length := List.length_map _
structure Sz (a : Int) : Prop where
  lo : 0 ≤ a
  hi : a ≤ 40
theorem lik_srt {a b : Int} {ps : Lks} (ha : Sz a) (hb : Sz b) (g : Good a b ps) : Lik a b (srt ps) := ⟨ha.lo, ha.hi, hb.lo, hb.hi, good_srt g, srt_srd _⟩
theorem good_bd {a b : Int} {ps : Lks} (ha : Sz a) (hb : Sz b) (g : Good a b ps) : bd40 ps := fun p hp => by
  have := g.bd p hp
  have := ha.hi
  have := hb.hi
  exact ⟨⟨by omega, by omega⟩, by omega, by omega⟩
theorem lk_inj {C : Addr} {a b a' b' : Int} {ps qs : Lks} (h : lk C a b ps = lk C a' b' qs) : a = a' ∧ b = b' ∧ ps = qs := by
  unfold lk at h
  injection h with h1 h2 h3
  injection h3 with h4 h5
  injection h5 with h5 h6
  injection h6 with h6 h7
  cases h4
  cases h5
  injection h6 with h6
  exact ⟨rfl, rfl, map_pr.mp h6⟩
theorem make_in {C : Addr} {a b : Int} {d : D} {ps : Lks} {Q : D → Prop} {E : D → Prop} (ha : Sz a) (hb : Sz b) (hd : asSeq d = some (ps.map prD)) (g : Good a b ps) (h : Q (lk C a b (srt ps))) :
    ph_Likeness_M___init__ C [.int a, .int b, d] Q E := ⟨a, b, d, ps, rfl, ha.lo, ha.hi, hb.lo, hb.hi, hd, g, fun rs h1 h2 => srt_of h1 h2 ▸ h⟩
theorem then_in {C : Addr} {a b c : Int} {ps qs : Lks} {P : Ret → Prop} {E : D → Prop} (L : Lik a b ps) (M : Lik b c qs) (h : P (.val (lk C a c (srt (cmpL ps qs))))) :
    ph_Likeness_M_then C [lk C a b ps, lk C b c qs] P E := ⟨a, b, c, ps, qs, rfl, L, M, fun rs h1 h2 => srt_of h1 h2.s ▸ h⟩
theorem flip_in {C : Addr} {a b : Int} {ps : Lks} {P : Ret → Prop} {E : D → Prop} (L : Lik a b ps) (h : P (.val (lk C b a (srt (flp ps))))) :
    ph_Likeness_M_flipped C [lk C a b ps] P E := ⟨a, b, ps, rfl, L, fun rs h1 h2 => srt_of h1 h2.s ▸ h⟩
theorem chain_in {C : Addr} {ps qs : Lks} {P : Ret → Prop} {E : D → Prop} (h1 : ps.length ≤ 40) (h2 : qs.length ≤ 40) (h : P (.val (.lst ((srt (cmpL ps qs)).map prD)))) :
    ph__law_chained C [.lst (ps.map prD), .lst (qs.map prD)] P E := ⟨ps, qs, rfl, h1, h2, fun rs h1 h2 => srt_of h1 h2 ▸ h⟩
theorem told_in {C : Addr} {a b : Int} {ps qs : Lks} {P : Ret → Prop} {E : D → Prop} (h1 : qs.Perm ps) (h2 : Srd ps) (h : P (.val (.bl true))) :
    ph__law_told C [lk C a b ps, .int a, .int b, .lst (qs.map prD)] P E := ⟨a, b, ps, qs, rfl, h1, h2, h⟩
theorem eq_in {C : Addr} {a b a' b' : Int} {ps qs : Lks} {P : Ret → Prop} {E : D → Prop} (h : P (.val (.bl (decide (ps = qs ∧ a = a' ∧ b = b'))))) :
    ph_Likeness_M___eq__ C [lk C a b ps, lk C a' b' qs] P E := ⟨a, b, a', b', ps, qs, rfl, h⟩
theorem full_in {C : Addr} {a b : Int} {ps : Lks} {P : Ret → Prop} {E : D → Prop} (h : P (.val (.bl (decide (a = b) && decide ((ps.length : Int) = a))))) :
    ph_Likeness_M_is_full C [lk C a b ps] P E := ⟨a, b, ps, rfl, h⟩
theorem v_of (s : String) : validS (Str.ofString s) = true := by
  rw [Str.ofString_eq_toList]
  simp only [validS, List.all_eq_true, decide_eq_true_eq]
  intro c hc
  simp only [List.mem_map] at hc
  obtain ⟨d, _, rfl⟩ := hc
  have := d.valid
  unfold UInt32.isValidChar Nat.isValidChar at this
  unfold Char.toNat
  omega
theorem v_app {a b : Str} (ha : validS a = true) (hb : validS b = true) : validS (a ++ b) = true := by
  simp only [validS, List.all_eq_true, decide_eq_true_eq] at *
  intro c hc
  rw [Str.cps_append, Array.toList_append] at hc
  rcases List.mem_append.mp hc with h | h
  · exact ha c h
  · exact hb c h
theorem v_join {s : Str} (hs : validS s = true) : ∀ {ts : List Str}, (∀ t ∈ ts, validS t = true) → validS (Str.join s ts) = true
  | [], _ => rfl
  | [x], h => h x List.mem_cons_self
  | x :: y :: r, h => v_app (v_app (h x List.mem_cons_self) hs) (v_join hs fun t ht => h t (List.mem_cons_of_mem _ ht))
theorem v_tup {ts : List Str} (h : ∀ t ∈ ts, validS t = true) : validS (tupleText ts) = true := by
  unfold tupleText
  refine v_app (v_app (v_of _) (v_join (v_of _) h)) ?_
  split
  · exact v_of _
  · exact v_of _
theorem v_shw {ps : Lks} : validS (shw ps) = true := by
  unfold shw
  simp only [PyData.shown]
  refine v_tup fun t ht => ?_
  induction ps with
  | nil => cases ht
  | cons p r ih =>
    simp only [List.map_cons, PyData.shownAll, List.mem_cons] at ht
    rcases ht with rfl | ht
    · simp only [prP, PyData.shown, PyData.shownAll]
      refine v_tup fun t ht => ?_
      simp only [List.mem_cons, List.not_mem_nil, or_false] at ht
      rcases ht with rfl | rfl <;> exact v_of _
    · exact ih ht
theorem cut_tail {n : Int} {y : Lks} (hn : 0 < y.length) : cutD (y.map prD) (some 1) none = y.tail.map prD := by
  have e : HT.sIx (y.map prD).length 0 (some 1) = 1 := by
    rw [show (1 : Int) = ((1 : Nat) : Int) from rfl, HT.sIx_nat, List.length_map]
    omega
  unfold cutD
  rw [e, HT.sIx_none, List.take_of_length_le (by simp), List.drop_one, List.map_tail]
theorem sl_in {y : Lks} {P : D → Prop} (hn : 0 < y.length) (h : P (.tup (y.tail.map prD))) : oSl (.tup (y.map prD)) (some 1) none P := by
  refine ⟨fun e => ?_, by rw [cut_tail (n := 0) hn]; exact h⟩
  have e1 := e.1
  rw [show (1 : Int) = ((1 : Nat) : Int) from rfl, HT.sIx_nat, List.length_map] at e1
  omega
end Kb
namespace Kb
open PySem L2 Dx
theorem mem_rg {a i : Int} : i ∈ rg a ↔ 0 ≤ i ∧ i < a := by
  refine ⟨rg_bd, fun h => ?_⟩
  exact List.mem_map.mpr ⟨i.toNat, List.mem_range.mpr (by omega), by omega⟩
theorem len_rg {a : Int} : (rg a).length = a.toNat := by simp [rg]
def ids (a : Int) : Lks := (rg a).map fun i => (i, i)
theorem mem_ids {a x y : Int} : (x, y) ∈ ids a ↔ x = y ∧ 0 ≤ x ∧ x < a := by
  unfold ids
  constructor
  · intro h
    obtain ⟨i, hi, e⟩ := List.mem_map.mp h
    cases e
    exact ⟨rfl, rg_bd hi⟩
  · rintro ⟨rfl, h⟩
    exact List.mem_map.mpr ⟨x, mem_rg.mpr h, rfl⟩
theorem good_ids {a : Int} : Good a a (ids a) := by
  refine ⟨?_, ?_, ?_⟩
  · unfold ids
    rw [List.map_map, show ((fun p : Int × Int => p.1) ∘ fun i : Int => (i, i)) = id from rfl, List.map_id]
    exact rg_nd
  · unfold ids
    rw [List.map_map, show ((fun p : Int × Int => p.2) ∘ fun i : Int => (i, i)) = id from rfl, List.map_id]
    exact rg_nd
  · rintro ⟨x, y⟩ h
    obtain ⟨rfl, h1, h2⟩ := mem_ids.mp h
    exact ⟨⟨h1, h2⟩, h1, h2⟩
theorem len_ids {a : Int} : (ids a).length = a.toNat := by rw [ids, List.length_map, len_rg]
theorem good_flp {a b : Int} {l : Lks} (g : Good a b l) : Good b a (flp l) := good_flip g
abbrev lkS (C : Addr) (a b : Int) (ps : Lks) : D := lk C a b (srt ps)
theorem srt_cmp {a b c : Int} {l m : Lks} (g : Good a b l) (k : Good b c m) : srt (cmpL (srt l) (srt m)) = srt (cmpL l m) :=
  srt_eq (good_cmp (good_srt g) (good_srt k)) (good_cmp g k) fun x y => by simp [mem_cmp, mem_srt]
theorem srt_flp {a b : Int} {l : Lks} (g : Good a b l) : srt (flp (srt l)) = srt (flp l) :=
  srt_eq (good_flp (good_srt g)) (good_flp g) fun x y => by simp [mem_flp, mem_srt]
section
variable {C : Addr} {a b c : Int} {l m qs : Lks} {P : Ret → Prop} {E : D → Prop}
theorem then2 (ha : Sz a) (hb : Sz b) (hc : Sz c) (g : Good a b l) (k : Good b c m) (h : P (.val (lkS C a c (cmpL l m)))) : ph_Likeness_M_then C [lkS C a b l, lkS C b c m] P E :=
  then_in (lik_srt ha hb g) (lik_srt hb hc k) (by rw [srt_cmp g k]; exact h)
theorem flip2 (ha : Sz a) (hb : Sz b) (g : Good a b l) (h : P (.val (lkS C b a (flp l)))) : ph_Likeness_M_flipped C [lkS C a b l] P E :=
  flip_in (lik_srt ha hb g) (by rw [srt_flp g]; exact h)
theorem told2 (p : qs.Perm l) (h : P (.val (.bl true))) : ph__law_told C [lkS C a b l, .int a, .int b, .lst (qs.map prD)] P E :=
  told_in (p.trans (srt_perm l).symm) (srt_srd l) h
theorem eq2 (e : srt l = srt m) (h : P (.val (.bl true))) : ph_Likeness_M___eq__ C [lkS C a b l, lkS C a b m] P E :=
  eq_in (by simpa [e] using h)
end
theorem cmp_permL {l m n : Lks} (p : l.Perm m) : (cmpL l n).Perm (cmpL m n) := p.flatMap_right _
theorem ccc {a b c d : Int} {l m n : Lks} (g : Good a b l) (k : Good b c m) (j : Good c d n) : srt (cmpL (cmpL l m) n) = srt (cmpL l (cmpL m n)) :=
  srt_eq (good_cmp (good_cmp g k) j) (good_cmp g (good_cmp k j)) fun x y => by
    simp only [mem_cmp]
    constructor
    · rintro ⟨z, ⟨w, h1, h2⟩, h3⟩
      exact ⟨w, h1, z, h2, h3⟩
    · rintro ⟨w, h1, z, h2, h3⟩
      exact ⟨z, ⟨w, h1, h2⟩, h3⟩
theorem flp_cmp {a b c : Int} {l m : Lks} (g : Good a b l) (k : Good b c m) : srt (flp (cmpL l m)) = srt (cmpL (flp m) (flp l)) :=
  srt_eq (good_flp (good_cmp g k)) (good_cmp (good_flp k) (good_flp g)) fun x y => by
    rw [mem_flp, mem_cmp, mem_cmp]
    constructor
    · rintro ⟨z, h1, h2⟩
      exact ⟨z, mem_flp.mpr h2, mem_flp.mpr h1⟩
    · rintro ⟨z, h1, h2⟩
      exact ⟨z, mem_flp.mp h2, mem_flp.mp h1⟩
theorem flp_flp {l : Lks} : flp (flp l) = l := by
  unfold flp
  rw [List.map_map]
  exact List.map_id l
theorem ids_l {a b : Int} {l : Lks} (g : Good a b l) : srt (cmpL (ids a) l) = srt l :=
  srt_eq (good_cmp good_ids g) g fun x y => by
    rw [mem_cmp]
    constructor
    · rintro ⟨z, h1, h2⟩
      exact (mem_ids.mp h1).1 ▸ h2
    · intro h
      exact ⟨x, mem_ids.mpr ⟨rfl, (g.bd _ h).1⟩, h⟩
theorem ids_r {a b : Int} {l : Lks} (g : Good a b l) : srt (cmpL l (ids b)) = srt l :=
  srt_eq (good_cmp g good_ids) g fun x y => by
    rw [mem_cmp]
    constructor
    · rintro ⟨z, h1, h2⟩
      exact (mem_ids.mp h2).1 ▸ h1
    · intro h
      exact ⟨y, h, mem_ids.mpr ⟨rfl, (g.bd _ h).2⟩⟩
def dia (l : Lks) : Lks := l.map fun p => (p.1, p.1)
theorem mem_dia {l : Lks} {x y : Int} : (x, y) ∈ dia l ↔ x = y ∧ ∃ z, (x, z) ∈ l := by
  unfold dia
  constructor
  · intro h
    obtain ⟨⟨u, v⟩, hu, e⟩ := List.mem_map.mp h
    cases e
    exact ⟨rfl, v, hu⟩
  · rintro ⟨rfl, z, h⟩
    exact List.mem_map.mpr ⟨_, h, rfl⟩
theorem good_dia {a b : Int} {l : Lks} (g : Good a b l) : Good a a (dia l) := by
  refine ⟨by unfold dia; rw [List.map_map]; exact g.n1, by unfold dia; rw [List.map_map]; exact g.n1, ?_⟩
  rintro ⟨x, y⟩ h
  obtain ⟨rfl, z, h⟩ := mem_dia.mp h
  exact ⟨(g.bd _ h).1, (g.bd _ h).1⟩
theorem cmp_flp {a b : Int} {l : Lks} (g : Good a b l) : srt (cmpL l (flp l)) = srt (dia l) :=
  srt_eq (good_cmp g (good_flp g)) (good_dia g) fun x y => by
    rw [mem_cmp, mem_dia]
    constructor
    · rintro ⟨z, h1, h2⟩
      exact ⟨nd_inj2 g.n2 h1 (mem_flp.mp h2), z, h1⟩
    · rintro ⟨rfl, z, h⟩
      exact ⟨z, h, mem_flp.mpr h⟩
theorem perm_of_srt {l m : Lks} (h : srt l = srt m) : l.Perm m := (srt_perm l).symm.trans (h ▸ srt_perm m)
/-! full lists -/
theorem sub_len {α : Type} [DecidableEq α] : ∀ {l m : List α}, l.Nodup → (∀ x ∈ l, x ∈ m) → l.length ≤ m.length
  | [], m, _, _ => Nat.zero_le _
  | x :: l, m, h, s => by
    have h' := List.nodup_cons.mp h
    have hx := s x List.mem_cons_self
    have := sub_len (l := l) (m := m.erase x) h'.2 fun y hy => (List.mem_erase_of_ne (by intro e; subst e; exact h'.1 hy)).mpr (s y (List.mem_cons_of_mem _ hy))
    rw [List.length_erase_of_mem hx] at this
    have : 0 < m.length := List.length_pos_of_mem hx
    rw [List.length_cons]
    omega
theorem full_mem {l : List Int} {a : Int} (ha : 0 ≤ a) (n : l.Nodup) (b : ∀ i ∈ l, 0 ≤ i ∧ i < a) (h : (l.length : Int) = a) {i : Int} (h0 : 0 ≤ i) (h1 : i < a) : i ∈ l := by
  refine Decidable.byContradiction fun hc => ?_
  have := sub_len (l := i :: l) (m := rg a) (List.nodup_cons.mpr ⟨hc, n⟩) fun x hx => by
    rcases List.mem_cons.mp hx with rfl | hx
    · exact mem_rg.mpr ⟨h0, h1⟩
    · exact mem_rg.mpr (b x hx)
  rw [len_rg, List.length_cons] at this
  omega
theorem full_1 {a b : Int} {l : Lks} (ha : 0 ≤ a) (g : Good a b l) (h : (l.length : Int) = a) {x : Int} (h0 : 0 ≤ x) (h1 : x < a) : ∃ y, (x, y) ∈ l := by
  have := full_mem ha g.n1 (fun i hi => by
    obtain ⟨p, hp, rfl⟩ := List.mem_map.mp hi
    exact (g.bd p hp).1) (by simpa using h) h0 h1
  obtain ⟨p, hp, rfl⟩ := List.mem_map.mp this
  exact ⟨p.2, hp⟩
theorem full_dia {a b : Int} {l : Lks} (ha : 0 ≤ a) (g : Good a b l) (h : (l.length : Int) = a) : srt (dia l) = srt (ids a) :=
  srt_eq (good_dia g) good_ids fun x y => by
    rw [mem_dia, mem_ids]
    constructor
    · rintro ⟨rfl, z, hz⟩
      exact ⟨rfl, (g.bd _ hz).1⟩
    · rintro ⟨rfl, h0, h1⟩
      exact ⟨rfl, full_1 ha g h h0 h1⟩
theorem dia_len {a b : Int} {l : Lks} (ha : 0 ≤ a) (g : Good a b l) : srt (dia l) = srt (ids a) ↔ (l.length : Int) = a := by
  refine ⟨fun e => ?_, full_dia ha g⟩
  have := (perm_of_srt e).length_eq
  rw [len_ids, dia, List.length_map] at this
  omega
theorem len_fst {a b : Int} {l : Lks} (g : Good a b l) : (l.length : Int) ≤ (a.toNat : Int) := by
  have := nd_len (a := a) g.n1 fun i hi => by
    obtain ⟨p, hp, rfl⟩ := List.mem_map.mp hi
    exact (g.bd p hp).1
  rw [List.length_map] at this
  omega
theorem full_cmp {s : Int} {l m : Lks} (hs : 0 ≤ s) (g : Good s s l) (k : Good s s m) (h1 : (l.length : Int) = s) (h2 : (m.length : Int) = s) : ((cmpL l m).length : Int) = s := by
  have gc := good_cmp g k
  have h3 : (l.map (·.1)).length ≤ ((cmpL l m).map (·.1)).length := sub_len g.n1 fun x hx => by
    obtain ⟨⟨x, y⟩, hp, rfl⟩ := List.mem_map.mp hx
    obtain ⟨z, hz⟩ := full_1 hs k h2 (g.bd _ hp).2.1 (g.bd _ hp).2.2
    exact List.mem_map.mpr ⟨(x, z), mem_cmp.mpr ⟨y, hp, hz⟩, rfl⟩
  have h4 := len_fst gc
  rw [List.length_map, List.length_map] at h3
  omega
theorem cmp_le2 {a b c : Int} {l m : Lks} (g : Good a b l) (k : Good b c m) : (cmpL l m).length ≤ m.length := by
  have := sub_len (l := (cmpL l m).map (·.2)) (m := m.map (·.2)) (good_cmp g k).n2 fun x hx => by
    obtain ⟨⟨x, y⟩, hp, rfl⟩ := List.mem_map.mp hx
    obtain ⟨z, _, hz⟩ := mem_cmp.mp hp
    exact List.mem_map.mpr ⟨_, hz, rfl⟩
  simpa using this
theorem full_flp {s : Int} {l : Lks} (hs : 0 ≤ s) (g : Good s s l) (h : (l.length : Int) = s) : srt (cmpL l (flp l)) = srt (ids s) := (cmp_flp g).trans (full_dia hs g h)
theorem full_flp2 {s : Int} {l : Lks} (hs : 0 ≤ s) (g : Good s s l) (h : (l.length : Int) = s) : srt (cmpL (flp l) l) = srt (ids s) := by
  have := full_flp hs (good_flp g) (by rw [len_flp]; exact h)
  rwa [flp_flp] at this
theorem full_back {s : Int} {l m : Lks} (hs : 0 ≤ s) (g : Good s s l) (k : Good s s m) (h : (m.length : Int) = s) : srt (cmpL (cmpL l m) (flp m)) = srt l := by
  rw [ccc g k (good_flp k), ← ids_r g, ← srt_cmp g good_ids, ← full_flp hs k h, srt_cmp g (good_cmp k (good_flp k))]
theorem good_tail {a b : Int} {l : Lks} (g : Good a b l) : Good a b l.tail :=
  ⟨by rw [List.map_tail]; exact g.n1.tail, by rw [List.map_tail]; exact g.n2.tail, fun p hp => g.bd p (List.mem_of_mem_tail hp)⟩
end Kb
namespace Kb
open PySem L2 Dx
theorem one_in {C : Addr} {xs : List D} {P : Ret → Prop} {E : D → Prop} (h1 : 1 ≤ xs.length ∧ xs.length ≤ 3000) (h : ∀ x ∈ xs, P (.val x)) : ph__law_one C [.lst xs] P E := ⟨_, xs, rfl, rfl, h1.1, h1.2, h⟩
theorem links_in {C : Addr} {a b m : Int} {P : Ret → Prop} {E : D → Prop} (ha : Sz a) (hb : Sz b) (m0 : 0 ≤ m) (h : ∀ ps : Lks, Good a b ps → ((ps.length : Int) = if m < (if b < a then b else a) then m else (if b < a then b else a)) → P (.own (.lst (ps.map prD)))) : ph__law_links C [.int a, .int b, .int m] P E := ⟨a, b, m, rfl, ha.lo, ha.hi, hb.lo, hb.hi, m0, h⟩
theorem le_size {n : Nat} (h : n ≤ 1000) : (n ≤ sizeLine) = True := eq_true (Nat.le_trans (by omega) size_ge)
theorem lt_size {n : Nat} (h : n ≤ 1000) : (n < sizeLine) = True := eq_true (Nat.lt_of_lt_of_le (by omega) size_ge)
theorem at40 {x y z w : D} : L2.atI [x, y, z, w] 0 = some x := rfl
theorem at41 {x y z w : D} : L2.atI [x, y, z, w] 1 = some y := rfl
theorem at42 {x y z w : D} : L2.atI [x, y, z, w] 2 = some z := rfl
theorem at43 {x y z w : D} : L2.atI [x, y, z, w] 3 = some w := rfl
theorem at30 {x y z : D} : L2.atI [x, y, z] 0 = some x := rfl
theorem at31 {x y z : D} : L2.atI [x, y, z] 1 = some y := rfl
theorem at32 {x y z : D} : L2.atI [x, y, z] 2 = some z := rfl
theorem oneM {C : Addr} {m : Int} {P : Ret → Prop} {E : D → Prop} (m0 : 0 ≤ m) (m1 : m ≤ 40) (h : ∀ r : Int, 0 ≤ r → r ≤ 40 → P (.val (.int r))) : ph__law_one C [.lst [.int 1, .int 2, .int m, .int m]] P E := by
  refine one_in ⟨Nat.le_add_left 1 3, Nat.le_of_ble_eq_true rfl⟩ fun x hx => ?_
  have hx : x = .int 1 ∨ x = .int 2 ∨ x = .int m ∨ x = .int m := by simpa using hx
  rcases hx with rfl | rfl | rfl | rfl
  · exact h _ (by decide) (by decide)
  · exact h _ (by decide) (by decide)
  · exact h _ m0 m1
  · exact h _ m0 m1
theorem ids_tu {x0 x1 x2 x3 x4 x5 x6 x7 x8 x9 x10 x11 x12 x13 x14 x15 x16 x17 x18 x19 : Slot} {P : List D → Prop} {s : Int} (hs : Sz s) (h : P ((ids s).map prD)) : dTurns (hName 16) dYes (dTup (dCons (dVar 16) (dCons (dVar 16) dNil))) [x0, x1, x2, x3, x4, x5, x6, x7, x8, x9, x10, x11, x12, x13, x14, x15, x16, x17, x18, x19] P (rangeD 0 s.toNat) [] := by
  rw [rg_range]
  have hlen : (rg s).length ≤ 40 := by
    have := hs.hi
    rw [len_rg]
    omega
  refine tu_of (fun ds acc => ∃ ms rs : List Int, acc = (ms.map fun i => (i, i)).map prD ∧ ds = rs.map .int ∧ ms ++ rs = rg s) ?_ ?_ ⟨[], rg s, rfl, rfl, rfl⟩
  · rintro acc ⟨ms, rs, rfl, hr, e⟩
    have : rs = [] := by cases rs with | nil => rfl | cons _ _ => cases hr
    subst this
    rw [List.append_nil] at e
    subst e
    exact h
  · rintro d r acc ⟨ms, rs, rfl, hr, e⟩ Q' hQ
    cases rs with
    | nil => cases hr
    | cons p rs =>
      cases hr
      simp [-List.map_map, dAsg, dOwn, dC, dVar, dOp, dUn, dCl, dClB, dOpB, dBs, dCons, dNil, dTup, dLst, dIf, dAnd, dOr, dNot, dAndV, dOrV, dNotV, dTest, dChain, dCond, dRet, dRetO, dRetN, dRetOwn, dNext, dDrop, dCall, dCallN, dCallB, dCallH, dCallHN, hName, hTup_tup, hLst_lst, hCons_cons, hNil_nil, dItems, dRange1, dRange2, dEnum, dAltI, dAppend, dPopAt, dPop, dSetIx, dPutK, dIxB, dListB, dSl, dPart, dNoPart, dDisp1, dFor, dComp, dYes, oAdd, oSub, oMod, oFdiv, oPow, oLt, oLe, oGt, oGe, oMul, oNeg, oI, oI0, oEq, oNe, oIn, oIs, oIx, oLen, oInt, oI1, oAbs, oI2, oDivmod, oList, oTuple, oUpper, oIsi, oIsi2, Sl.own, peek, isLst, lstOf, isDic, keysOf, valsOf, D.flat, D.isObj, D.ty, subTy, D.isN, dq_int, dq_bl, dq_bi, dq_ib, dq_str, dq_non, dq_lst, dq_tup, dq_nil, dq_cons, asLst, asTup, asStr, asSeq, Ret.d, endsD, Slot.hid, unsets, phDraw, plain_int, plain_bl, plain_non, List.getElem?_cons_zero, List.getElem?_cons_succ, List.set_cons_zero, List.set_cons_succ]
      rw [← e] at hlen
      simp at hlen
      exact ⟨Nat.le_trans (by decide) size_ge, Nat.lt_of_lt_of_le (by omega) size_ge, hQ _ ⟨ms ++ [p], rs, by simp [prD], rfl, by simpa using e⟩⟩
theorem full_ids {C : Addr} {s : Int} {P : Ret → Prop} {E : D → Prop} (hs : Sz s) (h : P (.val (.bl true))) : ph_Likeness_M_is_full C [lk C s s (srt (ids s))] P E := by
  refine full_in ?_
  have e : ((srt (ids s)).length : Int) = s := by
    have := hs.lo
    rw [len_srt, len_ids]
    omega
  rw [e]
  simpa using h
theorem dia_tu {x0 x1 x2 x3 x4 x5 x6 x7 x8 x9 x10 x11 x12 x13 x14 x15 x16 x17 x18 x19 : Slot} {P : List D → Prop} {l : Lks} (hlen : l.length ≤ 40) (h : P ((dia l).map prD)) : dTurns (hTup 2 (hCons (hName 17) (hCons (hName 18) hNil))) dYes (dTup (dCons (dVar 17) (dCons (dVar 17) dNil))) [x0, x1, x2, x3, x4, x5, x6, x7, x8, x9, x10, x11, x12, x13, x14, x15, x16, x17, x18, x19] P (l.map prD) [] := by
  refine tu_of (fun ds acc => ∃ ms rs : Lks, acc = (dia ms).map prD ∧ ds = rs.map prD ∧ ms ++ rs = l) ?_ ?_ ⟨[], l, rfl, rfl, rfl⟩
  · rintro acc ⟨ms, rs, rfl, hr, e⟩
    have : rs = [] := by cases rs with | nil => rfl | cons _ _ => cases hr
    subst this
    rw [List.append_nil] at e
    subst e
    exact h
  · rintro d r acc ⟨ms, rs, rfl, hr, e⟩ Q' hQ
    cases rs with
    | nil => cases hr
    | cons p rs =>
      cases hr
      simp only [prD]
      simp [-List.map_map, dAsg, dOwn, dC, dVar, dOp, dUn, dCl, dClB, dOpB, dBs, dCons, dNil, dTup, dLst, dIf, dAnd, dOr, dNot, dAndV, dOrV, dNotV, dTest, dChain, dCond, dRet, dRetO, dRetN, dRetOwn, dNext, dDrop, dCall, dCallN, dCallB, dCallH, dCallHN, hName, hTup_tup, hLst_lst, hCons_cons, hNil_nil, dItems, dRange1, dRange2, dEnum, dAltI, dAppend, dPopAt, dPop, dSetIx, dPutK, dIxB, dListB, dSl, dPart, dNoPart, dDisp1, dFor, dComp, dYes, oAdd, oSub, oMod, oFdiv, oPow, oLt, oLe, oGt, oGe, oMul, oNeg, oI, oI0, oEq, oNe, oIn, oIs, oIx, oLen, oInt, oI1, oAbs, oI2, oDivmod, oList, oTuple, oUpper, oIsi, oIsi2, Sl.own, peek, isLst, lstOf, isDic, keysOf, valsOf, D.flat, D.isObj, D.ty, subTy, D.isN, dq_int, dq_bl, dq_bi, dq_ib, dq_str, dq_non, dq_lst, dq_tup, dq_nil, dq_cons, asLst, asTup, asStr, asSeq, Ret.d, endsD, Slot.hid, unsets, phDraw, plain_int, plain_bl, plain_non, List.getElem?_cons_zero, List.getElem?_cons_succ, List.set_cons_zero, List.set_cons_succ]
      subst e
      simp at hlen
      have h5 : (dia ms).length = ms.length := List.length_map _
      exact ⟨Nat.le_trans (by decide) size_ge, Nat.lt_of_lt_of_le (by omega) size_ge, hQ _ ⟨ms ++ [p], rs, by simp [prD, dia], rfl, by simp⟩⟩
theorem full_t {C : Addr} {s : Int} {l : Lks} {P : Ret → Prop} {E : D → Prop} (e : (l.length : Int) = s) (h : P (.val (.bl true))) : ph_Likeness_M_is_full C [lkS C s s l] P E := by
  refine full_in ?_
  rw [len_srt, e]
  simpa using h
theorem full_f {C : Addr} {s : Int} {l : Lks} {P : Ret → Prop} {E : D → Prop} (e : ¬ (l.length : Int) = s) (h : P (.val (.bl false))) : ph_Likeness_M_is_full C [lkS C s s l] P E := by
  refine full_in ?_
  rw [len_srt]
  simpa [e] using h
theorem p_law (C : Addr) (ns : List Int) (l63 : ns.length ≤ 63) : dl_law C (endsD (fun r => r = .val (.bl true)) fun _ => False) (lawSl nm_law ns) := by
  have sz := size_ge
  unfold dl_law lawSl nm_law
  refine seq_step fun k1 hk1 => ?_
  simp [dAsg, dOwn, dC, dVar, dOp, dUn, dCl, dClB, dOpB, dBs, dCons, dNil, dTup, dLst, dIf, dAnd, dOr, dNot, dAndV, dOrV, dNotV, dTest, dChain, dCond, dRet, dRetO, dRetN, dRetOwn, dNext, dDrop, dCall, dCallN, dCallB, dCallH, dCallHN, hName, hTup_tup, hLst_lst, hCons_cons, hNil_nil, dItems, dRange1, dRange2, dEnum, dAltI, dAppend, dPopAt, dPop, dSetIx, dPutK, dIxB, dListB, dSl, dPart, dNoPart, dDisp1, dFor, dComp, dYes, oAdd, oSub, oMod, oFdiv, oPow, oLt, oLe, oGt, oGe, oMul, oNeg, oI, oI0, oEq, oNe, oIn, oIs, oIx, oLen, oInt, oI1, oAbs, oI2, oDivmod, oList, oTuple, oUpper, oIsi, oIsi2, Sl.own, peek, isLst, lstOf, isDic, keysOf, valsOf, D.flat, D.isObj, D.ty, subTy, D.isN, dq_int, dq_bl, dq_bi, dq_ib, dq_str, dq_non, dq_lst, dq_tup, dq_nil, dq_cons, asLst, asTup, asStr, asSeq, Ret.d, endsD, Slot.hid, unsets, phDraw, plain_int, plain_bl, plain_non, List.getElem?_cons_zero, List.getElem?_cons_succ, List.set_cons_zero, List.set_cons_succ]
  suffices q : ∀ m : Int, 0 ≤ m → m ≤ 40 → k1 [.val (.scr ns), .hand, .val (.int m), .un, .un, .un, .un, .un, .un, .un, .un, .un, .un, .un, .un, .un, .un, .un, .un, .un] by
    refine ⟨Nat.le_trans (by decide) size_ge, ?_⟩
    refine one_in (xs := [.int 2, .int 5, .int 5, .int 40]) ⟨Nat.le_add_left 1 3, Nat.le_of_ble_eq_true rfl⟩ fun x hx => ?_
    have hx : x = .int 2 ∨ x = .int 5 ∨ x = .int 5 ∨ x = .int 40 := by simpa using hx
    rcases hx with rfl | rfl | rfl | rfl <;> exact q _ (by decide) (by decide)
  intro m m0 m1
  refine hk1 _ ?_
  clear hk1 k1
  refine seq_step fun k1 hk1 => ?_
  simp [dAsg, dOwn, dC, dVar, dOp, dUn, dCl, dClB, dOpB, dBs, dCons, dNil, dTup, dLst, dIf, dAnd, dOr, dNot, dAndV, dOrV, dNotV, dTest, dChain, dCond, dRet, dRetO, dRetN, dRetOwn, dNext, dDrop, dCall, dCallN, dCallB, dCallH, dCallHN, hName, hTup_tup, hLst_lst, hCons_cons, hNil_nil, dItems, dRange1, dRange2, dEnum, dAltI, dAppend, dPopAt, dPop, dSetIx, dPutK, dIxB, dListB, dSl, dPart, dNoPart, dDisp1, dFor, dComp, dYes, oAdd, oSub, oMod, oFdiv, oPow, oLt, oLe, oGt, oGe, oMul, oNeg, oI, oI0, oEq, oNe, oIn, oIs, oIx, oLen, oInt, oI1, oAbs, oI2, oDivmod, oList, oTuple, oUpper, oIsi, oIsi2, Sl.own, peek, isLst, lstOf, isDic, keysOf, valsOf, D.flat, D.isObj, D.ty, subTy, D.isN, dq_int, dq_bl, dq_bi, dq_ib, dq_str, dq_non, dq_lst, dq_tup, dq_nil, dq_cons, asLst, asTup, asStr, asSeq, Ret.d, endsD, Slot.hid, unsets, phDraw, plain_int, plain_bl, plain_non, List.getElem?_cons_zero, List.getElem?_cons_succ, List.set_cons_zero, List.set_cons_succ]
  rw [show rangeD 0 4 = [D.int 0, .int 1, .int 2, .int 3] from rfl]
  simp [dTurns, dAsg, dOwn, dC, dVar, dOp, dUn, dCl, dClB, dOpB, dBs, dCons, dNil, dTup, dLst, dIf, dAnd, dOr, dNot, dAndV, dOrV, dNotV, dTest, dChain, dCond, dRet, dRetO, dRetN, dRetOwn, dNext, dDrop, dCall, dCallN, dCallB, dCallH, dCallHN, hName, hTup_tup, hLst_lst, hCons_cons, hNil_nil, dItems, dRange1, dRange2, dEnum, dAltI, dAppend, dPopAt, dPop, dSetIx, dPutK, dIxB, dListB, dSl, dPart, dNoPart, dDisp1, dFor, dComp, dYes, oAdd, oSub, oMod, oFdiv, oPow, oLt, oLe, oGt, oGe, oMul, oNeg, oI, oI0, oEq, oNe, oIn, oIs, oIx, oLen, oInt, oI1, oAbs, oI2, oDivmod, oList, oTuple, oUpper, oIsi, oIsi2, Sl.own, peek, isLst, lstOf, isDic, keysOf, valsOf, D.flat, D.isObj, D.ty, subTy, D.isN, dq_int, dq_bl, dq_bi, dq_ib, dq_str, dq_non, dq_lst, dq_tup, dq_nil, dq_cons, asLst, asTup, asStr, asSeq, Ret.d, endsD, Slot.hid, unsets, phDraw, plain_int, plain_bl, plain_non, List.getElem?_cons_zero, List.getElem?_cons_succ, List.set_cons_zero, List.set_cons_succ]
  suffices q : ∀ s0 s1 s2 s3 : Int, Sz s0 → Sz s1 → Sz s2 → Sz s3 → k1 [.val (.scr ns), .hand, .val (.int m), .val (.lst [.int s0, .int s1, .int s2, .int s3]), .un, .un, .un, .un, .un, .un, .un, .un, .un, .un, .un, .un, .un, .un, .un, .un] by
    have lg : (m + 1).natAbs.log2 < 4000 := log_small (by omega)
    exact ⟨by omega, lg, fun r0 a0 b0 => ⟨by omega, by omega, lg, fun r1 a1 b1 => ⟨by omega, by omega, lg, fun r2 a2 b2 => ⟨by omega, by omega, lg, fun r3 a3 b3 => ⟨by omega, q r0 r1 r2 r3 ⟨a0, by omega⟩ ⟨a1, by omega⟩ ⟨a2, by omega⟩ ⟨a3, by omega⟩⟩⟩⟩⟩⟩
  intro s0 s1 s2 s3 z0 z1 z2 z3
  refine hk1 _ ?_
  clear hk1 k1
  refine seq_step fun k1 hk1 => ?_
  simp [dAsg, dOwn, dC, dVar, dOp, dUn, dCl, dClB, dOpB, dBs, dCons, dNil, dTup, dLst, dIf, dAnd, dOr, dNot, dAndV, dOrV, dNotV, dTest, dChain, dCond, dRet, dRetO, dRetN, dRetOwn, dNext, dDrop, dCall, dCallN, dCallB, dCallH, dCallHN, hName, hTup_tup, hLst_lst, hCons_cons, hNil_nil, dItems, dRange1, dRange2, dEnum, dAltI, dAppend, dPopAt, dPop, dSetIx, dPutK, dIxB, dListB, dSl, dPart, dNoPart, dDisp1, dFor, dComp, dYes, oAdd, oSub, oMod, oFdiv, oPow, oLt, oLe, oGt, oGe, oMul, oNeg, oI, oI0, oEq, oNe, oIn, oIs, oIx, oLen, oInt, oI1, oAbs, oI2, oDivmod, oList, oTuple, oUpper, oIsi, oIsi2, Sl.own, peek, isLst, lstOf, isDic, keysOf, valsOf, D.flat, D.isObj, D.ty, subTy, D.isN, dq_int, dq_bl, dq_bi, dq_ib, dq_str, dq_non, dq_lst, dq_tup, dq_nil, dq_cons, asLst, asTup, asStr, asSeq, Ret.d, endsD, Slot.hid, unsets, phDraw, plain_int, plain_bl, plain_non, List.getElem?_cons_zero, List.getElem?_cons_succ, List.set_cons_zero, List.set_cons_succ]
  rw [show rangeD 0 3 = [D.int 0, .int 1, .int 2] from rfl]
  simp [dTurns, at40, at41, at42, at43, le_size, lt_size, dAsg, dOwn, dC, dVar, dOp, dUn, dCl, dClB, dOpB, dBs, dCons, dNil, dTup, dLst, dIf, dAnd, dOr, dNot, dAndV, dOrV, dNotV, dTest, dChain, dCond, dRet, dRetO, dRetN, dRetOwn, dNext, dDrop, dCall, dCallN, dCallB, dCallH, dCallHN, hName, hTup_tup, hLst_lst, hCons_cons, hNil_nil, dItems, dRange1, dRange2, dEnum, dAltI, dAppend, dPopAt, dPop, dSetIx, dPutK, dIxB, dListB, dSl, dPart, dNoPart, dDisp1, dFor, dComp, dYes, oAdd, oSub, oMod, oFdiv, oPow, oLt, oLe, oGt, oGe, oMul, oNeg, oI, oI0, oEq, oNe, oIn, oIs, oIx, oLen, oInt, oI1, oAbs, oI2, oDivmod, oList, oTuple, oUpper, oIsi, oIsi2, Sl.own, peek, isLst, lstOf, isDic, keysOf, valsOf, D.flat, D.isObj, D.ty, subTy, D.isN, dq_int, dq_bl, dq_bi, dq_ib, dq_str, dq_non, dq_lst, dq_tup, dq_nil, dq_cons, asLst, asTup, asStr, asSeq, Ret.d, endsD, Slot.hid, unsets, phDraw, plain_int, plain_bl, plain_non, List.getElem?_cons_zero, List.getElem?_cons_succ, List.set_cons_zero, List.set_cons_succ]
  suffices q : ∀ l0 l1 l2 : Lks, Good s0 s1 l0 → Good s1 s2 l1 → Good s2 s3 l2 → k1 [.val (.scr ns), .hand, .val (.int m), .val (.lst [.int s0, .int s1, .int s2, .int s3]), .val (.lst [.lst (l0.map prD), .lst (l1.map prD), .lst (l2.map prD)]), .un, .un, .un, .un, .un, .un, .un, .un, .un, .un, .un, .un, .un, .un, .un] by
    refine oneM m0 m1 fun r a0 a1 => links_in z0 z1 a0 fun l0 g0 _ => oneM m0 m1 fun r' b0 b1 => links_in z1 z2 b0 fun l1 g1 _ => oneM m0 m1 fun r'' c0 c1 => links_in z2 z3 c0 fun l2 g2 _ => q l0 l1 l2 g0 g1 g2
  intro l0 l1 l2 g0 g1 g2
  have n0 := good_len g0 z0.hi
  have n1 := good_len g1 z1.hi
  have n2 := good_len g2 z2.hi
  refine hk1 _ ?_
  clear hk1 k1
  refine seq_step fun k1 hk1 => ?_
  simp [dAsg, dOwn, dC, dVar, dOp, dUn, dCl, dClB, dOpB, dBs, dCons, dNil, dTup, dLst, dIf, dAnd, dOr, dNot, dAndV, dOrV, dNotV, dTest, dChain, dCond, dRet, dRetO, dRetN, dRetOwn, dNext, dDrop, dCall, dCallN, dCallB, dCallH, dCallHN, hName, hTup_tup, hLst_lst, hCons_cons, hNil_nil, dItems, dRange1, dRange2, dEnum, dAltI, dAppend, dPopAt, dPop, dSetIx, dPutK, dIxB, dListB, dSl, dPart, dNoPart, dDisp1, dFor, dComp, dYes, oAdd, oSub, oMod, oFdiv, oPow, oLt, oLe, oGt, oGe, oMul, oNeg, oI, oI0, oEq, oNe, oIn, oIs, oIx, oLen, oInt, oI1, oAbs, oI2, oDivmod, oList, oTuple, oUpper, oIsi, oIsi2, Sl.own, peek, isLst, lstOf, isDic, keysOf, valsOf, D.flat, D.isObj, D.ty, subTy, D.isN, dq_int, dq_bl, dq_bi, dq_ib, dq_str, dq_non, dq_lst, dq_tup, dq_nil, dq_cons, asLst, asTup, asStr, asSeq, Ret.d, endsD, Slot.hid, unsets, phDraw, plain_int, plain_bl, plain_non, List.getElem?_cons_zero, List.getElem?_cons_succ, List.set_cons_zero, List.set_cons_succ]
  rw [show rangeD 0 3 = [D.int 0, .int 1, .int 2] from rfl]
  simp [dTurns, at40, at41, at42, at43, at30, at31, at32, le_size, lt_size, dMake, dAsg, dOwn, dC, dVar, dOp, dUn, dCl, dClB, dOpB, dBs, dCons, dNil, dTup, dLst, dIf, dAnd, dOr, dNot, dAndV, dOrV, dNotV, dTest, dChain, dCond, dRet, dRetO, dRetN, dRetOwn, dNext, dDrop, dCall, dCallN, dCallB, dCallH, dCallHN, hName, hTup_tup, hLst_lst, hCons_cons, hNil_nil, dItems, dRange1, dRange2, dEnum, dAltI, dAppend, dPopAt, dPop, dSetIx, dPutK, dIxB, dListB, dSl, dPart, dNoPart, dDisp1, dFor, dComp, dYes, oAdd, oSub, oMod, oFdiv, oPow, oLt, oLe, oGt, oGe, oMul, oNeg, oI, oI0, oEq, oNe, oIn, oIs, oIx, oLen, oInt, oI1, oAbs, oI2, oDivmod, oList, oTuple, oUpper, oIsi, oIsi2, Sl.own, peek, isLst, lstOf, isDic, keysOf, valsOf, D.flat, D.isObj, D.ty, subTy, D.isN, dq_int, dq_bl, dq_bi, dq_ib, dq_str, dq_non, dq_lst, dq_tup, dq_nil, dq_cons, asLst, asTup, asStr, asSeq, Ret.d, endsD, Slot.hid, unsets, phDraw, plain_int, plain_bl, plain_non, List.getElem?_cons_zero, List.getElem?_cons_succ, List.set_cons_zero, List.set_cons_succ]
  refine make_in z0 z1 rfl g0 (make_in z1 z2 rfl g1 (make_in z2 z3 rfl g2 ?_))
  refine hk1 _ ?_
  clear hk1 k1
  refine seq_step fun k1 hk1 => ?_
  simp [dFld, lk_links, dAsg, dOwn, dC, dVar, dOp, dUn, dCl, dClB, dOpB, dBs, dCons, dNil, dTup, dLst, dIf, dAnd, dOr, dNot, dAndV, dOrV, dNotV, dTest, dChain, dCond, dRet, dRetO, dRetN, dRetOwn, dNext, dDrop, dCall, dCallN, dCallB, dCallH, dCallHN, hName, hTup_tup, hLst_lst, hCons_cons, hNil_nil, dItems, dRange1, dRange2, dEnum, dAltI, dAppend, dPopAt, dPop, dSetIx, dPutK, dIxB, dListB, dSl, dPart, dNoPart, dDisp1, dFor, dComp, dYes, oAdd, oSub, oMod, oFdiv, oPow, oLt, oLe, oGt, oGe, oMul, oNeg, oI, oI0, oEq, oNe, oIn, oIs, oIx, oLen, oInt, oI1, oAbs, oI2, oDivmod, oList, oTuple, oUpper, oIsi, oIsi2, Sl.own, peek, isLst, lstOf, isDic, keysOf, valsOf, D.flat, D.isObj, D.ty, subTy, D.isN, dq_int, dq_bl, dq_bi, dq_ib, dq_str, dq_non, dq_lst, dq_tup, dq_nil, dq_cons, asLst, asTup, asStr, asSeq, Ret.d, endsD, Slot.hid, unsets, phDraw, plain_int, plain_bl, plain_non, List.getElem?_cons_zero, List.getElem?_cons_succ, List.set_cons_zero, List.set_cons_succ]
  refine repr_in (good_bd z0 z1 (good_srt g0)) (by rw [len_srt]; exact n0) fun w0 => repr_in (good_bd z1 z2 (good_srt g1)) (by rw [len_srt]; exact n1) fun w1 => ?_
  refine ⟨Nat.le_trans (by omega) size_ge, ?_⟩
  refine repr_in (good_bd z2 z3 (good_srt g2)) (by rw [len_srt]; exact n2) fun w2 => ?_
  refine ⟨Nat.le_trans (by rw [PySem.strLen_append]; omega) size_ge, ?_⟩
  generalize hK : shw (srt l0) ++ shw (srt l1) ++ shw (srt l2) = kept
  refine hk1 _ ?_
  clear hk1 k1
  refine seq_step fun k1 hk1 => ?_
  simp [dMeth, dPar, lk_then, dAsg, dOwn, dC, dVar, dOp, dUn, dCl, dClB, dOpB, dBs, dCons, dNil, dTup, dLst, dIf, dAnd, dOr, dNot, dAndV, dOrV, dNotV, dTest, dChain, dCond, dRet, dRetO, dRetN, dRetOwn, dNext, dDrop, dCall, dCallN, dCallB, dCallH, dCallHN, hName, hTup_tup, hLst_lst, hCons_cons, hNil_nil, dItems, dRange1, dRange2, dEnum, dAltI, dAppend, dPopAt, dPop, dSetIx, dPutK, dIxB, dListB, dSl, dPart, dNoPart, dDisp1, dFor, dComp, dYes, oAdd, oSub, oMod, oFdiv, oPow, oLt, oLe, oGt, oGe, oMul, oNeg, oI, oI0, oEq, oNe, oIn, oIs, oIx, oLen, oInt, oI1, oAbs, oI2, oDivmod, oList, oTuple, oUpper, oIsi, oIsi2, Sl.own, peek, isLst, lstOf, isDic, keysOf, valsOf, D.flat, D.isObj, D.ty, subTy, D.isN, dq_int, dq_bl, dq_bi, dq_ib, dq_str, dq_non, dq_lst, dq_tup, dq_nil, dq_cons, asLst, asTup, asStr, asSeq, Ret.d, endsD, Slot.hid, unsets, phDraw, plain_int, plain_bl, plain_non, List.getElem?_cons_zero, List.getElem?_cons_succ, List.set_cons_zero, List.set_cons_succ]
  refine then2 z0 z1 z2 g0 g1 (then2 z1 z2 z3 g1 g2 ⟨_, _, ⟨rfl, rfl⟩, ?_⟩)
  refine hk1 _ ?_
  clear hk1 k1
  have g01 := good_cmp g0 g1
  have g12 := good_cmp g1 g2
  refine seq_step fun k1 hk1 => ?_
  simp [at40, at41, at42, at43, at30, at31, at32, dAsg, dOwn, dC, dVar, dOp, dUn, dCl, dClB, dOpB, dBs, dCons, dNil, dTup, dLst, dIf, dAnd, dOr, dNot, dAndV, dOrV, dNotV, dTest, dChain, dCond, dRet, dRetO, dRetN, dRetOwn, dNext, dDrop, dCall, dCallN, dCallB, dCallH, dCallHN, hName, hTup_tup, hLst_lst, hCons_cons, hNil_nil, dItems, dRange1, dRange2, dEnum, dAltI, dAppend, dPopAt, dPop, dSetIx, dPutK, dIxB, dListB, dSl, dPart, dNoPart, dDisp1, dFor, dComp, dYes, oAdd, oSub, oMod, oFdiv, oPow, oLt, oLe, oGt, oGe, oMul, oNeg, oI, oI0, oEq, oNe, oIn, oIs, oIx, oLen, oInt, oI1, oAbs, oI2, oDivmod, oList, oTuple, oUpper, oIsi, oIsi2, Sl.own, peek, isLst, lstOf, isDic, keysOf, valsOf, D.flat, D.isObj, D.ty, subTy, D.isN, dq_int, dq_bl, dq_bi, dq_ib, dq_str, dq_non, dq_lst, dq_tup, dq_nil, dq_cons, asLst, asTup, asStr, asSeq, Ret.d, endsD, Slot.hid, unsets, phDraw, plain_int, plain_bl, plain_non, List.getElem?_cons_zero, List.getElem?_cons_succ, List.set_cons_zero, List.set_cons_succ]
  refine chain_in n0 n1 (told2 (srt_perm _) ⟨rfl, hk1 _ ?_⟩)
  clear hk1 k1
  refine seq_step fun k1 hk1 => ?_
  simp [at40, at41, at42, at43, at30, at31, at32, dAsg, dOwn, dC, dVar, dOp, dUn, dCl, dClB, dOpB, dBs, dCons, dNil, dTup, dLst, dIf, dAnd, dOr, dNot, dAndV, dOrV, dNotV, dTest, dChain, dCond, dRet, dRetO, dRetN, dRetOwn, dNext, dDrop, dCall, dCallN, dCallB, dCallH, dCallHN, hName, hTup_tup, hLst_lst, hCons_cons, hNil_nil, dItems, dRange1, dRange2, dEnum, dAltI, dAppend, dPopAt, dPop, dSetIx, dPutK, dIxB, dListB, dSl, dPart, dNoPart, dDisp1, dFor, dComp, dYes, oAdd, oSub, oMod, oFdiv, oPow, oLt, oLe, oGt, oGe, oMul, oNeg, oI, oI0, oEq, oNe, oIn, oIs, oIx, oLen, oInt, oI1, oAbs, oI2, oDivmod, oList, oTuple, oUpper, oIsi, oIsi2, Sl.own, peek, isLst, lstOf, isDic, keysOf, valsOf, D.flat, D.isObj, D.ty, subTy, D.isN, dq_int, dq_bl, dq_bi, dq_ib, dq_str, dq_non, dq_lst, dq_tup, dq_nil, dq_cons, asLst, asTup, asStr, asSeq, Ret.d, endsD, Slot.hid, unsets, phDraw, plain_int, plain_bl, plain_non, List.getElem?_cons_zero, List.getElem?_cons_succ, List.set_cons_zero, List.set_cons_succ]
  refine chain_in n1 n2 (told2 (srt_perm _) ⟨rfl, hk1 _ ?_⟩)
  clear hk1 k1
  refine seq_step fun k1 hk1 => ?_
  simp [at40, at41, at42, at43, at30, at31, at32, dMeth, lk_then, oOwn, lk_isC, dAsg, dOwn, dC, dVar, dOp, dUn, dCl, dClB, dOpB, dBs, dCons, dNil, dTup, dLst, dIf, dAnd, dOr, dNot, dAndV, dOrV, dNotV, dTest, dChain, dCond, dRet, dRetO, dRetN, dRetOwn, dNext, dDrop, dCall, dCallN, dCallB, dCallH, dCallHN, hName, hTup_tup, hLst_lst, hCons_cons, hNil_nil, dItems, dRange1, dRange2, dEnum, dAltI, dAppend, dPopAt, dPop, dSetIx, dPutK, dIxB, dListB, dSl, dPart, dNoPart, dDisp1, dFor, dComp, dYes, oAdd, oSub, oMod, oFdiv, oPow, oLt, oLe, oGt, oGe, oMul, oNeg, oI, oI0, oEq, oNe, oIn, oIs, oIx, oLen, oInt, oI1, oAbs, oI2, oDivmod, oList, oTuple, oUpper, oIsi, oIsi2, Sl.own, peek, isLst, lstOf, isDic, keysOf, valsOf, D.flat, D.isObj, D.ty, subTy, D.isN, dq_int, dq_bl, dq_bi, dq_ib, dq_str, dq_non, dq_lst, dq_tup, dq_nil, dq_cons, asLst, asTup, asStr, asSeq, Ret.d, endsD, Slot.hid, unsets, phDraw, plain_int, plain_bl, plain_non, List.getElem?_cons_zero, List.getElem?_cons_succ, List.set_cons_zero, List.set_cons_succ]
  refine then2 z0 z2 z3 g01 g2 (then2 z0 z1 z3 g0 g12 ⟨lk_isC, lk_isC, eq2 (ccc g0 g1 g2) ⟨rfl, then2 z0 z2 z3 g01 g2 (chain_in n0 n1 (chain_in (by rw [len_srt]; exact good_len g01 z0.hi) n2 (told2 ((srt_perm _).trans (cmp_permL (srt_perm _))) ⟨rfl, hk1 _ ?_⟩)))⟩⟩)
  clear hk1 k1
  refine seq_step fun k1 hk1 => ?_
  simp [dMeth, lk_then, lk_flipped, oOwn, lk_isC, dAsg, dOwn, dC, dVar, dOp, dUn, dCl, dClB, dOpB, dBs, dCons, dNil, dTup, dLst, dIf, dAnd, dOr, dNot, dAndV, dOrV, dNotV, dTest, dChain, dCond, dRet, dRetO, dRetN, dRetOwn, dNext, dDrop, dCall, dCallN, dCallB, dCallH, dCallHN, hName, hTup_tup, hLst_lst, hCons_cons, hNil_nil, dItems, dRange1, dRange2, dEnum, dAltI, dAppend, dPopAt, dPop, dSetIx, dPutK, dIxB, dListB, dSl, dPart, dNoPart, dDisp1, dFor, dComp, dYes, oAdd, oSub, oMod, oFdiv, oPow, oLt, oLe, oGt, oGe, oMul, oNeg, oI, oI0, oEq, oNe, oIn, oIs, oIx, oLen, oInt, oI1, oAbs, oI2, oDivmod, oList, oTuple, oUpper, oIsi, oIsi2, Sl.own, peek, isLst, lstOf, isDic, keysOf, valsOf, D.flat, D.isObj, D.ty, subTy, D.isN, dq_int, dq_bl, dq_bi, dq_ib, dq_str, dq_non, dq_lst, dq_tup, dq_nil, dq_cons, asLst, asTup, asStr, asSeq, Ret.d, endsD, Slot.hid, unsets, phDraw, plain_int, plain_bl, plain_non, List.getElem?_cons_zero, List.getElem?_cons_succ, List.set_cons_zero, List.set_cons_succ]
  refine flip2 z0 z2 g01 (flip2 z1 z2 g1 ⟨lk_then, flip2 z0 z1 g0 (then2 z2 z1 z0 (good_flp g1) (good_flp g0) ⟨lk_isC, lk_isC, eq2 (flp_cmp g0 g1) ⟨rfl, flip2 z0 z2 g01 ⟨lk_flipped, flip2 z2 z0 (good_flp g01) ⟨lk_isC, eq2 (by rw [flp_flp]) ⟨rfl, hk1 _ ?_⟩⟩⟩⟩⟩)⟩)
  clear hk1 k1
  refine seq_step fun k1 hk1 => ?_
  simp [dTurns, dMake, le_size, lt_size, dAsg, dOwn, dC, dVar, dOp, dUn, dCl, dClB, dOpB, dBs, dCons, dNil, dTup, dLst, dIf, dAnd, dOr, dNot, dAndV, dOrV, dNotV, dTest, dChain, dCond, dRet, dRetO, dRetN, dRetOwn, dNext, dDrop, dCall, dCallN, dCallB, dCallH, dCallHN, hName, hTup_tup, hLst_lst, hCons_cons, hNil_nil, dItems, dRange1, dRange2, dEnum, dAltI, dAppend, dPopAt, dPop, dSetIx, dPutK, dIxB, dListB, dSl, dPart, dNoPart, dDisp1, dFor, dComp, dYes, oAdd, oSub, oMod, oFdiv, oPow, oLt, oLe, oGt, oGe, oMul, oNeg, oI, oI0, oEq, oNe, oIn, oIs, oIx, oLen, oInt, oI1, oAbs, oI2, oDivmod, oList, oTuple, oUpper, oIsi, oIsi2, Sl.own, peek, isLst, lstOf, isDic, keysOf, valsOf, D.flat, D.isObj, D.ty, subTy, D.isN, dq_int, dq_bl, dq_bi, dq_ib, dq_str, dq_non, dq_lst, dq_tup, dq_nil, dq_cons, asLst, asTup, asStr, asSeq, Ret.d, endsD, Slot.hid, unsets, phDraw, plain_int, plain_bl, plain_non, List.getElem?_cons_zero, List.getElem?_cons_succ, List.set_cons_zero, List.set_cons_succ]
  have i0 := z0.lo
  have j0 := z0.hi
  have i1 := z1.lo
  have j1 := z1.hi
  have i2 := z2.lo
  have j2 := z2.hi
  have i3 := z3.lo
  have j3 := z3.hi
  refine ⟨by omega, by omega, ids_tu z0 (make_in z0 z0 rfl good_ids ⟨by omega, by omega, ids_tu z1 (make_in z1 z1 rfl good_ids ⟨by omega, by omega, ids_tu z2 (make_in z2 z2 rfl good_ids ⟨by omega, by omega, ids_tu z3 (make_in z3 z3 rfl good_ids (hk1 _ ?_))⟩)⟩)⟩)⟩
  clear hk1 k1
  refine seq_step fun k1 hk1 => ?_
  simp [at40, at41, at42, at43, dMeth, lk_then, lk_flipped, oOwn, lk_isC, dProp, oAll, dTurns, dAsg, dOwn, dC, dVar, dOp, dUn, dCl, dClB, dOpB, dBs, dCons, dNil, dTup, dLst, dIf, dAnd, dOr, dNot, dAndV, dOrV, dNotV, dTest, dChain, dCond, dRet, dRetO, dRetN, dRetOwn, dNext, dDrop, dCall, dCallN, dCallB, dCallH, dCallHN, hName, hTup_tup, hLst_lst, hCons_cons, hNil_nil, dItems, dRange1, dRange2, dEnum, dAltI, dAppend, dPopAt, dPop, dSetIx, dPutK, dIxB, dListB, dSl, dPart, dNoPart, dDisp1, dFor, dComp, dYes, oAdd, oSub, oMod, oFdiv, oPow, oLt, oLe, oGt, oGe, oMul, oNeg, oI, oI0, oEq, oNe, oIn, oIs, oIx, oLen, oInt, oI1, oAbs, oI2, oDivmod, oList, oTuple, oUpper, oIsi, oIsi2, Sl.own, peek, isLst, lstOf, isDic, keysOf, valsOf, D.flat, D.isObj, D.ty, subTy, D.isN, dq_int, dq_bl, dq_bi, dq_ib, dq_str, dq_non, dq_lst, dq_tup, dq_nil, dq_cons, asLst, asTup, asStr, asSeq, Ret.d, endsD, Slot.hid, unsets, phDraw, plain_int, plain_bl, plain_non, List.getElem?_cons_zero, List.getElem?_cons_succ, List.set_cons_zero, List.set_cons_succ]
  have t0 : ∀ n : Nat, n ≤ 1000 → n < sizeLine := fun n h => Nat.lt_of_lt_of_le (by omega) size_ge
  refine then2 z0 z0 z1 good_ids g0 ⟨lk_isC, eq2 (ids_l g0) ⟨rfl, then2 z0 z1 z1 g0 good_ids ⟨lk_isC, eq2 (ids_r g0) ⟨rfl, ?_⟩⟩⟩⟩
  refine full_ids z0 (.inr ⟨rfl, t0 _ (by decide), full_ids z1 (.inr ⟨rfl, t0 _ (by decide), full_ids z2 (.inr ⟨rfl, t0 _ (by decide), full_ids z3 (.inr ⟨rfl, t0 _ (by decide), [true, true, true, true], rfl, by simp, hk1 _ ?_⟩)⟩)⟩)⟩)
  clear hk1 k1
  refine seq_step fun k1 hk1 => ?_
  simp [dMeth, lk_then, lk_flipped, dAsg, dOwn, dC, dVar, dOp, dUn, dCl, dClB, dOpB, dBs, dCons, dNil, dTup, dLst, dIf, dAnd, dOr, dNot, dAndV, dOrV, dNotV, dTest, dChain, dCond, dRet, dRetO, dRetN, dRetOwn, dNext, dDrop, dCall, dCallN, dCallB, dCallH, dCallHN, hName, hTup_tup, hLst_lst, hCons_cons, hNil_nil, dItems, dRange1, dRange2, dEnum, dAltI, dAppend, dPopAt, dPop, dSetIx, dPutK, dIxB, dListB, dSl, dPart, dNoPart, dDisp1, dFor, dComp, dYes, oAdd, oSub, oMod, oFdiv, oPow, oLt, oLe, oGt, oGe, oMul, oNeg, oI, oI0, oEq, oNe, oIn, oIs, oIx, oLen, oInt, oI1, oAbs, oI2, oDivmod, oList, oTuple, oUpper, oIsi, oIsi2, Sl.own, peek, isLst, lstOf, isDic, keysOf, valsOf, D.flat, D.isObj, D.ty, subTy, D.isN, dq_int, dq_bl, dq_bi, dq_ib, dq_str, dq_non, dq_lst, dq_tup, dq_nil, dq_cons, asLst, asTup, asStr, asSeq, Ret.d, endsD, Slot.hid, unsets, phDraw, plain_int, plain_bl, plain_non, List.getElem?_cons_zero, List.getElem?_cons_succ, List.set_cons_zero, List.set_cons_succ]
  refine flip2 z0 z1 g0 (then2 z0 z1 z0 g0 (good_flp g0) (hk1 _ ?_))
  clear hk1 k1
  refine seq_step fun k1 hk1 => ?_
  simp [at40, at41, at42, at43, at30, at31, at32, dMeth, lk_then, lk_flipped, oOwn, lk_isC, dProp, oAll, dAsg, dOwn, dC, dVar, dOp, dUn, dCl, dClB, dOpB, dBs, dCons, dNil, dTup, dLst, dIf, dAnd, dOr, dNot, dAndV, dOrV, dNotV, dTest, dChain, dCond, dRet, dRetO, dRetN, dRetOwn, dNext, dDrop, dCall, dCallN, dCallB, dCallH, dCallHN, hName, hTup_tup, hLst_lst, hCons_cons, hNil_nil, dItems, dRange1, dRange2, dEnum, dAltI, dAppend, dPopAt, dPop, dSetIx, dPutK, dIxB, dListB, dSl, dPart, dNoPart, dDisp1, dFor, dComp, dYes, oAdd, oSub, oMod, oFdiv, oPow, oLt, oLe, oGt, oGe, oMul, oNeg, oI, oI0, oEq, oNe, oIn, oIs, oIx, oLen, oInt, oI1, oAbs, oI2, oDivmod, oList, oTuple, oUpper, oIsi, oIsi2, Sl.own, peek, isLst, lstOf, isDic, keysOf, valsOf, D.flat, D.isObj, D.ty, subTy, D.isN, dq_int, dq_bl, dq_bi, dq_ib, dq_str, dq_non, dq_lst, dq_tup, dq_nil, dq_cons, asLst, asTup, asStr, asSeq, Ret.d, endsD, Slot.hid, unsets, phDraw, plain_int, plain_bl, plain_non, List.getElem?_cons_zero, List.getElem?_cons_succ, List.set_cons_zero, List.set_cons_succ]
  refine dia_tu n0 (told2 (perm_of_srt (cmp_flp g0)).symm ⟨rfl, hk1 _ ?_⟩)
  clear hk1 k1
  refine seq_step fun k1 hk1 => ?_
  simp [at40, at41, at42, at43, at30, at31, at32, dMeth, lk_then, lk_flipped, oOwn, lk_isC, dProp, oAll, dAsg, dOwn, dC, dVar, dOp, dUn, dCl, dClB, dOpB, dBs, dCons, dNil, dTup, dLst, dIf, dAnd, dOr, dNot, dAndV, dOrV, dNotV, dTest, dChain, dCond, dRet, dRetO, dRetN, dRetOwn, dNext, dDrop, dCall, dCallN, dCallB, dCallH, dCallHN, hName, hTup_tup, hLst_lst, hCons_cons, hNil_nil, dItems, dRange1, dRange2, dEnum, dAltI, dAppend, dPopAt, dPop, dSetIx, dPutK, dIxB, dListB, dSl, dPart, dNoPart, dDisp1, dFor, dComp, dYes, oAdd, oSub, oMod, oFdiv, oPow, oLt, oLe, oGt, oGe, oMul, oNeg, oI, oI0, oEq, oNe, oIn, oIs, oIx, oLen, oInt, oI1, oAbs, oI2, oDivmod, oList, oTuple, oUpper, oIsi, oIsi2, Sl.own, peek, isLst, lstOf, isDic, keysOf, valsOf, D.flat, D.isObj, D.ty, subTy, D.isN, dq_int, dq_bl, dq_bi, dq_ib, dq_str, dq_non, dq_lst, dq_tup, dq_nil, dq_cons, asLst, asTup, asStr, asSeq, Ret.d, endsD, Slot.hid, unsets, phDraw, plain_int, plain_bl, plain_non, List.getElem?_cons_zero, List.getElem?_cons_succ, List.set_cons_zero, List.set_cons_succ]
  have en : srt (cmpL l0 (flp l0)) = srt (ids s0) ↔ (l0.length : Int) = s0 := by
    rw [cmp_flp g0]
    exact dia_len z0.lo g0
  refine eq_in ?_
  have hk2 := hk1
  suffices q : k1 [.val (.scr ns), .hand, .val (.int m), .val (.lst [.int s0, .int s1, .int s2, .int s3]), .val (.lst [.lst (l0.map prD), .lst (l1.map prD), .lst (l2.map prD)]), .val (lkS C s0 s1 l0), .val (lkS C s1 s2 l1), .val (lkS C s2 s3 l2), .val (.str kept), .val (lkS C s0 s2 (cmpL l0 l1)), .val (lkS C s1 s3 (cmpL l1 l2)), .val (.lst [lkS C s0 s0 (ids s0), lkS C s1 s1 (ids s1), lkS C s2 s2 (ids s2), lkS C s3 s3 (ids s3)]), .val (lkS C s0 s0 (cmpL l0 (flp l0))), .un, .un, .un, .un, .un, .un, .un] by
    by_cases hc : (l0.length : Int) = s0
    · exact .inr ⟨by simp [en.mpr hc], hc, q⟩
    · exact .inl ⟨by simp [mt en.mp hc], hc, q⟩
  refine hk1 _ ?_
  clear hk1 hk2 k1
  refine seq_step fun k1 hk1 => ?_
  simp [at40, at41, at42, at43, dAsg, dOwn, dC, dVar, dOp, dUn, dCl, dClB, dOpB, dBs, dCons, dNil, dTup, dLst, dIf, dAnd, dOr, dNot, dAndV, dOrV, dNotV, dTest, dChain, dCond, dRet, dRetO, dRetN, dRetOwn, dNext, dDrop, dCall, dCallN, dCallB, dCallH, dCallHN, hName, hTup_tup, hLst_lst, hCons_cons, hNil_nil, dItems, dRange1, dRange2, dEnum, dAltI, dAppend, dPopAt, dPop, dSetIx, dPutK, dIxB, dListB, dSl, dPart, dNoPart, dDisp1, dFor, dComp, dYes, oAdd, oSub, oMod, oFdiv, oPow, oLt, oLe, oGt, oGe, oMul, oNeg, oI, oI0, oEq, oNe, oIn, oIs, oIx, oLen, oInt, oI1, oAbs, oI2, oDivmod, oList, oTuple, oUpper, oIsi, oIsi2, Sl.own, peek, isLst, lstOf, isDic, keysOf, valsOf, D.flat, D.isObj, D.ty, subTy, D.isN, dq_int, dq_bl, dq_bi, dq_ib, dq_str, dq_non, dq_lst, dq_tup, dq_nil, dq_cons, asLst, asTup, asStr, asSeq, Ret.d, endsD, Slot.hid, unsets, phDraw, plain_int, plain_bl, plain_non, List.getElem?_cons_zero, List.getElem?_cons_succ, List.set_cons_zero, List.set_cons_succ]
  refine hk1 _ ?_
  clear hk1 k1
  refine seq_step fun k1 hk1 => ?_
  simp [dAsg, dOwn, dC, dVar, dOp, dUn, dCl, dClB, dOpB, dBs, dCons, dNil, dTup, dLst, dIf, dAnd, dOr, dNot, dAndV, dOrV, dNotV, dTest, dChain, dCond, dRet, dRetO, dRetN, dRetOwn, dNext, dDrop, dCall, dCallN, dCallB, dCallH, dCallHN, hName, hTup_tup, hLst_lst, hCons_cons, hNil_nil, dItems, dRange1, dRange2, dEnum, dAltI, dAppend, dPopAt, dPop, dSetIx, dPutK, dIxB, dListB, dSl, dPart, dNoPart, dDisp1, dFor, dComp, dYes, oAdd, oSub, oMod, oFdiv, oPow, oLt, oLe, oGt, oGe, oMul, oNeg, oI, oI0, oEq, oNe, oIn, oIs, oIx, oLen, oInt, oI1, oAbs, oI2, oDivmod, oList, oTuple, oUpper, oIsi, oIsi2, Sl.own, peek, isLst, lstOf, isDic, keysOf, valsOf, D.flat, D.isObj, D.ty, subTy, D.isN, dq_int, dq_bl, dq_bi, dq_ib, dq_str, dq_non, dq_lst, dq_tup, dq_nil, dq_cons, asLst, asTup, asStr, asSeq, Ret.d, endsD, Slot.hid, unsets, phDraw, plain_int, plain_bl, plain_non, List.getElem?_cons_zero, List.getElem?_cons_succ, List.set_cons_zero, List.set_cons_succ]
  rw [show rangeD 0 2 = [D.int 0, .int 1] from rfl]
  simp [dTurns, dMake, le_size, lt_size, dAsg, dOwn, dC, dVar, dOp, dUn, dCl, dClB, dOpB, dBs, dCons, dNil, dTup, dLst, dIf, dAnd, dOr, dNot, dAndV, dOrV, dNotV, dTest, dChain, dCond, dRet, dRetO, dRetN, dRetOwn, dNext, dDrop, dCall, dCallN, dCallB, dCallH, dCallHN, hName, hTup_tup, hLst_lst, hCons_cons, hNil_nil, dItems, dRange1, dRange2, dEnum, dAltI, dAppend, dPopAt, dPop, dSetIx, dPutK, dIxB, dListB, dSl, dPart, dNoPart, dDisp1, dFor, dComp, dYes, oAdd, oSub, oMod, oFdiv, oPow, oLt, oLe, oGt, oGe, oMul, oNeg, oI, oI0, oEq, oNe, oIn, oIs, oIx, oLen, oInt, oI1, oAbs, oI2, oDivmod, oList, oTuple, oUpper, oIsi, oIsi2, Sl.own, peek, isLst, lstOf, isDic, keysOf, valsOf, D.flat, D.isObj, D.ty, subTy, D.isN, dq_int, dq_bl, dq_bi, dq_ib, dq_str, dq_non, dq_lst, dq_tup, dq_nil, dq_cons, asLst, asTup, asStr, asSeq, Ret.d, endsD, Slot.hid, unsets, phDraw, plain_int, plain_bl, plain_non, List.getElem?_cons_zero, List.getElem?_cons_succ, List.set_cons_zero, List.set_cons_succ]
  refine links_in z3 z3 z3.lo fun x gx hx => make_in z3 z3 rfl gx (links_in z3 z3 z3.lo fun y gy hy => make_in z3 z3 rfl gy ?_)
  have ex : (x.length : Int) = s3 := by simpa using hx
  have ey : (y.length : Int) = s3 := by simpa using hy
  clear hx hy
  have gxy := good_cmp gx gy
  refine hk1 _ ?_
  clear hk1 k1
  refine seq_step fun k1 hk1 => ?_
  simp [at40, at41, at42, at43, dMeth, lk_then, lk_flipped, oOwn, lk_isC, dProp, oAll, dAsg, dOwn, dC, dVar, dOp, dUn, dCl, dClB, dOpB, dBs, dCons, dNil, dTup, dLst, dIf, dAnd, dOr, dNot, dAndV, dOrV, dNotV, dTest, dChain, dCond, dRet, dRetO, dRetN, dRetOwn, dNext, dDrop, dCall, dCallN, dCallB, dCallH, dCallHN, hName, hTup_tup, hLst_lst, hCons_cons, hNil_nil, dItems, dRange1, dRange2, dEnum, dAltI, dAppend, dPopAt, dPop, dSetIx, dPutK, dIxB, dListB, dSl, dPart, dNoPart, dDisp1, dFor, dComp, dYes, oAdd, oSub, oMod, oFdiv, oPow, oLt, oLe, oGt, oGe, oMul, oNeg, oI, oI0, oEq, oNe, oIn, oIs, oIx, oLen, oInt, oI1, oAbs, oI2, oDivmod, oList, oTuple, oUpper, oIsi, oIsi2, Sl.own, peek, isLst, lstOf, isDic, keysOf, valsOf, D.flat, D.isObj, D.ty, subTy, D.isN, dq_int, dq_bl, dq_bi, dq_ib, dq_str, dq_non, dq_lst, dq_tup, dq_nil, dq_cons, asLst, asTup, asStr, asSeq, Ret.d, endsD, Slot.hid, unsets, phDraw, plain_int, plain_bl, plain_non, List.getElem?_cons_zero, List.getElem?_cons_succ, List.set_cons_zero, List.set_cons_succ]
  refine flip2 z3 z3 gx (then2 z3 z3 z3 gx (good_flp gx) ⟨lk_isC, eq2 (full_flp z3.lo gx ex) ⟨rfl, ?_⟩⟩)
  refine flip2 z3 z3 gx ⟨lk_then, then2 z3 z3 z3 (good_flp gx) gx ⟨lk_isC, eq2 (full_flp2 z3.lo gx ex) ⟨rfl, ?_⟩⟩⟩
  refine then2 z3 z3 z3 gx gy ⟨lk_isC, full_t (full_cmp z3.lo gx gy ex ey) ⟨rfl, hk1 _ ?_⟩⟩
  clear hk1 k1
  refine seq_step fun k1 hk1 => ?_
  simp [at40, at41, at42, at43, dMeth, lk_then, lk_flipped, oOwn, lk_isC, dProp, oAll, dAsg, dOwn, dC, dVar, dOp, dUn, dCl, dClB, dOpB, dBs, dCons, dNil, dTup, dLst, dIf, dAnd, dOr, dNot, dAndV, dOrV, dNotV, dTest, dChain, dCond, dRet, dRetO, dRetN, dRetOwn, dNext, dDrop, dCall, dCallN, dCallB, dCallH, dCallHN, hName, hTup_tup, hLst_lst, hCons_cons, hNil_nil, dItems, dRange1, dRange2, dEnum, dAltI, dAppend, dPopAt, dPop, dSetIx, dPutK, dIxB, dListB, dSl, dPart, dNoPart, dDisp1, dFor, dComp, dYes, oAdd, oSub, oMod, oFdiv, oPow, oLt, oLe, oGt, oGe, oMul, oNeg, oI, oI0, oEq, oNe, oIn, oIs, oIx, oLen, oInt, oI1, oAbs, oI2, oDivmod, oList, oTuple, oUpper, oIsi, oIsi2, Sl.own, peek, isLst, lstOf, isDic, keysOf, valsOf, D.flat, D.isObj, D.ty, subTy, D.isN, dq_int, dq_bl, dq_bi, dq_ib, dq_str, dq_non, dq_lst, dq_tup, dq_nil, dq_cons, asLst, asTup, asStr, asSeq, Ret.d, endsD, Slot.hid, unsets, phDraw, plain_int, plain_bl, plain_non, List.getElem?_cons_zero, List.getElem?_cons_succ, List.set_cons_zero, List.set_cons_succ]
  refine then2 z3 z3 z3 gx gy ⟨lk_then, flip2 z3 z3 gy (then2 z3 z3 z3 gxy (good_flp gy) ⟨lk_isC, eq2 (full_back z3.lo gx gy ey) ⟨rfl, hk1 _ ?_⟩⟩)⟩
  clear hk1 k1
  refine seq_step fun k1 hk1 => ?_
  simp [at40, at41, at42, at43, dMeth, lk_then, lk_flipped, oOwn, lk_isC, dProp, dMake, dFld, lk_links, oAll, dAsg, dOwn, dC, dVar, dOp, dUn, dCl, dClB, dOpB, dBs, dCons, dNil, dTup, dLst, dIf, dAnd, dOr, dNot, dAndV, dOrV, dNotV, dTest, dChain, dCond, dRet, dRetO, dRetN, dRetOwn, dNext, dDrop, dCall, dCallN, dCallB, dCallH, dCallHN, hName, hTup_tup, hLst_lst, hCons_cons, hNil_nil, dItems, dRange1, dRange2, dEnum, dAltI, dAppend, dPopAt, dPop, dSetIx, dPutK, dIxB, dListB, dSl, dPart, dNoPart, dDisp1, dFor, dComp, dYes, oAdd, oSub, oMod, oFdiv, oPow, oLt, oLe, oGt, oGe, oMul, oNeg, oI, oI0, oEq, oNe, oIn, oIs, oIx, oLen, oInt, oI1, oAbs, oI2, oDivmod, oList, oTuple, oUpper, oIsi, oIsi2, Sl.own, peek, isLst, lstOf, isDic, keysOf, valsOf, D.flat, D.isObj, D.ty, subTy, D.isN, dq_int, dq_bl, dq_bi, dq_ib, dq_str, dq_non, dq_lst, dq_tup, dq_nil, dq_cons, asLst, asTup, asStr, asSeq, Ret.d, endsD, Slot.hid, unsets, phDraw, plain_int, plain_bl, plain_non, List.getElem?_cons_zero, List.getElem?_cons_succ, List.set_cons_zero, List.set_cons_succ]
  suffices q : k1 [.val (.scr ns), .hand, .val (.int m), .val (.lst [.int s0, .int s1, .int s2, .int s3]), .val (.lst [.lst (l0.map prD), .lst (l1.map prD), .lst (l2.map prD)]), .val (lkS C s0 s1 l0), .val (lkS C s1 s2 l1), .val (lkS C s2 s3 l2), .val (.str kept), .val (lkS C s0 s2 (cmpL l0 l1)), .val (lkS C s1 s3 (cmpL l1 l2)), .val (.lst [lkS C s0 s0 (ids s0), lkS C s1 s1 (ids s1), lkS C s2 s2 (ids s2), lkS C s3 s3 (ids s3)]), .val (lkS C s0 s0 (cmpL l0 (flp l0))), .val (.int s3), .val (lkS C s3 s3 x), .val (lkS C s3 s3 y), .un, .un, .un, .un] by
    by_cases hc : 0 < s3
    · rw [if_pos hc]
      have ht : ((srt y).tail.length : Int) = s3 - 1 := by
        rw [List.length_tail, len_srt]
        omega
      have gt := good_tail (good_srt gy)
      refine sl_in (by rw [len_srt]; omega) (make_in z3 z3 rfl gt (then2 z3 z3 z3 gx gt ⟨lk_isC, full_f ?_ ⟨rfl, q⟩⟩))
      have := cmp_le2 gx gt
      omega
    · rw [if_neg hc]
      exact q
  refine hk1 _ ?_
  clear hk1 k1
  simp [at40, at41, at42, at43, dMeth, lk_then, lk_flipped, oOwn, lk_isC, dProp, dMake, dFld, lk_links, oAll, dAsg, dOwn, dC, dVar, dOp, dUn, dCl, dClB, dOpB, dBs, dCons, dNil, dTup, dLst, dIf, dAnd, dOr, dNot, dAndV, dOrV, dNotV, dTest, dChain, dCond, dRet, dRetO, dRetN, dRetOwn, dNext, dDrop, dCall, dCallN, dCallB, dCallH, dCallHN, hName, hTup_tup, hLst_lst, hCons_cons, hNil_nil, dItems, dRange1, dRange2, dEnum, dAltI, dAppend, dPopAt, dPop, dSetIx, dPutK, dIxB, dListB, dSl, dPart, dNoPart, dDisp1, dFor, dComp, dYes, oAdd, oSub, oMod, oFdiv, oPow, oLt, oLe, oGt, oGe, oMul, oNeg, oI, oI0, oEq, oNe, oIn, oIs, oIx, oLen, oInt, oI1, oAbs, oI2, oDivmod, oList, oTuple, oUpper, oIsi, oIsi2, Sl.own, peek, isLst, lstOf, isDic, keysOf, valsOf, D.flat, D.isObj, D.ty, subTy, D.isN, dq_int, dq_bl, dq_bi, dq_ib, dq_str, dq_non, dq_lst, dq_tup, dq_nil, dq_cons, asLst, asTup, asStr, asSeq, Ret.d, endsD, Slot.hid, unsets, phDraw, plain_int, plain_bl, plain_non, List.getElem?_cons_zero, List.getElem?_cons_succ, List.set_cons_zero, List.set_cons_succ]
  refine repr_in (good_bd z0 z1 (good_srt g0)) (by rw [len_srt]; exact n0) fun w0 => repr_in (good_bd z1 z2 (good_srt g1)) (by rw [len_srt]; exact n1) fun w1 => ?_
  refine ⟨Nat.le_trans (by omega) size_ge, ?_⟩
  refine repr_in (good_bd z2 z3 (good_srt g2)) (by rw [len_srt]; exact n2) fun w2 => ?_
  have vk : validS (shw (srt l0) ++ shw (srt l1) ++ shw (srt l2)) = true := v_app (v_app v_shw v_shw) v_shw
  refine ⟨Nat.le_trans (by rw [PySem.strLen_append]; omega) size_ge, plain_str (hK ▸ vk), plain_str vk, hK.symm, ?_⟩
  exact then2 z0 z1 z2 g0 g1 ⟨lk_isC, eq2 rfl ⟨rfl, then2 z0 z2 z3 g01 g2 (then2 z0 z1 z3 g0 g12 ⟨lk_isC, lk_isC, eq2 (ccc g0 g1 g2) rfl⟩)⟩⟩
end Kb
namespace Kb
theorem pure : ∀ (C_Likeness : PySem.Addr), Pure C_Likeness := fun C_Likeness => ⟨p__law_hand C_Likeness, p__law_mix C_Likeness, p__law_one C_Likeness, p__law_links C_Likeness, p_is_sequence C_Likeness, p_is_whole C_Likeness, p_check_links C_Likeness, p_check_sizes C_Likeness, p_Likeness_M___init__ C_Likeness, p_Likeness_M_then C_Likeness, p__law_is_whole C_Likeness, p__law_told C_Likeness, p__law_chained C_Likeness, p_Likeness_M___eq__ C_Likeness, p_Likeness_M_flipped C_Likeness, p_Likeness_M_is_full C_Likeness, p_law C_Likeness⟩
end Kb
open PySem PySem.W PyProof.Rows in
set_option maxRecDepth 100000 in
set_option maxHeartbeats 0 in
theorem PySem.Challenge.cw_searchback_k25_whole_likenesses_lead_on_holds : PySem.Challenge.rw_searchback_k25_whole_likenesses_lead_on.Holds := by
  w_on; o_law; k_head; (case hw => w_witness2)
  k_fill
  refine Kb.walk (l := PySem.Challenge.rw_searchback_k25_whole_likenesses_lead_on) rfl rfl (fun w h Y => PySem.W.kIn_of Y) ?F
  case F =>
    intro w mg fa h KX G hmg
    refine' Kb.all_mk Kb.pure KX G hmg ?aC_Likeness ?pgC_Likeness ?hdC_Likeness ?poC_Likeness ?saC_Likeness ?mkC_Likeness ?kcC_Likeness ?haC_Likeness ?hmC_Likeness ?kiC_Likeness ?hn0 ?ht0 ?no_Likeness_first ?no_Likeness_links ?no_Likeness_second ?a0 ?l0 ?c0 ?k0 ?a1 ?l1 ?c1 ?k1 ?a2 ?l2 ?c2 ?k2 ?a3 ?l3 ?c3 ?k3 ?a4 ?l4 ?c4 ?k4 ?a5 ?l5 ?c5 ?k5 ?a6 ?l6 ?c6 ?k6 ?a7 ?l7 ?c7 ?k7 ?a8 ?l8 ?c8 ?k8 ?a9 ?i9 ?l9 ?c9 ?k9 ?a10 ?i10 ?l10 ?c10 ?k10 ?a11 ?l11 ?c11 ?k11 ?a12 ?l12 ?c12 ?k12 ?a13 ?l13 ?c13 ?k13 ?a14 ?i14 ?lc14 ?no14 ?ne14 ?nn14 ?l14 ?c14 ?k14 ?a15 ?i15 ?l15 ?c15 ?k15 ?a16 ?g16 ?t16 ?r16 ?l16 ?c16 ?k16 ?a17 ?l17 ?c17 ?k17 ?z_abs ?z_all ?z_bool ?z_enumerate ?z_int ?z_isinstance ?z_len ?z_list ?z_min ?z_range ?z_repr ?z_sorted ?z_tuple ?e_MOST_LINKED
    (case aC_Likeness => k_is)
    (case pgC_Likeness => k_is)
    (case hdC_Likeness => k_is)
    (case poC_Likeness => k_is)
    (case saC_Likeness => k_is)
    (case mkC_Likeness => k_is)
    (case kcC_Likeness => k_is)
    (case haC_Likeness => k_is)
    (case hmC_Likeness => k_is)
    (case kiC_Likeness => first | rfl | kernel_rfl)
    (case hn0 => k_is)
    (case ht0 => k_is)
    (case no_Likeness_first => k_is)
    (case no_Likeness_links => k_is)
    (case no_Likeness_second => k_is)
    (case a0 => k_is)
    (case l0 => k_is)
    (case c0 => k_is)
    (case k0 => k_is)
    (case a1 => k_is)
    (case l1 => k_is)
    (case c1 => k_is)
    (case k1 => k_is)
    (case a2 => k_is)
    (case l2 => k_is)
    (case c2 => k_is)
    (case k2 => k_is)
    (case a3 => k_is)
    (case l3 => k_is)
    (case c3 => k_is)
    (case k3 => k_is)
    (case a4 => k_is)
    (case l4 => k_is)
    (case c4 => k_is)
    (case k4 => k_is)
    (case a5 => k_is)
    (case l5 => k_is)
    (case c5 => k_is)
    (case k5 => k_is)
    (case a6 => k_is)
    (case l6 => k_is)
    (case c6 => k_is)
    (case k6 => k_is)
    (case a7 => k_is)
    (case l7 => k_is)
    (case c7 => k_is)
    (case k7 => k_is)
    (case a8 => k_is)
    (case l8 => k_is)
    (case c8 => k_is)
    (case k8 => k_is)
    (case a9 => k_is)
    (case i9 => k_is)
    (case l9 => k_is)
    (case c9 => k_is)
    (case k9 => k_is)
    (case a10 => k_is)
    (case i10 => k_is)
    (case l10 => k_is)
    (case c10 => k_is)
    (case k10 => k_is)
    (case a11 => k_is)
    (case l11 => k_is)
    (case c11 => k_is)
    (case k11 => k_is)
    (case a12 => k_is)
    (case l12 => k_is)
    (case c12 => k_is)
    (case k12 => k_is)
    (case a13 => k_is)
    (case l13 => k_is)
    (case c13 => k_is)
    (case k13 => k_is)
    (case a14 => k_is)
    (case i14 => k_is)
    (case lc14 => k_is)
    (case no14 => first | rfl | kernel_rfl)
    (case ne14 => k_is)
    (case nn14 => k_is)
    (case l14 => k_is)
    (case c14 => k_is)
    (case k14 => k_is)
    (case a15 => k_is)
    (case i15 => k_is)
    (case l15 => k_is)
    (case c15 => k_is)
    (case k15 => k_is)
    (case a16 => k_is)
    (case g16 => k_is)
    (case t16 => k_is)
    (case r16 => k_is)
    (case l16 => k_is)
    (case c16 => k_is)
    (case k16 => k_is)
    (case a17 => k_is)
    (case l17 => k_is)
    (case c17 => k_is)
    (case k17 => k_is)
    (case z_abs => k_is)
    (case z_all => k_is)
    (case z_bool => k_is)
    (case z_enumerate => k_is)
    (case z_int => k_is)
    (case z_isinstance => k_is)
    (case z_len => k_is)
    (case z_list => k_is)
    (case z_min => k_is)
    (case z_range => k_is)
    (case z_repr => k_is)
    (case z_sorted => k_is)
    (case z_tuple => k_is)
    (case e_MOST_LINKED => k_is)
