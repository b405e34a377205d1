import PyProof.Rows.All
import Wide.All
import OpenK.AllK
import Wide.FinOn
import HandS.ForMost
import HandS.IsInst
import HandS.Style
import HandS.Wide
import HandS.Exc
import HandS.WordsExc
import PySem.Challenge.RW_searchback_k02_whole_labels_in_order
set_option Elab.async false
set_option linter.all false
set_option maxRecDepth 100000
set_option maxHeartbeats 4000000
/-! Values as trees. -/
namespace Dx
open PySem L2
abbrev Fg := PySem.W.Frag
/-- a value as a tree -/
inductive D where
  | non | bl (b : Bool) | int (i : Int) | str (x : Str)
  | lst (ds : List D) | tup (ds : List D)
  | dic (ks : List Key) (ds : List D)
  | obj (C : Addr) (ns : List Str) (ds : List D)
  | scr (ns : List Int)
section
variable (K : Fg)
mutual
/-- the value v stands for the tree d, by objects that do not change any more -/
inductive Rp : Hp → V → D → Prop
  | non {G} : Rp G .non .non
  | bl {G} (b : Bool) : Rp G (.bl b) (.bl b)
  | int {G} (i : Int) : Rp G (.int i) (.int i)
  | str {G} (x : Str) : Rp G (.str x) (.str x)
  | lst {G a xs ds} : G a = some (.lst xs) → RpL G xs ds → Rp G (.ref a) (.lst ds)
  | tup {G a xs ds} : SqT K G a xs → RpL G xs ds → Rp G (.ref a) (.tup ds)
  | dic {G a kvs ks ds} : G a = some (.dK kvs) → kvs.map (·.1) = ks → RpL G (kvs.map (·.2)) ds → Rp G (.ref a) (.dic ks ds)
  | obj {G a C dx fs ns ds} : G a = some (.ins C dx fs) → fs.map (·.1) = ns → RpL G (fs.map (·.2)) ds → Rp G (.ref a) (.obj C ns ds)
  | scr {G a ns} : SqL K G a (ns.map V.int) → Rp G (.ref a) (.scr ns)
inductive RpL : Hp → List V → List D → Prop
  | nil {G} : RpL G [] []
  | cons {G v vs d ds} : Rp G v d → RpL G vs ds → RpL G (v :: vs) (d :: ds)
end
end
section
variable {K : Fg}
theorem sqT_mono {H H' : Hp} {a : Addr} {xs : List V} (e : Same H H') (h : SqT K H a xs) : SqT K H' a xs := by
  rcases h with (h | ⟨o, h⟩) | h
  · exact .inl (.inl (e _ _ h))
  · exact .inl (.inr ⟨o, e _ _ h⟩)
  · exact .inr h
theorem sqL_mono {H H' : Hp} {a : Addr} {xs : List V} (e : Same H H') (h : SqL K H a xs) : SqL K H' a xs := Same.seq e h
mutual
theorem Rp.mono {G G' : Hp} (e : Same G G') : ∀ {v : V} {d : D}, Rp K G v d → Rp K G' v d
  | _, _, .non => .non
  | _, _, .bl b => .bl b
  | _, _, .int i => .int i
  | _, _, .str x => .str x
  | _, _, .lst h t => .lst (e _ _ h) (RpL.mono e t)
  | _, _, .tup h t => .tup (sqT_mono e h) (RpL.mono e t)
  | _, _, .dic h k t => .dic (e _ _ h) k (RpL.mono e t)
  | _, _, .obj h k t => .obj (e _ _ h) k (RpL.mono e t)
  | _, _, .scr h => .scr (sqL_mono e h)
theorem RpL.mono {G G' : Hp} (e : Same G G') : ∀ {vs : List V} {ds : List D}, RpL K G vs ds → RpL K G' vs ds
  | _, _, .nil => .nil
  | _, _, .cons h t => .cons (Rp.mono e h) (RpL.mono e t)
end
variable {G : Hp}
theorem RpL.length : ∀ {vs : List V} {ds : List D}, RpL K G vs ds → vs.length = ds.length
  | _, _, .nil => rfl
  | _, _, .cons _ t => by rw [List.length_cons, List.length_cons, RpL.length t]
theorem RpL.get : ∀ {vs : List V} {ds : List D} {i : Nat} {v : V}, RpL K G vs ds → vs[i]? = some v → ∃ d, ds[i]? = some d ∧ Rp K G v d
  | _, _, _, _, .nil, e => by simp at e
  | _, _, 0, _, .cons r _, e => by simp at e; subst e; exact ⟨_, rfl, r⟩
  | _, _, i + 1, v, .cons _ t, e => by
    obtain ⟨d, h1, h2⟩ := RpL.get (i := i) (v := v) t (by simpa using e)
    exact ⟨d, by simpa using h1, h2⟩
theorem RpL.at : ∀ {vs : List V} {ds : List D} {i : Nat} {d : D}, RpL K G vs ds → ds[i]? = some d → ∃ v, vs[i]? = some v ∧ Rp K G v d
  | _, _, _, _, .nil, e => by simp at e
  | _, _, 0, _, .cons r _, e => by simp at e; subst e; exact ⟨_, rfl, r⟩
  | _, _, i + 1, d, .cons _ t, e => by
    obtain ⟨v, h1, h2⟩ := RpL.at (i := i) (d := d) t (by simpa using e)
    exact ⟨v, by simpa using h1, h2⟩
theorem RpL.append : ∀ {vs ws : List V} {ds es : List D}, RpL K G vs ds → RpL K G ws es → RpL K G (vs ++ ws) (ds ++ es)
  | _, _, _, _, .nil, s => s
  | _, _, _, _, .cons r t, s => .cons r (RpL.append t s)
theorem RpL.set {v : V} {d : D} (r : Rp K G v d) : ∀ {vs : List V} {ds : List D} (i : Nat), RpL K G vs ds → RpL K G (vs.set i v) (ds.set i d)
  | _, _, _, .nil => .nil
  | _, _, 0, .cons _ t => .cons r t
  | _, _, i + 1, .cons q t => .cons q (RpL.set r i t)
theorem RpL.take : ∀ {vs : List V} {ds : List D} (n : Nat), RpL K G vs ds → RpL K G (vs.take n) (ds.take n)
  | _, _, 0, _ => .nil
  | _, _, _ + 1, .nil => .nil
  | _, _, n + 1, .cons r t => .cons r (RpL.take n t)
theorem RpL.drop : ∀ {vs : List V} {ds : List D} (n : Nat), RpL K G vs ds → RpL K G (vs.drop n) (ds.drop n)
  | _, _, 0, r => r
  | _, _, _ + 1, .nil => .nil
  | _, _, n + 1, .cons _ t => RpL.drop n t
theorem RpL.erase : ∀ {vs : List V} {ds : List D} (i : Nat), RpL K G vs ds → RpL K G (vs.eraseIdx i) (ds.eraseIdx i)
  | _, _, _, .nil => .nil
  | _, _, 0, .cons _ t => t
  | _, _, i + 1, .cons r t => .cons r (RpL.erase i t)
theorem RpL.reverse : ∀ {vs : List V} {ds : List D}, RpL K G vs ds → RpL K G vs.reverse ds.reverse
  | _, _, .nil => .nil
  | _, _, .cons r t => by
    rw [List.reverse_cons, List.reverse_cons]
    exact RpL.append (RpL.reverse t) (.cons r .nil)
theorem RpL.nil_iff {vs : List V} {ds : List D} (r : RpL K G vs ds) : vs.isEmpty = ds.isEmpty := by
  cases r <;> rfl
theorem RpL.ints : ∀ (ns : List Int), RpL K G (ns.map V.int) (ns.map D.int)
  | [] => .nil
  | n :: r => .cons (.int n) (RpL.ints r)
theorem RpL.toInts : ∀ {ns : List Int} {vs : List V}, RpL K G vs (ns.map D.int) → vs = ns.map V.int
  | [], _, .nil => rfl
  | n :: r, _, .cons (.int _) t => by rw [List.map_cons, RpL.toInts t]
theorem RpL.toStrs : ∀ {ns : List Str} {vs : List V}, RpL K G vs (ns.map D.str) → vs = ns.map V.str
  | [], _, .nil => rfl
  | n :: r, _, .cons (.str _) t => by rw [List.map_cons, RpL.toStrs t]
theorem RpL.toBls : ∀ {ns : List Bool} {vs : List V}, RpL K G vs (ns.map D.bl) → vs = ns.map V.bl
  | [], _, .nil => rfl
  | n :: r, _, .cons (.bl _) t => by rw [List.map_cons, RpL.toBls t]
end

/-! ### slots -/
inductive Slot where
  | un | val (d : D) | own (d : D) | hand
/-- what is the same through a def's whole run: the hand's address, the heap at the entry, what did not change any more there -/
structure Fx where
  p : Option Addr
  H0 : Hp
  G0 : Hp
/-- an object that one name alone holds -/
def OwnAt (K : Fg) (G H : Hp) (a : Addr) : D → Prop
  | .lst ds => ∃ xs, H a = some (.lst xs) ∧ RpL K G xs ds
  | .dic ks ds => ∃ kvs, H a = some (.dK kvs) ∧ kvs.map (·.1) = ks ∧ RpL K G (kvs.map (·.2)) ds
  | .obj C ns ds => ∃ dx fs, H a = some (.ins C dx fs) ∧ fs.map (·.1) = ns ∧ RpL K G (fs.map (·.2)) ds
  | _ => False
theorem OwnAt.there {K : Fg} {G H : Hp} {a : Addr} {d : D} (h : OwnAt K G H a d) : ∃ o, H a = some o := by
  cases d <;> first | exact h.elim | (obtain ⟨_, h, _⟩ := h; exact ⟨_, h⟩) | (obtain ⟨_, _, h, _⟩ := h; exact ⟨_, h⟩)
theorem OwnAt.to {K : Fg} {G G' H H' : Hp} {a : Addr} {d : D} (h : OwnAt K G H a d) (e : Same G G') (k : ∀ o, H a = some o → H' a = some o) : OwnAt K G' H' a d := by
  cases d with
  | lst ds => obtain ⟨xs, h1, h2⟩ := h; exact ⟨xs, k _ h1, h2.mono e⟩
  | dic ks ds => obtain ⟨xs, h1, h2, h3⟩ := h; exact ⟨xs, k _ h1, h2, h3.mono e⟩
  | obj C ns ds => obtain ⟨dx, xs, h1, h2, h3⟩ := h; exact ⟨dx, xs, k _ h1, h2, h3.mono e⟩
  | _ => exact h.elim
/-- the law's hand: its cells (they never change), where it stands -/
def HandAt (K : Fg) (G H : Hp) (q : Addr) : Prop := ∃ (c : Addr) (cells : List Int) (i r t : Int), H q = some (.lst [.ref c, .int i, .int r, .int t]) ∧ SqL K G c (cells.map V.int) ∧
  (∀ x ∈ cells, 0 ≤ x) ∧ cells.length ≤ 63 ∧ 0 ≤ i ∧ i ≤ cells.length ∧ 0 ≤ r ∧ 0 ≤ t ∧ t < 2147483629
theorem HandAt.there {K : Fg} {G H : Hp} {q : Addr} (h : HandAt K G H q) : ∃ o, H q = some o := by
  obtain ⟨c, cells, i, r, t, h, _⟩ := h
  exact ⟨_, h⟩
theorem HandAt.to {K : Fg} {G G' H H' : Hp} {q : Addr} (h : HandAt K G H q) (e : Same G G') (k : ∀ o, H q = some o → H' q = some o) : HandAt K G' H' q := by
  obtain ⟨c, cells, i, r, t, h1, h2, h3⟩ := h
  exact ⟨c, cells, i, r, t, k _ h1, sqL_mono e h2, h3⟩
abbrev Sl := List Slot
inductive Sls (K : Fg) (F : Fx) (G H : Hp) : L2.St → Sl → List Addr → Prop
  | nil : Sls K F G H [] [] []
  | un {x σ sl as} : Sls K F G H σ sl as → Sls K F G H (x :: σ) (.un :: sl) as
  | val {v d σ sl as} : Rp K G v d → Sls K F G H σ sl as → Sls K F G H (some v :: σ) (.val d :: sl) as
  | own {a d σ sl as} : OwnAt K G H a d → G a = none → F.H0 a = none → F.p ≠ some a → a ∉ as → Sls K F G H σ sl as → Sls K F G H (some (.ref a) :: σ) (.own d :: sl) (a :: as)
  | hand {q σ sl as} : F.p = some q → Sls K F G H σ sl as → Sls K F G H (some (.ref q) :: σ) (.hand :: sl) as
section
variable {K : Fg} {F : Fx} {G G' H H' : Hp}
theorem Sls.heap (e : Same G G') : ∀ {σ : St} {sl : Sl} {as : List Addr}, Sls K F G H σ sl as → (∀ a ∈ as, ∀ o, H a = some o → H' a = some o) → (∀ a ∈ as, G' a = none) → Sls K F G' H' σ sl as
  | _, _, _, .nil, _, _ => .nil
  | _, _, _, .un t, k, n => .un (Sls.heap e t k n)
  | _, _, _, .val r t, k, n => .val (r.mono e) (Sls.heap e t k n)
  | _, _, _, .own o g h p m t, k, n => .own (o.to e (k _ List.mem_cons_self)) (n _ List.mem_cons_self) h p m (Sls.heap e t (fun a ha => k a (List.mem_cons_of_mem _ ha)) fun a ha => n a (List.mem_cons_of_mem _ ha))
  | _, _, _, .hand p t, k, n => .hand p (Sls.heap e t k n)
theorem Sls.owned : ∀ {σ : St} {sl : Sl} {as : List Addr}, Sls K F G H σ sl as → ∀ a ∈ as, (∃ o, H a = some o) ∧ G a = none ∧ F.H0 a = none ∧ F.p ≠ some a
  | _, _, _, .nil, a, h => by cases h
  | _, _, _, .un t, a, h => Sls.owned t a h
  | _, _, _, .val _ t, a, h => Sls.owned t a h
  | _, _, _, .hand _ t, a, h => Sls.owned t a h
  | _, _, _, .own o g h0 p m t, a, h => by
    rcases List.mem_cons.mp h with rfl | h
    · exact ⟨o.there, g, h0, p⟩
    · exact Sls.owned t a h
/-- a slot forgotten -/
theorem Sls.forget : ∀ {σ : St} {sl : Sl} {as : List Addr} (i : Nat) (x : Option V), Sls K F G H σ sl as → ∃ as', (∀ a ∈ as', a ∈ as) ∧ Sls K F G H (σ.set i x) (sl.set i .un) as'
  | _, _, _, i, _, .nil => ⟨[], fun _ h => h, by simpa using Sls.nil⟩
  | _, _, _, 0, x, .un t => ⟨_, fun _ h => h, .un t⟩
  | _, _, _, 0, x, .val _ t => ⟨_, fun _ h => h, .un t⟩
  | _, _, _, 0, x, .own _ _ _ _ _ t => ⟨_, fun _ h => List.mem_cons_of_mem _ h, .un t⟩
  | _, _, _, 0, x, .hand _ t => ⟨_, fun _ h => h, .un t⟩
  | _, _, _, i + 1, x, .un t => let ⟨as', h, q⟩ := Sls.forget i x t; ⟨as', h, .un q⟩
  | _, _, _, i + 1, x, .val r t => let ⟨as', h, q⟩ := Sls.forget i x t; ⟨as', h, .val r q⟩
  | _, _, _, i + 1, x, .hand r t => let ⟨as', h, q⟩ := Sls.forget i x t; ⟨as', h, .hand r q⟩
  | _, _, _, i + 1, x, .own (a := a) o g h0 p m t => let ⟨as', h, q⟩ := Sls.forget i x t
    ⟨a :: as', fun b hb => (List.mem_cons.mp hb).elim (fun e => e ▸ List.mem_cons_self) fun z => List.mem_cons_of_mem _ (h b z), .own o g h0 p (fun z => m (h _ z)) q⟩
theorem Sls.put {v : V} {d : D} (r : Rp K G v d) : ∀ {σ : St} {sl : Sl} {as : List Addr} (i : Nat), Sls K F G H σ sl as → ∃ as', (∀ a ∈ as', a ∈ as) ∧ Sls K F G H (σ.set i (some v)) (sl.set i (.val d)) as'
  | _, _, _, i, .nil => ⟨[], fun _ h => h, by simpa using Sls.nil⟩
  | _, _, _, 0, .un t => ⟨_, fun _ h => h, .val r t⟩
  | _, _, _, 0, .val _ t => ⟨_, fun _ h => h, .val r t⟩
  | _, _, _, 0, .own _ _ _ _ _ t => ⟨_, fun _ h => List.mem_cons_of_mem _ h, .val r t⟩
  | _, _, _, 0, .hand _ t => ⟨_, fun _ h => h, .val r t⟩
  | _, _, _, i + 1, .un t => let ⟨as', h, q⟩ := Sls.put r i t; ⟨as', h, .un q⟩
  | _, _, _, i + 1, .val r' t => let ⟨as', h, q⟩ := Sls.put r i t; ⟨as', h, .val r' q⟩
  | _, _, _, i + 1, .hand r' t => let ⟨as', h, q⟩ := Sls.put r i t; ⟨as', h, .hand r' q⟩
  | _, _, _, i + 1, .own (a := a) o g h0 p m t => let ⟨as', h, q⟩ := Sls.put r i t
    ⟨a :: as', fun b hb => (List.mem_cons.mp hb).elim (fun e => e ▸ List.mem_cons_self) fun z => List.mem_cons_of_mem _ (h b z), .own o g h0 p (fun z => m (h _ z)) q⟩
theorem Sls.putOwn {a : Addr} {d : D} (o : OwnAt K G H a d) (g : G a = none) (h0 : F.H0 a = none) (hp : F.p ≠ some a) {σ : L2.St} {sl : Sl} {as : List Addr} (s : Sls K F G H σ sl as) : ∀ (i : Nat), a ∉ as →
    ∃ as', (∀ b ∈ as', b = a ∨ b ∈ as) ∧ Sls K F G H (σ.set i (some (.ref a))) (sl.set i (.own d)) as' := by
  induction s with
  | nil => exact fun i n => ⟨[], fun _ h => .inr h, by simpa using Sls.nil⟩
  | un t ih =>
    rintro (_ | i) n
    · exact ⟨_, fun b h => List.mem_cons.mp h, .own o g h0 hp n t⟩
    · obtain ⟨as', h, q⟩ := ih i n
      exact ⟨as', h, .un q⟩
  | val r t ih =>
    rintro (_ | i) n
    · exact ⟨_, fun b h => List.mem_cons.mp h, .own o g h0 hp n t⟩
    · obtain ⟨as', h, q⟩ := ih i n
      exact ⟨as', h, .val r q⟩
  | hand r t ih =>
    rintro (_ | i) n
    · exact ⟨_, fun b h => List.mem_cons.mp h, .own o g h0 hp n t⟩
    · obtain ⟨as', h, q⟩ := ih i n
      exact ⟨as', h, .hand r q⟩
  | @own b d' σ' sl' as0 o' g' h0' p' m t ih =>
    rintro (_ | i) n
    · exact ⟨_, fun b h => (List.mem_cons.mp h).imp id (List.mem_cons_of_mem _), .own o g h0 hp (fun z => n (List.mem_cons_of_mem _ z)) t⟩
    · obtain ⟨as', h, q⟩ := ih i (fun z => n (List.mem_cons_of_mem _ z))
      refine ⟨b :: as', fun c hc => ?_, Sls.own o' g' h0' p' (fun z => ?_) q⟩
      · rcases List.mem_cons.mp hc with e | z
        · exact .inr (e ▸ List.mem_cons_self)
        · exact (h c z).imp id (List.mem_cons_of_mem _)
      · rcases h b z with e | z
        · exact n (by rw [e]; exact List.mem_cons_self)
        · exact m z
theorem Sls.take : ∀ {σ : St} {sl : Sl} {as : List Addr} {i : Nat} {d : D}, Sls K F G H σ sl as → sl[i]? = some (.own d) →
    ∃ a as', σ[i]? = some (some (.ref a)) ∧ OwnAt K G H a d ∧ G a = none ∧ F.H0 a = none ∧ F.p ≠ some a ∧ a ∉ as' ∧ (∀ b ∈ as', b ∈ as) ∧ a ∈ as ∧ Sls K F G H σ (sl.set i .un) as'
  | _, _, _, _, _, .nil, e => by simp at e
  | _, _, _, 0, _, .un _, e => by simp at e
  | _, _, _, 0, _, .val _ _, e => by simp at e
  | _, _, _, 0, _, .hand _ _, e => by simp at e
  | _, _, _, 0, _, .own (a := a) o g h0 p m t, e => by
    simp at e
    subst e
    exact ⟨a, _, rfl, o, g, h0, p, m, fun b h => List.mem_cons_of_mem _ h, List.mem_cons_self, .un t⟩
  | _, _, _, i + 1, _, .un t, e => let ⟨a, as', h1, h2, h3, h4, h5, h6, h7, h9, h8⟩ := Sls.take (i := i) t (by simpa using e); ⟨a, as', by simpa using h1, h2, h3, h4, h5, h6, h7, h9, .un h8⟩
  | _, _, _, i + 1, _, .val r t, e => let ⟨a, as', h1, h2, h3, h4, h5, h6, h7, h9, h8⟩ := Sls.take (i := i) t (by simpa using e); ⟨a, as', by simpa using h1, h2, h3, h4, h5, h6, h7, h9, .val r h8⟩
  | _, _, _, i + 1, _, .hand r t, e => let ⟨a, as', h1, h2, h3, h4, h5, h6, h7, h9, h8⟩ := Sls.take (i := i) t (by simpa using e); ⟨a, as', by simpa using h1, h2, h3, h4, h5, h6, h7, h9, .hand r h8⟩
  | _, _, _, i + 1, _, .own (a := b) o g h0 p m t, e => let ⟨a, as', h1, h2, h3, h4, h5, h6, h7, h9, h8⟩ := Sls.take (i := i) t (by simpa using e)
    ⟨a, b :: as', by simpa using h1, h2, h3, h4, h5, fun z => (List.mem_cons.mp z).elim (fun e => m (by rw [← e]; exact h9)) h6, fun c hc => (List.mem_cons.mp hc).elim (fun e => e ▸ List.mem_cons_self) fun z => List.mem_cons_of_mem _ (h7 c z),
      List.mem_cons_of_mem _ h9, .own o g h0 p (fun z => m (h7 _ z)) h8⟩
theorem Sls.valAt : ∀ {σ : St} {sl : Sl} {as : List Addr} {i : Nat} {d : D}, Sls K F G H σ sl as → sl[i]? = some (.val d) → ∃ v, σ[i]? = some (some v) ∧ Rp K G v d
  | _, _, _, _, _, .nil, e => by simp at e
  | _, _, _, 0, _, .un _, e => by simp at e
  | _, _, _, 0, _, .hand _ _, e => by simp at e
  | _, _, _, 0, _, .own _ _ _ _ _ _, e => by simp at e
  | _, _, _, 0, _, .val r _, e => by simp at e; subst e; exact ⟨_, rfl, r⟩
  | _, _, _, i + 1, _, .un t, e => let ⟨v, h1, h2⟩ := Sls.valAt (i := i) t (by simpa using e); ⟨v, by simpa using h1, h2⟩
  | _, _, _, i + 1, _, .val _ t, e => let ⟨v, h1, h2⟩ := Sls.valAt (i := i) t (by simpa using e); ⟨v, by simpa using h1, h2⟩
  | _, _, _, i + 1, _, .hand _ t, e => let ⟨v, h1, h2⟩ := Sls.valAt (i := i) t (by simpa using e); ⟨v, by simpa using h1, h2⟩
  | _, _, _, i + 1, _, .own _ _ _ _ _ t, e => let ⟨v, h1, h2⟩ := Sls.valAt (i := i) t (by simpa using e); ⟨v, by simpa using h1, h2⟩
theorem Sls.handAt : ∀ {σ : St} {sl : Sl} {as : List Addr} {i : Nat}, Sls K F G H σ sl as → sl[i]? = some .hand → ∃ q, F.p = some q ∧ σ[i]? = some (some (.ref q))
  | _, _, _, _, .nil, e => by simp at e
  | _, _, _, 0, .un _, e => by simp at e
  | _, _, _, 0, .val _ _, e => by simp at e
  | _, _, _, 0, .own _ _ _ _ _ _, e => by simp at e
  | _, _, _, 0, .hand r _, e => ⟨_, r, rfl⟩
  | _, _, _, i + 1, .un t, e => let ⟨v, h1, h2⟩ := Sls.handAt (i := i) t (by simpa using e); ⟨v, h1, by simpa using h2⟩
  | _, _, _, i + 1, .val _ t, e => let ⟨v, h1, h2⟩ := Sls.handAt (i := i) t (by simpa using e); ⟨v, h1, by simpa using h2⟩
  | _, _, _, i + 1, .hand _ t, e => let ⟨v, h1, h2⟩ := Sls.handAt (i := i) t (by simpa using e); ⟨v, h1, by simpa using h2⟩
  | _, _, _, i + 1, .own _ _ _ _ _ t, e => let ⟨v, h1, h2⟩ := Sls.handAt (i := i) t (by simpa using e); ⟨v, h1, by simpa using h2⟩
theorem Sls.len : ∀ {σ : St} {sl : Sl} {as : List Addr}, Sls K F G H σ sl as → σ.length = sl.length
  | _, _, _, .nil => rfl
  | _, _, _, .un t => by rw [List.length_cons, List.length_cons, t.len]
  | _, _, _, .val _ t => by rw [List.length_cons, List.length_cons, t.len]
  | _, _, _, .hand _ t => by rw [List.length_cons, List.length_cons, t.len]
  | _, _, _, .own _ _ _ _ _ t => by rw [List.length_cons, List.length_cons, t.len]
end

/-- the state and its trees -/
structure Rel (K : Fg) (F : Fx) (G : Hp) (σ : St) (H : Hp) (sl : Sl) : Prop where
  ex : Same G H
  g0 : Same F.G0 G
  fr : ∀ a o, F.H0 a = some o → F.p ≠ some a → H a = some o
  gn : ∀ a o, G a = some o → F.G0 a = some o ∨ F.H0 a = none
  hand : ∀ q, F.p = some q → HandAt K G H q ∧ G q = none
  sls : ∃ as, Sls K F G H σ sl as
section
variable {K : Fg} {F : Fx} {G G' H H' : Hp} {σ : St} {sl : Sl} {a : Addr} {d : D} {i : Nat}
theorem set_same {α : Type} {l : List α} {i : Nat} {x : α} (h : l[i]? = some x) : l.set i x = l := by
  obtain ⟨hi, e⟩ := List.getElem?_eq_some_iff.mp h
  rw [← e]
  exact List.set_getElem_self hi
/-- a new address was new at the entry -/
theorem Rel.new0 (R : Rel K F G σ H sl) (h : H a = none) : F.H0 a = none ∧ F.p ≠ some a ∧ G a = none := by
  have hp : F.p ≠ some a := fun e => by
    obtain ⟨o, ho⟩ := (R.hand a e).1.there
    rw [h] at ho
    cases ho
  refine ⟨?_, hp, R.ex.free h⟩
  cases e : F.H0 a with
  | none => rfl
  | some o =>
    have z := R.fr a o e hp
    rw [h] at z
    cases z
/-- more that does not change, more objects -/
theorem Rel.ext (R : Rel K F G σ H sl) (e : Same G G') (ex : Same G' H') (eh : Same H H') (gn : ∀ a o, G' a = some o → G a = some o ∨ H a = none) : Rel K F G' σ H' sl := by
  obtain ⟨as, s⟩ := R.sls
  have nn : ∀ a, (∃ o, H a = some o) → G a = none → G' a = none := fun a ⟨o, ho⟩ hg => by
    cases q : G' a with
    | none => rfl
    | some u =>
      rcases gn a u q with z | z
      · rw [hg] at z; cases z
      · rw [ho] at z; cases z
  refine ⟨ex, fun b o q => e b o (R.g0 b o q), fun b o q hp => eh b o (R.fr b o q hp), fun b o q => ?_, fun q hq => ?_, as, s.heap e (fun b _ o q => eh b o q) fun b hb => ?_⟩
  · rcases gn b o q with z | z
    · exact R.gn b o z
    · exact .inr (R.new0 z).1
  · obtain ⟨h1, h2⟩ := R.hand q hq
    exact ⟨h1.to e (eh q), nn q h1.there h2⟩
  · obtain ⟨h1, h2, _⟩ := s.owned b hb
    exact nn b h1 h2
theorem same_new {H : Hp} {a : Addr} {o : HO} (h : H a = none) : Same H (upd H a o) := fun b u e => by rw [upd_ne (ne_of_none e h)]; exact e
theorem same_both {G H : Hp} {a : Addr} {o : HO} (e : Same G H) : Same (upd G a o) (upd H a o) := fun b u q => by
  by_cases hb : b = a
  · subst hb
    rw [upd_same] at q ⊢
    exact q
  · rw [upd_ne hb] at q ⊢
    exact e b u q
/-- a new object that will not change -/
theorem Rel.lay (R : Rel K F G σ H sl) (h : H a = none) (o : HO) : Same G (upd G a o) ∧ Rel K F (upd G a o) σ (upd H a o) sl :=
  ⟨same_new (R.ex.free h), R.ext (same_new (R.ex.free h)) (same_both R.ex) (same_new h) fun b u q => by
    by_cases hb : b = a
    · subst hb
      exact .inr h
    · rw [upd_ne hb] at q
      exact .inl q⟩
/-- a new object of one's own: at the front -/
theorem Rel.own (R : Rel K F G σ H sl) (h : H a = none) (o : HO) (ow : OwnAt K G (upd H a o) a d) : Rel K F G (some (.ref a) :: σ) (upd H a o) (.own d :: sl) := by
  have R' : Rel K F G σ (upd H a o) sl := R.ext (fun _ _ q => q) (fun b u q => same_new h b u (R.ex b u q)) (same_new h) fun b u q => .inl q
  obtain ⟨n1, n2, n3⟩ := R.new0 h
  obtain ⟨as, s⟩ := R.sls
  obtain ⟨h1, h2, h3, h4, h5, _⟩ := R'
  refine ⟨h1, h2, h3, h4, h5, a :: as, .own ow n3 n1 n2 (fun z => ?_) (s.heap (fun _ _ q => q) (fun b _ u q => same_new h b u q) fun b hb => (s.owned b hb).2.1)⟩
  obtain ⟨⟨u, hu⟩, _⟩ := s.owned a z
  rw [h] at hu
  cases hu
theorem Rel.put {v : V} (R : Rel K F G σ H sl) (r : Rp K G v d) (i : Nat) : Rel K F G (σ.set i (some v)) H (sl.set i (.val d)) := by
  obtain ⟨h1, h2, h3, h4, h5, as, s⟩ := R
  obtain ⟨as', _, s'⟩ := s.put r i
  exact ⟨h1, h2, h3, h4, h5, as', s'⟩
theorem Rel.forget (R : Rel K F G σ H sl) (i : Nat) (x : Option V) : Rel K F G (σ.set i x) H (sl.set i .un) := by
  obtain ⟨h1, h2, h3, h4, h5, as, s⟩ := R
  obtain ⟨as', _, s'⟩ := s.forget i x
  exact ⟨h1, h2, h3, h4, h5, as', s'⟩
/-- the front away -/
theorem Rel.tail {x : Option V} {y : Slot} (R : Rel K F G (x :: σ) H (y :: sl)) : Rel K F G σ H sl := by
  obtain ⟨h1, h2, h3, h4, h5, as, s⟩ := R
  cases s with
  | un t => exact ⟨h1, h2, h3, h4, h5, _, t⟩
  | val _ t => exact ⟨h1, h2, h3, h4, h5, _, t⟩
  | own _ _ _ _ _ t => exact ⟨h1, h2, h3, h4, h5, _, t⟩
  | hand _ t => exact ⟨h1, h2, h3, h4, h5, _, t⟩
/-- a value at the front -/
theorem Rel.front {v : V} (R : Rel K F G σ H sl) (r : Rp K G v d) : Rel K F G (some v :: σ) H (.val d :: sl) := by
  obtain ⟨h1, h2, h3, h4, h5, as, s⟩ := R
  exact ⟨h1, h2, h3, h4, h5, as, .val r s⟩
theorem Rel.frontVal {x : Option V} (R : Rel K F G (x :: σ) H (.val d :: sl)) : ∃ v, x = some v ∧ Rp K G v d := by
  obtain ⟨as, s⟩ := R.sls
  cases s with
  | val r t => exact ⟨_, rfl, r⟩
theorem Rel.frontOwn {x : Option V} (R : Rel K F G (x :: σ) H (.own d :: sl)) : ∃ a, x = some (.ref a) ∧ OwnAt K G H a d ∧ G a = none ∧ F.H0 a = none ∧ F.p ≠ some a := by
  obtain ⟨as, s⟩ := R.sls
  cases s with
  | own h1 h2 h3 h4 h5 t => exact ⟨_, rfl, h1, h2, h3, h4⟩
/-- the front's own object goes into a slot -/
theorem Rel.putOwn (R : Rel K F G (some (.ref a) :: σ) H (.own d :: sl)) (i : Nat) : Rel K F G (σ.set i (some (.ref a))) H (sl.set i (.own d)) := by
  obtain ⟨h1, h2, h3, h4, h5, as, s⟩ := R
  cases s with
  | own o g h0 p m t =>
    obtain ⟨as', _, s'⟩ := Sls.putOwn o g h0 p t i m
    exact ⟨h1, h2, h3, h4, h5, as', s'⟩
/-- a slot's own object comes to the front -/
theorem Rel.take (R : Rel K F G σ H sl) (h : sl[i]? = some (.own d)) : ∃ a, σ[i]? = some (some (.ref a)) ∧ Rel K F G (some (.ref a) :: σ) H (.own d :: sl.set i .un) := by
  obtain ⟨h1, h2, h3, h4, h5, as, s⟩ := R
  obtain ⟨a, as', e, o, g, h0, p, m, _, _, t⟩ := s.take h
  exact ⟨a, e, h1, h2, h3, h4, h5, a :: as', .own o g h0 p m t⟩
theorem Rel.back (R : Rel K F G (some (.ref a) :: σ) H (.own d :: sl.set i .un)) (e : σ[i]? = some (some (.ref a))) : Rel K F G σ H (sl.set i (.own d)) := by
  have q := R.putOwn i
  rw [set_same e, List.set_set] at q
  exact q
/-- the front's own object changes -/
theorem Rel.turn {d' : D} {o : HO} (R : Rel K F G (some (.ref a) :: σ) H (.own d :: sl)) (ow : OwnAt K G (upd H a o) a d') : Rel K F G (some (.ref a) :: σ) (upd H a o) (.own d' :: sl) := by
  obtain ⟨h1, h2, h3, h4, h5, as, s⟩ := R
  cases s with
  | own ow0 g h0 p m t =>
    have ne : ∀ b u, G b = some u → b ≠ a := fun b u q z => by rw [z, g] at q; cases q
    refine ⟨fun b u q => by rw [upd_ne (ne b u q)]; exact h1 b u q, h2, fun b u q hp => ?_, h4, fun q hq => ?_, _, .own ow g h0 p m (t.heap (fun _ _ q => q) (fun b hb u q => ?_) fun b hb => (t.owned b hb).2.1)⟩
    · rw [upd_ne (fun z => by rw [z, h0] at q; cases q)]
      exact h3 b u q hp
    · obtain ⟨k1, k2⟩ := h5 q hq
      exact ⟨k1.to (fun _ _ q => q) fun u z => by rw [upd_ne (fun z => p (by rw [hq, z]))]; exact z, k2⟩
    · rw [upd_ne (fun z => m (by rw [← z]; exact hb))]
      exact q
/-- the front's own object is closed: it will not change any more -/
theorem Rel.close (R : Rel K F G (some (.ref a) :: σ) H (.own d :: sl)) : ∃ G', Same G G' ∧ Rel K F G' σ H sl ∧ Rp K G' (.ref a) d ∧ (∀ b u, G' b = some u → G b = some u ∨ b = a) := by
  obtain ⟨h1, h2, h3, h4, h5, as, s⟩ := R
  cases s with
  | own ow g h0 p m t =>
    have go : ∀ o, H a = some o → Same G (upd G a o) ∧ Rel K F (upd G a o) σ H sl := fun o ho =>
      ⟨same_new g, fun b u q => by
        by_cases hb : b = a
        · subst hb
          rw [upd_same] at q
          cases q
          exact ho
        · rw [upd_ne hb] at q
          exact h1 b u q, fun b u q => same_new g b u (h2 b u q), h3, fun b u q => by
        by_cases hb : b = a
        · subst hb
          exact .inr h0
        · rw [upd_ne hb] at q
          exact h4 b u q, fun q hq => ⟨(h5 q hq).1.to (same_new g) fun _ z => z, by rw [upd_ne (fun z => p (by rw [hq, z]))]; exact (h5 q hq).2⟩, _,
        t.heap (same_new g) (fun _ _ _ z => z) fun b hb => by rw [upd_ne (fun z => m (by rw [← z]; exact hb))]; exact (t.owned b hb).2.1⟩
    have only : ∀ o b u, upd G a o b = some u → G b = some u ∨ b = a := fun o b u q => by
      by_cases hb : b = a
      · exact .inr hb
      · rw [upd_ne hb] at q
        exact .inl q
    cases d with
    | lst ds =>
      obtain ⟨xs, e1, e2⟩ := ow
      exact ⟨_, (go _ e1).1, (go _ e1).2, .lst upd_same (e2.mono (go _ e1).1), only _⟩
    | dic ks ds =>
      obtain ⟨xs, e1, e2, e3⟩ := ow
      exact ⟨_, (go _ e1).1, (go _ e1).2, .dic upd_same e2 (e3.mono (go _ e1).1), only _⟩
    | obj C ns ds =>
      obtain ⟨dx, xs, e1, e2, e3⟩ := ow
      exact ⟨_, (go _ e1).1, (go _ e1).2, .obj upd_same e2 (e3.mono (go _ e1).1), only _⟩
    | _ => exact ow.elim
theorem Rel.valAt (R : Rel K F G σ H sl) (h : sl[i]? = some (.val d)) : ∃ v, σ[i]? = some (some v) ∧ Rp K G v d := by
  obtain ⟨as, s⟩ := R.sls
  exact s.valAt h
theorem Rel.handIn (R : Rel K F G σ H sl) (h : sl[i]? = some .hand) : ∃ q, F.p = some q ∧ σ[i]? = some (some (.ref q)) ∧ HandAt K G H q ∧ G q = none := by
  obtain ⟨as, s⟩ := R.sls
  obtain ⟨q, h1, h2⟩ := s.handAt h
  exact ⟨q, h1, h2, R.hand q h1⟩
end
end Dx
namespace Dx
open PySem L2
/-! ### readings over trees -/
/-- what is wanted of an exception: its tree, the slots -/
abbrev XP := D → Sl → Prop
abbrev DE := Sl → XP → (D → Sl → Prop) → Prop
abbrev DT := Sl → XP → (Bool → Sl → Prop) → Prop
abbrev DA := Sl → XP → (List D → Sl → Prop) → Prop
/-- an exception of the class at C with its own dict -/
def ExnAt (K : Fg) (G H : Hp) (cls : Value) (dd : Option Addr) : D → Prop
  | .obj C ns ds => cls = .ref C ∧ ((ns = [] ∧ ds = [] ∧ dd = none) ∨ ∃ d fs, dd = some d ∧ H d = some (.xd fs) ∧ fs.map (·.1) = ns ∧ RpL K G (fs.map (·.2)) ds)
  | _ => False
/-- what the wish W asks at an exception x -/
def Thrown (K : Fg) (F : Fx) (W : WX) (G : Hp) (E : XP) : Prop := ∀ x sl', E x sl' → ∀ G' σ' H' cls dd, Same G G' → Rel K F G' σ' H' sl' → ExnAt K G' H' cls dd x → W cls dd σ' H'
theorem Thrown.mono {K : Fg} {F : Fx} {W : WX} {G G' : Hp} {E : XP} (h : Thrown K F W G E) (e : Same G G') : Thrown K F W G' E := fun x sl q G1 σ1 H1 c d s R z => h x sl q G1 σ1 H1 c d (e.trans s) R z
def LE (K : Fg) (F : Fx) (W : WX) (δ : DE) : TE := fun σ H Q => ∃ G sl E P, Rel K F G σ H sl ∧ δ sl E P ∧ (∀ d sl', P d sl' → ∀ G' H' v, Same G G' → Rel K F G' σ H' sl' → Rp K G' v d → Q v H') ∧ Thrown K F W G E
def LT (K : Fg) (F : Fx) (W : WX) (δ : DT) : TT := fun σ H Q => ∃ G sl E P, Rel K F G σ H sl ∧ δ sl E P ∧ (∀ b sl', P b sl' → ∀ G' H', Same G G' → Rel K F G' σ H' sl' → Q b H') ∧ Thrown K F W G E
def LA (K : Fg) (F : Fx) (W : WX) (δ : DA) : TA := fun σ H Q => ∃ G sl E P, Rel K F G σ H sl ∧ δ sl E P ∧ (∀ ds sl', P ds sl' → ∀ G' H' vs, Same G G' → Rel K F G' σ H' sl' → RpL K G' vs ds → Q vs H') ∧ Thrown K F W G E
/-- a new object of one's own -/
def LN (K : Fg) (F : Fx) (W : WX) (δ : DE) : TE := fun σ H Q => ∃ G sl E P, Rel K F G σ H sl ∧ δ sl E P ∧ (∀ d sl', P d sl' → ∀ G' H' a, Same G G' → Rel K F G' (some (.ref a) :: σ) H' (.own d :: sl') → Q (.ref a) H') ∧ Thrown K F W G E
structure QE (X : Cx) (F : Fx) (W : WX) (e : Expr) (δ : DE) : Prop where
  run : PE X e (LE X.K F W δ)
structure QN (X : Cx) (F : Fx) (W : WX) (e : Expr) (δ : DE) : Prop where
  run : PE X e (LN X.K F W δ)
structure QT (X : Cx) (F : Fx) (W : WX) (e : Expr) (δ : DT) : Prop where
  run : PT X e (LT X.K F W δ)
structure QW (X : Cx) (F : Fx) (W : WX) (e : Expr) (δ : DT) : Prop where
  run : PW X e (LT X.K F W δ)
structure QA (X : Cx) (F : Fx) (W : WX) (es : List Expr) (δ : DA) : Prop where
  run : PA X es (LA X.K F W δ)
theorem pe_imp {X : Cx} {e : Expr} {t t' : TE} (h : PE X e t) (i : ∀ σ H Q, t' σ H Q → t σ H Q) : PE X e t' := ⟨fun pins s σ H Q I q => h.run pins s σ H Q I (i σ H Q q)⟩
theorem pt_imp {X : Cx} {e : Expr} {t t' : TT} (h : PT X e t) (i : ∀ σ H Q, t' σ H Q → t σ H Q) : PT X e t' := ⟨fun pins s σ H Q I q => h.run pins s σ H Q I (i σ H Q q)⟩
theorem pw_imp {X : Cx} {e : Expr} {t t' : TT} (h : PW X e t) (i : ∀ σ H Q, t' σ H Q → t σ H Q) : PW X e t' := ⟨fun wh pins s σ H Q I q => h.run wh pins s σ H Q I (i σ H Q q)⟩
theorem pa_imp {X : Cx} {e : List Expr} {t t' : TA} (h : PA X e t) (i : ∀ σ H Q, t' σ H Q → t σ H Q) : PA X e t' := ⟨fun pos pins s σ H Q I q => h.run pos pins s σ H Q I (i σ H Q q)⟩
/-- G and H have grown -/
structure Grown (G H G' H' : Hp) : Prop where
  g : Same G G'
  x : Same G' H'
  h : Same H H'
  n : ∀ a o, G' a = some o → G a = some o ∨ H a = none
section
variable {K : Fg} {F : Fx} {W : WX} {G H : Hp} {σ : L2.St} {sl : Sl}
theorem Grown.refl (e : Same G H) : Grown G H G H := ⟨Same.refl _, e, Same.refl _, fun _ _ h => .inl h⟩
theorem Rel.grown {G' H' : Hp} (R : Rel K F G σ H sl) (g : Grown G H G' H') : Rel K F G' σ H' sl := R.ext g.g g.x g.h g.n
theorem Grown.new {a : Addr} (e : Same G H) (h : H a = none) (o : HO) : Grown G H (upd G a o) (upd H a o) :=
  ⟨same_new (e.free h), same_both e, same_new h, fun b u q => by
    by_cases hb : b = a
    · subst hb
      exact .inr h
    · rw [upd_ne hb] at q
      exact .inl q⟩
/-- an object beside that nothing speaks of -/
theorem Grown.junk {a : Addr} (e : Same G H) (h : H a = none) (o : HO) : Grown G H G (upd H a o) :=
  ⟨Same.refl _, fun b u q => same_new h b u (e b u q), same_new h, fun _ _ q => .inl q⟩
end

/-! ### two-place and one-place operations -/
abbrev O2 := D → D → (D → Prop) → Prop
abbrev O1 := D → (D → Prop) → Prop
abbrev OA := List D → (D → Prop) → Prop
def Rf2 (K : Fg) (r : R2) (ρ : O2) : Prop := ∀ (G H : Hp) (x y : V) (d e : D) (P : D → Prop) (Q : VK), Same G H → Rp K G x d → Rp K G y e → ρ d e P → (∀ f, P f → ∀ G' H' v, Grown G H G' H' → Rp K G' v f → Q v H') → r x y H Q
def Rf1 (K : Fg) (r : V → Hp → VK → Prop) (ρ : O1) : Prop := ∀ (G H : Hp) (x : V) (d : D) (P : D → Prop) (Q : VK), Same G H → Rp K G x d → ρ d P → (∀ f, P f → ∀ G' H' v, Grown G H G' H' → Rp K G' v f → Q v H') → r x H Q
def RfA (K : Fg) (r : List V → Hp → VK → Prop) (ρ : OA) : Prop := ∀ (G H : Hp) (xs : List V) (ds : List D) (P : D → Prop) (Q : VK), Same G H → RpL K G xs ds → ρ ds P → (∀ f, P f → ∀ G' H' v, Grown G H G' H' → Rp K G' v f → Q v H') → r xs H Q
def dOp (ρ : O2) (α β : DE) : DE := fun sl E P => α sl E fun d sl1 => β sl1 E fun e sl2 => ρ d e fun f => P f sl2
def dUn (ρ : O1) (α : DE) : DE := fun sl E P => α sl E fun d sl1 => ρ d fun f => P f sl1
def dCl (ρ : OA) (α : DA) : DE := fun sl E P => α sl E fun ds sl1 => ρ ds fun f => P f sl1
section
variable {X : Cx} {F : Fx} {W : WX} {a b c e : Expr} {es : List Expr} {α β γ : DE} {pos : Pos} {i : Nat} {x : Str}
theorem LE.op {r : R2} {ρ : O2} (hr : Rf2 X.K r ρ) {σ : L2.St} {H : Hp} {Q : VK} (h : LE X.K F W (dOp ρ α β) σ H Q) : tOp r (LE X.K F W α) (LE X.K F W β) σ H Q := by
  obtain ⟨G, sl, E, P, R, h, k, kx⟩ := h
  refine ⟨G, sl, E, _, R, h, fun d sl1 h1 G1 H1 v1 s1 R1 r1 => ⟨G1, sl1, E, _, R1, h1, fun d2 sl2 h2 G2 H2 v2 s2 R2 r2 => ?_, kx.mono s1⟩, kx⟩
  exact hr G2 H2 v1 v2 d d2 _ _ R2.ex (r1.mono s2) r2 h2 fun f hf G3 H3 v3 g r3 => k f sl2 hf G3 H3 v3 (s1.trans (s2.trans g.g)) (R2.grown g) r3
theorem qe_op {op : Operator} {r : R2} {ρ : O2} (ho : OpR X (binaryOp op) r) (hr : Rf2 X.K r ρ) (ha : QE X F W a α) (hb : QE X F W b β) : QE X F W (.BinOp a op b pos) (dOp ρ α β) :=
  ⟨pe_imp (pe_op ho ha.run hb.run) fun _ _ _ h => h.op hr⟩
theorem qe_un {op : UnaryOp} {r : V → Hp → VK → Prop} {ρ : O1} (ho : UnR X (unaryOp op) r) (hr : Rf1 X.K r ρ) (ha : QE X F W a α) : QE X F W (.UnaryOp op a pos) (dUn ρ α) :=
  ⟨pe_imp (pe_un ho ha.run) fun σ H Q h => by
    obtain ⟨G, sl, E, P, R, h, k, kx⟩ := h
    exact ⟨G, sl, E, _, R, h, fun d sl1 h1 G1 H1 v1 s1 R1 r1 => hr G1 H1 v1 d _ _ R1.ex r1 h1 fun f hf G3 H3 v3 g r3 => k f sl1 hf G3 H3 v3 (s1.trans g.g) (R1.grown g) r3, kx⟩⟩
/-- a comparison -/
theorem qe_cmp {op : CmpOp} {r : R2} {ρ : O2} (ho : OpR X (compareOp op) r) (hr : Rf2 X.K r ρ) (ha : QE X F W a α) (hb : QE X F W b β) (hm : behindInMarks op b = false) : QE X F W (.Compare a [op] [b] pos) (dOp ρ α β) :=
  ⟨pe_imp (pe_cmpR ho ha.run hb.run hm) fun _ _ _ h => h.op hr⟩
/-- what gives True or False, as a test -/
def dTest (α : DE) : DT := fun sl E P => α sl E fun d sl1 => ∃ k, d = .bl k ∧ P k sl1
theorem qt_cmp {op : CmpOp} {r : R2} {ρ : O2} (ho : OpR X (compareOp op) r) (hr : Rf2 X.K r ρ) (ha : QE X F W a α) (hb : QE X F W b β) (hm : behindInMarks op b = false) : QT X F W (.Compare a [op] [b] pos) (dTest (dOp ρ α β)) :=
  ⟨pt_imp (pt_cmpR ho ha.run hb.run hm) fun σ H Q h => by
    obtain ⟨G, sl, E, P, R, h, k, kx⟩ := h
    refine LE.op (W := W) (F := F) hr (Q := fun x H' => ∃ k, x = .bl k ∧ Q k H') ⟨G, sl, E, _, R, h, fun d sl1 h1 G1 H1 v1 s1 R1 r1 => ?_, kx⟩
    obtain ⟨c, rfl, p⟩ := h1
    cases r1
    exact ⟨c, rfl, k c sl1 p G1 H1 s1 R1⟩⟩
theorem qt_val (h : QE X F W e α) (he : ∀ whole, isTrue e X.env whole = (do let v ← whole; standAt e.pos; holding [v] (truthy v)) := by intro _; rfl) : QT X F W e (dTest α) :=
  ⟨pt_imp (pt_val h.run he) fun σ H Q h => by
    obtain ⟨G, sl, E, P, R, h, k, kx⟩ := h
    refine ⟨G, sl, E, _, R, h, fun d sl1 h1 G1 H1 v1 s1 R1 r1 => ?_, kx⟩
    obtain ⟨c, rfl, p⟩ := h1
    cases r1
    exact ⟨c, rfl, k c sl1 p G1 H1 s1 R1⟩⟩
/-- a < b < c -/
def dChain (ρ ρ' : O2) (α β γ : DE) : DE := fun sl E P => α sl E fun d sl1 => β sl1 E fun e sl2 => ρ d e fun z => ∃ k, z = .bl k ∧ if k = true then γ sl2 E fun f sl3 => ρ' e f fun z' => P z' sl3 else P (.bl false) sl2

/-! ### names, constants -/
def dC (d : D) : DE := fun sl _ P => P d sl
def dVar (i : Nat) : DE := fun sl _ P => match sl[i]? with
  | some (.val d) => P d sl
  | some (.own d) => P d (sl.set i (.val d))
  | _ => False
theorem qe_var (hp : PE X e (tVar i)) : QE X F W e (dVar i) :=
  ⟨pe_imp hp fun σ H Q h => by
    obtain ⟨G, sl, E, P, R, h, k, kx⟩ := h
    unfold dVar at h
    split at h
    · rename_i d hd
      obtain ⟨v, e1, r⟩ := R.valAt hd
      exact ⟨v, e1, k d sl h G H v (Same.refl _) R r⟩
    · rename_i d hd
      obtain ⟨a, e1, R1⟩ := R.take hd
      obtain ⟨G', s, R2, r, _⟩ := R1.close
      have R3 := R2.put r i
      rw [set_same e1, List.set_set] at R3
      exact ⟨_, e1, k d _ h G' H _ s R3 r⟩
    · exact h.elim⟩
theorem qe_const {v : V} {d : D} (hp : PE X e (tC v)) (r : ∀ G, Rp X.K G v d) : QE X F W e (dC d) :=
  ⟨pe_imp hp fun σ H Q h => by
    obtain ⟨G, sl, E, P, R, h, k, kx⟩ := h
    exact k d sl h G H v (Same.refl _) R (r G)⟩
theorem qe_int {n : Int} {j pos} : QE X F W (.Constant (.int n) j pos) (dC (.int n)) := qe_const pe_int fun _ => .int n
theorem qe_bl {n : Bool} {j pos} : QE X F W (.Constant (.bool n) j pos) (dC (.bl n)) := qe_const pe_bl fun _ => .bl n
theorem qe_non {j pos} : QE X F W (.Constant .none j pos) (dC .non) := qe_const pe_non fun _ => .non
theorem qe_str {n : Str} {j pos} : QE X F W (.Constant (.str n) j pos) (dC (.str n)) := qe_const pe_str fun _ => .str n
/-- an argument list -/
def dNil : DA := fun sl _ P => P [] sl
def dCons (α : DE) (τ : DA) : DA := fun sl E P => α sl E fun d sl1 => τ sl1 E fun ds sl2 => P (d :: ds) sl2
theorem qa_nil : QA X F W [] dNil := ⟨pa_imp pa_nil fun σ H Q h => by
  obtain ⟨G, sl, E, P, R, h, k, kx⟩ := h
  exact k [] sl h G H [] (Same.refl _) R .nil⟩
theorem qa_cons {τ : DA} (ha : QE X F W e α) (hr : QA X F W es τ) (hs : starEach (e :: es) X.env = (false, eval e X.env) :: starEach es X.env := by rfl) : QA X F W (e :: es) (dCons α τ) :=
  ⟨pa_imp (pa_cons ha.run hr.run hs) fun σ H Q h => by
    obtain ⟨G, sl, E, P, R, h, k, kx⟩ := h
    refine ⟨G, sl, E, _, R, h, fun d sl1 h1 G1 H1 v1 s1 R1 r1 => ⟨G1, sl1, E, _, R1, h1, fun ds sl2 h2 G2 H2 vs s2 R2 r2 => ?_, kx.mono s1⟩, kx⟩
    exact k (d :: ds) sl2 h2 G2 H2 (v1 :: vs) (s1.trans s2) R2 (.cons (r1.mono s2) r2)⟩
/-- displays -/
def dTup (τ : DA) : DE := fun sl E P => τ sl E fun ds sl1 => ds.length ≤ sizeLine ∧ P (.tup ds) sl1
def dLst (τ : DA) : DE := fun sl E P => τ sl E fun ds sl1 => ds.length ≤ sizeLine ∧ P (.lst ds) sl1
theorem qe_tup {x1} {τ : DA} (h : QA X F W es τ) : QE X F W (.Tuple es x1 pos) (dTup τ) :=
  ⟨pe_imp (pe_tup h.run) fun σ H Q h => by
    obtain ⟨G, sl, E, P, R, h, k, kx⟩ := h
    refine ⟨G, sl, E, _, R, h, fun ds sl1 h1 G1 H1 vs s1 R1 r1 => ⟨by rw [r1.length]; exact h1.1, fun p hp => ?_⟩, kx⟩
    have g := Grown.new R1.ex hp (.tup vs)
    exact k _ sl1 h1.2 _ _ _ (s1.trans g.g) (R1.grown g) (.tup (SqT.of upd_same) (r1.mono g.g))⟩
theorem qe_lst {τ : DA} (h : QA X F W es τ) : QE X F W (.List es pos) (dLst τ) :=
  ⟨pe_imp (pe_lst h.run) fun σ H Q h => by
    obtain ⟨G, sl, E, P, R, h, k, kx⟩ := h
    refine ⟨G, sl, E, _, R, h, fun ds sl1 h1 G1 H1 vs s1 R1 r1 => ⟨by rw [r1.length]; exact h1.1, fun p hp => ?_⟩, kx⟩
    have g := Grown.new R1.ex hp (.lst vs)
    exact k _ sl1 h1.2 _ _ _ (s1.trans g.g) (R1.grown g) (.lst upd_same (r1.mono g.g))⟩
theorem qn_lst {τ : DA} (h : QA X F W es τ) : QN X F W (.List es pos) (dLst τ) :=
  ⟨pe_imp (pe_lst h.run) fun σ H Q h => by
    obtain ⟨G, sl, E, P, R, h, k, kx⟩ := h
    refine ⟨G, sl, E, _, R, h, fun ds sl1 h1 G1 H1 vs s1 R1 r1 => ⟨by rw [r1.length]; exact h1.1, fun p hp => ?_⟩, kx⟩
    exact k _ sl1 h1.2 _ _ _ s1 (R1.own hp (.lst vs) ⟨vs, upd_same, r1⟩)⟩
/-- a if t else b -/
def dIf (τ : DT) (α β : DE) : DE := fun sl E P => τ sl E fun k sl1 => if k = true then α sl1 E P else β sl1 E P
theorem qe_ifExp {τ : DT} (ht : QT X F W c τ) (ha : QE X F W a α) (hb : QE X F W b β) : QE X F W (.IfExp c a b pos) (dIf τ α β) :=
  ⟨pe_imp (pe_ifExp ht.run ha.run hb.run) fun σ H Q h => by
    obtain ⟨G, sl, E, P, R, h, k, kx⟩ := h
    refine ⟨G, sl, E, _, R, h, fun b sl1 h1 G1 H1 s1 R1 => ?_, kx⟩
    cases b with
    | true => exact ⟨G1, sl1, E, P, R1, h1, fun d sl2 p G2 H2 v s2 R2 r => k d sl2 p G2 H2 v (s1.trans s2) R2 r, kx.mono s1⟩
    | false => exact ⟨G1, sl1, E, P, R1, h1, fun d sl2 p G2 H2 v s2 R2 r => k d sl2 p G2 H2 v (s1.trans s2) R2 r, kx.mono s1⟩⟩

/-! ### and, or, not -/
def dAnd (τ υ : DT) : DT := fun sl E P => τ sl E fun k sl1 => if k = true then υ sl1 E P else P false sl1
def dOr (τ υ : DT) : DT := fun sl E P => τ sl E fun k sl1 => if k = true then P true sl1 else υ sl1 E P
def dNot (τ : DT) : DT := fun sl E P => τ sl E fun k sl1 => P (!k) sl1
variable {τ υ : DT} {rest : List Expr}
theorem qw_and1 (h : QT X F W a τ) : QW X F W (.BoolOp .And [a] pos) τ := ⟨pw_and1 h.run⟩
theorem qw_or1 (h : QT X F W a τ) : QW X F W (.BoolOp .Or [a] pos) τ := ⟨pw_or1 h.run⟩
theorem LT.cond {σ : L2.St} {H : Hp} {Q : Bool → Hp → Prop} {G : Hp} {sl : Sl} {E : XP} {P : Bool → Sl → Prop} (R : Rel X.K F G σ H sl) (h : υ sl E P) (k : ∀ b sl', P b sl' → ∀ G' H', Same G G' → Rel X.K F G' σ H' sl' → Q b H')
    (kx : Thrown X.K F W G E) : LT X.K F W υ σ H Q := ⟨G, sl, E, P, R, h, k, kx⟩
theorem qw_and (ha : QT X F W a τ) (hb : QW X F W (.BoolOp .And (b :: rest) pos) υ) : QW X F W (.BoolOp .And (a :: b :: rest) pos) (dAnd τ υ) :=
  ⟨pw_imp (pw_and ha.run hb.run) fun σ H Q h => by
    obtain ⟨G, sl, E, P, R, h, k, kx⟩ := h
    refine ⟨G, sl, E, _, R, h, fun c sl1 h1 G1 H1 s1 R1 => ?_, kx⟩
    cases c with
    | true => exact ⟨G1, sl1, E, P, R1, h1, fun b sl2 p G2 H2 s2 R2 => k b sl2 p G2 H2 (s1.trans s2) R2, kx.mono s1⟩
    | false => exact k false sl1 h1 G1 H1 s1 R1⟩
theorem qw_or (ha : QT X F W a τ) (hb : QW X F W (.BoolOp .Or (b :: rest) pos) υ) : QW X F W (.BoolOp .Or (a :: b :: rest) pos) (dOr τ υ) :=
  ⟨pw_imp (pw_or ha.run hb.run) fun σ H Q h => by
    obtain ⟨G, sl, E, P, R, h, k, kx⟩ := h
    refine ⟨G, sl, E, _, R, h, fun c sl1 h1 G1 H1 s1 R1 => ?_, kx⟩
    cases c with
    | true => exact k true sl1 h1 G1 H1 s1 R1
    | false => exact ⟨G1, sl1, E, P, R1, h1, fun b sl2 p G2 H2 s2 R2 => k b sl2 p G2 H2 (s1.trans s2) R2, kx.mono s1⟩⟩
theorem QW.qt (h : QW X F W e τ) : QT X F W e τ := ⟨h.run.pt⟩
theorem qt_not (h : QT X F W a τ) : QT X F W (.UnaryOp .Not a pos) (dNot τ) :=
  ⟨pt_imp (pt_not h.run) fun σ H Q h => by
    obtain ⟨G, sl, E, P, R, h, k, kx⟩ := h
    exact ⟨G, sl, E, _, R, h, fun c sl1 h1 G1 H1 s1 R1 => k _ sl1 h1 G1 H1 s1 R1, kx⟩⟩
/-- .. as values -/
def dAndV (α β : DE) : DE := fun sl E P => α sl E fun d sl1 => ∃ k, d = .bl k ∧ if k = true then β sl1 E P else P (.bl false) sl1
def dOrV (α β : DE) : DE := fun sl E P => α sl E fun d sl1 => ∃ k, d = .bl k ∧ if k = true then P (.bl true) sl1 else β sl1 E P
def dNotV (α : DE) : DE := fun sl E P => α sl E fun d sl1 => ∃ k, d = .bl k ∧ P (.bl (!k)) sl1
theorem qe_one {op} (h : QE X F W a α) : QE X F W (.BoolOp op [a] pos) α := ⟨pe_one h.run⟩
theorem qe_and (ha : QE X F W a α) (hb : QE X F W (.BoolOp .And (b :: rest) pos) β) : QE X F W (.BoolOp .And (a :: b :: rest) pos) (dAndV α β) :=
  ⟨pe_imp (pe_and ha.run hb.run) fun σ H Q h => by
    obtain ⟨G, sl, E, P, R, h, k, kx⟩ := h
    refine ⟨G, sl, E, _, R, h, fun d sl1 h1 G1 H1 v1 s1 R1 r1 => ?_, kx⟩
    obtain ⟨c, rfl, h1⟩ := h1
    cases r1
    refine ⟨c, rfl, ?_⟩
    cases c with
    | true => exact ⟨G1, sl1, E, P, R1, h1, fun d sl2 p G2 H2 v s2 R2 r => k d sl2 p G2 H2 v (s1.trans s2) R2 r, kx.mono s1⟩
    | false => exact k _ sl1 h1 G1 H1 _ s1 R1 (.bl false)⟩
theorem qe_or (ha : QE X F W a α) (hb : QE X F W (.BoolOp .Or (b :: rest) pos) β) : QE X F W (.BoolOp .Or (a :: b :: rest) pos) (dOrV α β) :=
  ⟨pe_imp (pe_or ha.run hb.run) fun σ H Q h => by
    obtain ⟨G, sl, E, P, R, h, k, kx⟩ := h
    refine ⟨G, sl, E, _, R, h, fun d sl1 h1 G1 H1 v1 s1 R1 r1 => ?_, kx⟩
    obtain ⟨c, rfl, h1⟩ := h1
    cases r1
    refine ⟨c, rfl, ?_⟩
    cases c with
    | true => exact k _ sl1 h1 G1 H1 _ s1 R1 (.bl true)
    | false => exact ⟨G1, sl1, E, P, R1, h1, fun d sl2 p G2 H2 v s2 R2 r => k d sl2 p G2 H2 v (s1.trans s2) R2 r, kx.mono s1⟩⟩
theorem qe_not (ha : QE X F W a α) : QE X F W (.UnaryOp .Not a pos) (dNotV α) :=
  ⟨pe_imp (pe_not ha.run) fun σ H Q h => by
    obtain ⟨G, sl, E, P, R, h, k, kx⟩ := h
    refine ⟨G, sl, E, _, R, h, fun d sl1 h1 G1 H1 v1 s1 R1 r1 => ?_, kx⟩
    obtain ⟨c, rfl, h1⟩ := h1
    cases r1
    exact ⟨c, rfl, k _ sl1 h1 G1 H1 _ s1 R1 (.bl _)⟩⟩
end
end Dx
namespace Dx
open PySem L2
/-! ### statements -/
inductive Ret where
  | val (d : D) | own (d : D)
def Ret.slot : Ret → Slot
  | .val d => .val d
  | .own d => .own d
structure DEnds where
  nx : Sl → Prop
  rt : Ret → Prop
  bk : Sl → Prop
  ct : Sl → Prop
  ex : XP
abbrev DS := DEnds → Sl → Prop
structure Fits (K : Fg) (F : Fx) (W : WX) (G : Hp) (De : DEnds) (D : Ends) : Prop where
  nx : ∀ sl', De.nx sl' → ∀ G' σ' H', Same G G' → Rel K F G' σ' H' sl' → D.nx σ' H'
  bk : ∀ sl', De.bk sl' → ∀ G' σ' H', Same G G' → Rel K F G' σ' H' sl' → D.bk σ' H'
  ct : ∀ sl', De.ct sl' → ∀ G' σ' H', Same G G' → Rel K F G' σ' H' sl' → D.ct σ' H'
  rt : ∀ r, De.rt r → ∀ G' H' v, Same G G' → Rel K F G' [some v] H' [r.slot] → D.rt v H'
  ex : Thrown K F W G De.ex
theorem Fits.mono {K : Fg} {F : Fx} {W : WX} {G G' : Hp} {De : DEnds} {D : Ends} (h : Fits K F W G De D) (e : Same G G') : Fits K F W G' De D :=
  ⟨fun sl q G1 σ1 H1 s R => h.nx sl q G1 σ1 H1 (e.trans s) R, fun sl q G1 σ1 H1 s R => h.bk sl q G1 σ1 H1 (e.trans s) R, fun sl q G1 σ1 H1 s R => h.ct sl q G1 σ1 H1 (e.trans s) R,
    fun r q G1 H1 v s R => h.rt r q G1 H1 v (e.trans s) R, h.ex.mono e⟩
def LS (K : Fg) (F : Fx) (W : WX) (δ : DS) : TS := fun D σ H => ∃ G sl De, Rel K F G σ H sl ∧ δ De sl ∧ Fits K F W G De D
structure QS (X : Cx) (F : Fx) (W : WX) (st : Stmt) (δ : DS) : Prop where
  run : PS X st (LS X.K F W δ)
structure QSs (X : Cx) (F : Fx) (W : WX) (st : List Stmt) (δ : DS) : Prop where
  run : PSs X st (LS X.K F W δ)
theorem ps_imp {X : Cx} {e : Stmt} {t t' : TS} (h : PS X e t) (i : ∀ D σ H, t' D σ H → t D σ H) : PS X e t' := ⟨fun pins s σ H Q I q => h.run pins s σ H Q I (i Q σ H q)⟩
theorem pss_imp {X : Cx} {e : List Stmt} {t t' : TS} (h : PSs X e t) (i : ∀ D σ H, t' D σ H → t D σ H) : PSs X e t' := ⟨fun pins s σ H Q I q => h.run pins s σ H Q I (i Q σ H q)⟩
def dNext : DS := fun De sl => De.nx sl
def dSeq (δ ε : DS) : DS := fun De sl => δ { De with nx := ε De } sl
def dBreak : DS := fun De sl => De.bk sl
def dCont : DS := fun De sl => De.ct sl
def dRet (α : DE) : DS := fun De sl => α sl De.ex fun d _ => De.rt (.val d)
def dRetO (α : DE) : DS := fun De sl => α sl De.ex fun d _ => De.rt (.own d)
def dRetN : DS := fun De _ => De.rt (.val .non)
def dDrop (α : DE) : DS := fun De sl => α sl De.ex fun _ sl1 => De.nx sl1
def dCond (τ : DT) (δ ε : DS) : DS := fun De sl => τ sl De.ex fun k sl1 => if k = true then δ De sl1 else ε De sl1
def dNever : DS := fun _ _ => False
section
variable {X : Cx} {F : Fx} {W : WX} {a b c e : Expr} {es : List Expr} {α β γ : DE} {pos : Pos} {i : Nat} {x : Str} {st : Stmt} {rest body : List Stmt} {δ ε : DS} {τ : DT}
theorem Rel.ret {K : Fg} {F : Fx} {G H : Hp} {σ : L2.St} {sl : Sl} {v : V} {d : D} (R : Rel K F G σ H sl) (r : Rp K G v d) : Rel K F G [some v] H [.val d] := by
  obtain ⟨h1, h2, h3, h4, h5, as, s⟩ := R
  exact ⟨h1, h2, h3, h4, h5, [], .val r .nil⟩
theorem Rel.retO {K : Fg} {F : Fx} {G H : Hp} {σ : L2.St} {sl : Sl} {x : Option V} {d : D} (R : Rel K F G (x :: σ) H (.own d :: sl)) : Rel K F G [x] H [.own d] := by
  obtain ⟨h1, h2, h3, h4, h5, as, s⟩ := R
  cases s with
  | own a1 a2 a3 a4 a5 t => exact ⟨h1, h2, h3, h4, h5, _, .own a1 a2 a3 a4 (by simp) .nil⟩
theorem Rel.any {K : Fg} {F : Fx} {G H : Hp} {σ : L2.St} {sl : Sl} (R : Rel K F G σ H sl) : Rel K F G [] H [] := by
  obtain ⟨h1, h2, h3, h4, h5, as, s⟩ := R
  exact ⟨h1, h2, h3, h4, h5, [], .nil⟩
theorem qss_nil : QSs X F W [] dNext := ⟨pss_imp pss_nil fun D σ H h => by
  obtain ⟨G, sl, De, R, h, f⟩ := h
  exact f.nx sl h G σ H (Same.refl _) R⟩
theorem qss_cons (h1 : QS X F W st δ) (h2 : QSs X F W rest ε) : QSs X F W (st :: rest) (dSeq δ ε) := ⟨pss_imp (pss_cons h1.run h2.run) fun D σ H h => by
  obtain ⟨G, sl, De, R, h, f⟩ := h
  exact ⟨G, sl, { De with nx := ε De }, R, h, fun sl' q G' σ' H' s R' => ⟨G', sl', De, R', q, f.mono s⟩, f.bk, f.ct, f.rt, f.ex⟩⟩
theorem qss_one (h1 : QS X F W st δ) : QSs X F W [st] δ := ⟨pss_one h1.run⟩
theorem qs_pass : QS X F W (.Pass pos) dNext := ⟨ps_imp ps_pass fun D σ H h => by
  obtain ⟨G, sl, De, R, h, f⟩ := h
  exact f.nx sl h G σ H (Same.refl _) R⟩
theorem qs_break : QS X F W (.Break pos) dBreak := ⟨ps_imp ps_break fun D σ H h => by
  obtain ⟨G, sl, De, R, h, f⟩ := h
  exact f.bk sl h G σ H (Same.refl _) R⟩
theorem qs_continue : QS X F W (.Continue pos) dCont := ⟨ps_imp ps_continue fun D σ H h => by
  obtain ⟨G, sl, De, R, h, f⟩ := h
  exact f.ct sl h G σ H (Same.refl _) R⟩
theorem qs_never : QS X F W st dNever := ⟨ps_imp ps_never fun D σ H h => by
  obtain ⟨G, sl, De, R, h, f⟩ := h
  exact h.elim⟩
theorem qss_never : QSs X F W rest dNever := ⟨pss_imp pss_never fun D σ H h => by
  obtain ⟨G, sl, De, R, h, f⟩ := h
  exact h.elim⟩
theorem qs_ret (he : QE X F W e α) : QS X F W (.Return (some e) pos) (dRet α) := ⟨ps_imp (ps_ret he.run) fun D σ H h => by
  obtain ⟨G, sl, De, R, h, f⟩ := h
  exact ⟨G, sl, De.ex, _, R, h, fun d sl1 h1 G1 H1 v s1 R1 r1 => f.rt (.val d) h1 G1 H1 v s1 (R1.ret r1), f.ex⟩⟩
theorem qs_retO (he : QN X F W e α) : QS X F W (.Return (some e) pos) (dRetO α) := ⟨ps_imp (ps_ret he.run) fun D σ H h => by
  obtain ⟨G, sl, De, R, h, f⟩ := h
  exact ⟨G, sl, De.ex, _, R, h, fun d sl1 h1 G1 H1 a s1 R1 => f.rt (.own d) h1 G1 H1 _ s1 R1.retO, f.ex⟩⟩
theorem qs_retN : QS X F W (.Return none pos) dRetN := ⟨ps_imp ps_retN fun D σ H h => by
  obtain ⟨G, sl, De, R, h, f⟩ := h
  exact f.rt (.val .non) h G H .non (Same.refl _) (R.ret .non)⟩
theorem qs_expr (he : QE X F W e α) (hs : swapsWith e none pos.line X.env = pure false := by rfl) : QS X F W (.Expr e pos) (dDrop α) := ⟨ps_imp (ps_expr he.run hs) fun D σ H h => by
  obtain ⟨G, sl, De, R, h, f⟩ := h
  exact ⟨G, sl, De.ex, _, R, h, fun d sl1 h1 G1 H1 v s1 R1 r1 => f.nx sl1 h1 G1 σ H1 s1 R1, f.ex⟩⟩
theorem qs_if (hc : QT X F W c τ) (ha : QSs X F W body δ) (hb : QSs X F W rest ε) : QS X F W (.If c body rest pos) (dCond τ δ ε) := ⟨ps_imp (ps_if hc.run ha.run hb.run) fun D σ H h => by
  obtain ⟨G, sl, De, R, h, f⟩ := h
  refine ⟨G, sl, De.ex, _, R, h, fun b sl1 h1 G1 H1 s1 R1 => ?_, f.ex⟩
  cases b with
  | true => exact ⟨G1, sl1, De, R1, h1, f.mono s1⟩
  | false => exact ⟨G1, sl1, De, R1, h1, f.mono s1⟩⟩
/-! ### targets -/
abbrev DG := D → Sl → (Sl → Prop) → Prop
abbrev DGs := List D → Sl → (Sl → Prop) → Prop
def LG (K : Fg) (F : Fx) (g : DG) : TG := fun v σ H Q => ∃ G sl d P, Rel K F G σ H sl ∧ Rp K G v d ∧ g d sl P ∧ ∀ sl', P sl' → ∀ G' σ' H', Same G G' → Rel K F G' σ' H' sl' → Q σ' H'
def LGs (K : Fg) (F : Fx) (g : DGs) : TGs := fun vs σ H Q => ∃ G sl ds P, Rel K F G σ H sl ∧ RpL K G vs ds ∧ g ds sl P ∧ ∀ sl', P sl' → ∀ G' σ' H', Same G G' → Rel K F G' σ' H' sl' → Q σ' H'
structure QG (X : Cx) (F : Fx) (t : Expr) (g : DG) : Prop where
  run : PG X t (LG X.K F g)
structure QGs (X : Cx) (F : Fx) (ts : List Expr) (g : DGs) : Prop where
  run : PGs X ts (LGs X.K F g)
theorem pg_imp {X : Cx} {e : Expr} {t t' : TG} (h : PG X e t) (i : ∀ v σ H Q, t' v σ H Q → t v σ H Q) : PG X e t' := ⟨fun pins s σ H v u Q I r q => h.run pins s σ H v u Q I r (i v σ H Q q)⟩
theorem pgs_imp {X : Cx} {e : List Expr} {t t' : TGs} (h : PGs X e t) (i : ∀ v σ H Q, t' v σ H Q → t v σ H Q) : PGs X e t' := ⟨fun pins s σ H v u Q I r q => h.run pins s σ H v u Q I r (i v σ H Q q)⟩
def hName (i : Nat) : DG := fun d sl P => P (sl.set i (.val d))
def hNil : DGs := fun ds sl P => ds = [] ∧ P sl
def hCons (g : DG) (h : DGs) : DGs := fun ds sl P => ∃ d r, ds = d :: r ∧ g d sl fun sl1 => h r sl1 P
def hTup (n : Nat) (h : DGs) : DG := fun d sl P => ∃ ds, d = .tup ds ∧ ds.length = n ∧ h ds sl P
theorem qg_name (h : PG X e (gName i)) : QG X F e (hName i) := ⟨pg_imp h fun v σ H Q h => by
  obtain ⟨G, sl, d, P, R, r, h, k⟩ := h
  exact k _ h G _ H (Same.refl _) (R.put r i)⟩
theorem qgs_nil : QGs X F [] hNil := ⟨pgs_imp pgs_nil fun v σ H Q h => by
  obtain ⟨G, sl, ds, P, R, r, ⟨rfl, h⟩, k⟩ := h
  cases r
  exact ⟨rfl, k _ h G _ H (Same.refl _) R⟩⟩
theorem qgs_cons {g : DG} {h : DGs} (h1 : QG X F e g) (h2 : QGs X F es h) (hs : (assignEach (e :: es) X.env).map (·.2) = assign e X.env :: (assignEach es X.env).map (·.2) := by rfl) : QGs X F (e :: es) (hCons g h) :=
  ⟨pgs_imp (pgs_cons h1.run h2.run hs) fun v σ H Q h => by
    obtain ⟨G, sl, ds, P, R, r, ⟨d, rr, rfl, h⟩, k⟩ := h
    cases r with
    | cons r1 r2 => exact ⟨_, _, rfl, G, sl, d, _, R, r1, h, fun sl1 h1 G1 σ1 H1 s1 R1 => ⟨G1, sl1, rr, P, R1, r2.mono s1, h1, fun sl2 p G2 σ2 H2 s2 R2 => k sl2 p G2 σ2 H2 (s1.trans s2) R2⟩⟩⟩
theorem qg_tup {k n : Nat} {g : DGs} (hc : X.calm = true) (h : QGs X F es g) (hn : (assignEach es X.env).length = n := by rfl) (hst : (assignEach es X.env).findIdx? (·.1) = none := by rfl) : QG X F (.Tuple es k pos) (hTup n g) :=
  ⟨pg_imp (pg_tup hc h.run hn hst) fun v σ H Q h => by
    obtain ⟨G, sl, d, P, R, r, ⟨ds, rfl, hl, h⟩, k⟩ := h
    cases r with
    | tup q t => exact ⟨_, _, rfl, sqT_mono R.ex q, by rw [t.length]; exact hl, G, sl, ds, P, R, t, h, k⟩⟩
/-! ### assignments -/
def dAsg (α : DE) (g : DG) : DS := fun De sl => α sl De.ex fun d sl1 => g d sl1 De.nx
/-- a name gets an object of its own -/
def dOwn (i : Nat) (α : DE) : DS := fun De sl => α sl De.ex fun d sl1 => De.nx (sl1.set i (.own d))
theorem LS.asg {g : DG} {t : TG} (i : ∀ v σ H Q, LG X.K F g v σ H Q → t v σ H Q) {D : Ends} {σ : L2.St} {H : Hp} (h : LS X.K F W (dAsg α g) D σ H) : tAsg (LE X.K F W α) t D σ H := by
  obtain ⟨G, sl, De, R, h, f⟩ := h
  exact ⟨G, sl, De.ex, _, R, h, fun d sl1 h1 G1 H1 v s1 R1 r1 => i v σ H1 _ ⟨G1, sl1, d, De.nx, R1, r1, h1, fun sl2 p G2 σ2 H2 s2 R2 => f.nx sl2 p G2 σ2 H2 (s1.trans s2) R2⟩, f.ex⟩
theorem qs_asg {tg : Expr} {g : DG} (h : PS X (.Assign [tg] e pos) (tAsg (LE X.K F W α) (LG X.K F g))) : QS X F W (.Assign [tg] e pos) (dAsg α g) :=
  ⟨ps_imp h fun D σ H h => h.asg fun _ _ _ _ q => q⟩
theorem qs_set (h : PS X st (tAsg (LE X.K F W α) (gName i))) : QS X F W st (dAsg α (hName i)) :=
  ⟨ps_imp h fun D σ H h => h.asg fun v σ H Q q => by
    obtain ⟨G, sl, d, P, R, r, h, k⟩ := q
    exact k _ h G _ H (Same.refl _) (R.put r i)⟩
theorem qs_own (h : PS X st (tAsg (LN X.K F W α) (gName i))) : QS X F W st (dOwn i α) :=
  ⟨ps_imp h fun D σ H h => by
    obtain ⟨G, sl, De, R, h, f⟩ := h
    exact ⟨G, sl, De.ex, _, R, h, fun d sl1 h1 G1 H1 a s1 R1 => f.nx _ h1 G1 _ H1 s1 (R1.putOwn i), f.ex⟩⟩
/-! ### loops -/
def dWh (τ : DT) (δ : DS) (De : DEnds) : Nat → Sl → Prop
  | 0, _ => False
  | n + 1, sl => τ sl De.ex fun k sl1 => if k = true then δ { De with nx := dWh τ δ De n, ct := dWh τ δ De n, bk := De.nx } sl1 else De.nx sl1
def dWhile (τ : DT) (δ : DS) : DS := fun De sl => ∃ n, dWh τ δ De n sl
theorem qs_while (hp : PassesOwn (model X.prog X.w) X.A X.env X.xe) (hc : QT X F W c τ) (hb : QSs X F W body δ) : QS X F W (.While c body [] pos) (dWhile τ δ) :=
  ⟨ps_imp (ps_while hp hc.run hb.run) fun D σ H h => by
    obtain ⟨G, sl, De, R, ⟨n, h⟩, f⟩ := h
    refine ⟨fun m σ1 H1 => ∃ G1 sl1, Same G G1 ∧ Rel X.K F G1 σ1 H1 sl1 ∧ dWh τ δ De m sl1, ⟨n, G, sl, Same.refl _, R, h⟩, ?_⟩
    rintro m σ1 H1 ⟨G1, sl1, s1, R1, h1⟩
    cases m with
    | zero => exact h1.elim
    | succ m =>
      refine ⟨G1, sl1, De.ex, _, R1, h1, fun k sl2 h2 G2 H2 s2 R2 => ?_, f.ex.mono s1⟩
      cases k with
      | true =>
        refine ⟨fun σ3 H3 => ∃ G3 sl3, Same G G3 ∧ Rel X.K F G3 σ3 H3 sl3 ∧ dWh τ δ De m sl3, fun σ3 H3 q => ⟨m, Nat.lt_succ_self _, q⟩, ?_⟩
        have f2 := f.mono (s1.trans s2)
        exact ⟨G2, sl2, _, R2, h2, fun sl3 q G3 σ3 H3 s3 R3 => ⟨G3, sl3, (s1.trans s2).trans s3, R3, q⟩, f2.nx, fun sl3 q G3 σ3 H3 s3 R3 => ⟨G3, sl3, (s1.trans s2).trans s3, R3, q⟩, f2.rt, f2.ex⟩
      | false => exact f.nx sl2 h2 G2 _ H2 (s1.trans s2) R2⟩
/-- what is walked: its items -/
abbrev DI := Sl → XP → (List D → Sl → Prop) → Prop
def Walked (K : Fg) (G : Hp) (J : It) (ds : List D) : Prop := ∀ (i : Nat) (Gc H : Hp), Same G Gc → Same Gc H →
  (∀ d, ds[i]? = some d → J.go i H ∧ ∀ x H', J.yld i H x H' → ∃ G', Grown Gc H G' H' ∧ Rp K G' x d) ∧ (ds.length ≤ i → J.stop i H)
def LI (K : Fg) (F : Fx) (W : WX) (ι : DI) : TI := fun σ H R => ∃ G sl E P, Rel K F G σ H sl ∧ ι sl E P ∧ (∀ ds sl', P ds sl' → ∀ G' H' J, Same G G' → Rel K F G' σ H' sl' → Walked K G' J ds → R J H') ∧ Thrown K F W G E
structure QI (X : Cx) (F : Fx) (W : WX) (tg iter : Expr) (ι : DI) : Prop where
  run : PI X tg iter (LI X.K F W ι)
theorem pi_imp {X : Cx} {tg e : Expr} {t t' : TI} (h : PI X tg e t) (i : ∀ σ H R, t' σ H R → t σ H R) : PI X tg e t' := ⟨fun pins s σ H Q I q => h.run pins s σ H Q I (i σ H Q q)⟩
def dFo (g : DG) (δ : DS) (De : DEnds) : List D → Sl → Prop
  | [], sl => De.nx sl
  | d :: r, sl => g d sl fun sl1 => δ { De with nx := dFo g δ De r, ct := dFo g δ De r, bk := De.nx } sl1
def dFor (ι : DI) (g : DG) (δ : DS) : DS := fun De sl => ι sl De.ex fun ds sl1 => dFo g δ De ds sl1
theorem qs_for {tg iter : Expr} {ι : DI} {g : DG} (hp : PassesOwn (model X.prog X.w) X.A X.env X.xe) (hc : X.calm = true) (hi : QI X F W tg iter ι) (hg : QG X F tg g) (hb : QSs X F W body δ)
    (hs : ∀ x, foldedSetIterable iter X.env x = pure x := by intro _; rfl) : QS X F W (.For tg iter body [] pos) (dFor ι g δ) :=
  ⟨ps_imp (ps_for hp hc hi.run hg.run hb.run hs) fun D σ H h => by
    obtain ⟨G, sl, De, R, h, f⟩ := h
    refine ⟨G, sl, De.ex, _, R, h, fun ds sl1 h1 G1 H1 J s1 R1 w => ?_, f.ex⟩
    refine ⟨fun i m σ2 H2 => ∃ G2 sl2, Same G1 G2 ∧ Rel X.K F G2 σ2 H2 sl2 ∧ dFo g δ De (ds.drop i) sl2 ∧ m = ds.length - i ∧ i ≤ ds.length, ⟨ds.length, G1, sl1, Same.refl _, R1, h1, by simp, Nat.zero_le _⟩, ?_⟩
    rintro i m σ2 H2 ⟨G2, sl2, s2, R2, h2, rfl, hi⟩
    by_cases hlt : i < ds.length
    · obtain ⟨hgo, hy⟩ := (w i G2 H2 s2 R2.ex).1 ds[i] (List.getElem?_eq_getElem hlt)
      rw [List.drop_eq_getElem_cons hlt] at h2
      refine .inr ⟨hgo, fun σ3 H3 => ∃ G3 sl3, Same G1 G3 ∧ Rel X.K F G3 σ3 H3 sl3 ∧ dFo g δ De (ds.drop (i + 1)) sl3, fun σ3 H3 ⟨G3, sl3, q⟩ => ⟨ds.length - (i + 1), by omega, G3, sl3, q.1, q.2.1, q.2.2, rfl, hlt⟩, fun x H3 yx => ?_⟩
      obtain ⟨G3, gr, r3⟩ := hy x H3 yx
      refine ⟨G3, sl2, ds[i], _, R2.grown gr, r3, h2, fun sl4 h4 G4 σ4 H4 s4 R4 => ?_⟩
      have s14 : Same G1 G4 := s2.trans (gr.g.trans s4)
      have f4 := f.mono (s1.trans s14)
      exact ⟨G4, sl4, _, R4, h4, fun sl5 q G5 σ5 H5 s5 R5 => ⟨G5, sl5, s14.trans s5, R5, q⟩, f4.nx, fun sl5 q G5 σ5 H5 s5 R5 => ⟨G5, sl5, s14.trans s5, R5, q⟩, f4.rt, f4.ex⟩
    · have e : i = ds.length := by omega
      subst e
      rw [List.drop_length] at h2
      exact .inl ⟨(w _ G2 H2 s2 R2.ex).2 (Nat.le_refl _), f.nx sl2 h2 G2 σ2 H2 (s1.trans s2) R2⟩⟩
end
end Dx
namespace Dx
open PySem L2
section
variable {K : Fg}
/-! ### + - * // % ** -/
def oAdd : O2 := fun d e P => match d, e with
  | .int i, .int j => P (.int (i + j))
  | .str a, .str b => a.length + b.length ≤ sizeLine ∧ P (.str (a ++ b))
  | .lst a, .lst b => a.length + b.length ≤ sizeLine ∧ P (.lst (a ++ b))
  | .tup a, .tup b => a ≠ [] ∧ a.length + b.length ≤ sizeLine ∧ P (.tup (a ++ b))
  | _, _ => False
def rAddD (K : Fg) : R2 := fun x y H Q => (rI0 fun i j => .int (i + j)) x y H Q ∨ (∃ i j, x = .str i ∧ y = .str j ∧ i.length + j.length ≤ sizeLine ∧ Q (.str (i ++ j)) H) ∨ rCat x y H Q ∨ rCatT K x y H Q
theorem op_addD {X : Cx} : OpR X (binaryOp .Add) (rAddD X.K) := op_add.or (op_add_str.or (op_cat.or op_catT))
theorem rf_add : Rf2 K (rAddD K) oAdd := by
  intro G H x y d e P Q s r1 r2 h k
  cases r1 with
  | int i =>
    cases r2 <;> first | exact h.elim | skip
    exact .inl ⟨_, _, rfl, rfl, k _ h G H _ (.refl s) (.int _)⟩
  | str i =>
    cases r2 <;> first | exact h.elim | skip
    exact .inr (.inl ⟨_, _, rfl, rfl, h.1, k _ h.2 G H _ (.refl s) (.str _)⟩)
  | lst g1 t1 =>
    cases r2 with
    | lst g2 t2 =>
      refine .inr (.inr (.inl ⟨_, _, _, _, rfl, rfl, s _ _ g1, s _ _ g2, by rw [t1.length, t2.length]; exact h.1, fun p hp => ?_⟩))
      exact k _ h.2 _ _ _ (Grown.new s hp _) (.lst upd_same ((t1.append t2).mono (Grown.new s hp _).g))
    | _ => exact h.elim
  | tup g1 t1 =>
    cases r2 with
    | tup g2 t2 =>
      obtain ⟨h1, h2, h3⟩ := h
      refine .inr (.inr (.inr ⟨_, _, _, _, rfl, rfl, sqT_mono s g1, sqT_mono s g2, fun z => ?_, by rw [t1.length, t2.length]; exact h2, fun z => ?_, fun _ p hp => ?_⟩))
      · subst z
        cases t1
        exact h1 rfl
      · subst z
        cases t2
        rw [List.append_nil] at h3
        exact k _ h3 G H _ (.refl s) (.tup g1 t1)
      · exact k _ h3 _ _ _ (Grown.new s hp _) (.tup (SqT.of upd_same) ((t1.append t2).mono (Grown.new s hp _).g))
    | _ => exact h.elim
  | _ => exact h.elim
/-- two ints -/
def oI (C : Int → Int → Prop) (f : Int → Int → D) : O2 := fun d e P => match d, e with
  | .int i, .int j => C i j ∧ P (f i j)
  | _, _ => False
theorem rf_I {C : Int → Int → Prop} {f : Int → Int → V} {g : Int → Int → D} (hf : ∀ G i j, Rp K G (f i j) (g i j)) : Rf2 K (rI C f) (oI C g) := by
  intro G H x y d e P Q s r1 r2 h k
  cases r1 <;> first | exact h.elim | skip
  cases r2 <;> first | exact h.elim | skip
  exact ⟨_, _, rfl, rfl, h.1, k _ h.2 G H _ (.refl s) (hf G _ _)⟩
def oI0 (f : Int → Int → D) : O2 := fun d e P => match d, e with
  | .int i, .int j => P (f i j)
  | _, _ => False
theorem rf_I0 {f : Int → Int → V} {g : Int → Int → D} (hf : ∀ G i j, Rp K G (f i j) (g i j)) : Rf2 K (rI0 f) (oI0 g) := by
  intro G H x y d e P Q s r1 r2 h k
  cases r1 <;> first | exact h.elim | skip
  cases r2 <;> first | exact h.elim | skip
  exact ⟨_, _, rfl, rfl, k _ h G H _ (.refl s) (hf G _ _)⟩
abbrev oSub : O2 := oI0 fun i j => .int (i - j)
abbrev oMod : O2 := oI (fun _ j => 0 < j) fun i j => .int (i % j)
abbrev oFdiv : O2 := oI CDivW fun i j => .int (i / j)
abbrev oPow : O2 := oI CPow fun i j => .int (i ^ j.toNat)
abbrev oLt : O2 := oI0 fun i j => .bl (decide (i < j))
abbrev oLe : O2 := oI0 fun i j => .bl (decide (i ≤ j))
abbrev oGt : O2 := oI0 fun i j => .bl (decide (j < i))
abbrev oGe : O2 := oI0 fun i j => .bl (decide (j ≤ i))
theorem rf_sub : Rf2 K (rI0 fun i j => .int (i - j)) oSub := rf_I0 fun _ _ _ => .int _
theorem rf_mod : Rf2 K (rI (fun _ j => 0 < j) fun i j => .int (i % j)) oMod := rf_I fun _ _ _ => .int _
theorem rf_fdiv : Rf2 K (rI CDivW fun i j => .int (i / j)) oFdiv := rf_I fun _ _ _ => .int _
theorem rf_pow : Rf2 K (rI CPow fun i j => .int (i ^ j.toNat)) oPow := rf_I fun _ _ _ => .int _
theorem rf_lt : Rf2 K (rI0 fun i j => .bl (decide (i < j))) oLt := rf_I0 fun _ _ _ => .bl _
theorem rf_le : Rf2 K (rI0 fun i j => .bl (decide (i ≤ j))) oLe := rf_I0 fun _ _ _ => .bl _
theorem rf_gt : Rf2 K (rI0 fun i j => .bl (decide (j < i))) oGt := rf_I0 fun _ _ _ => .bl _
theorem rf_ge : Rf2 K (rI0 fun i j => .bl (decide (j ≤ i))) oGe := rf_I0 fun _ _ _ => .bl _
/-- *: two ints (one of them small), a list so many times -/
def oMul : O2 := fun d e P => match d, e with
  | .int i, .int j => CMul i j ∧ P (.int (i * j))
  | .lst a, .int j => -(2 ^ 63) ≤ j ∧ j < 2 ^ 63 ∧ a.length * j.toNat ≤ sizeLine ∧ P (.lst (List.replicate j.toNat a).flatten)
  | _, _ => False
def rMulD : R2 := fun x y H Q => (rI CMul fun i j => .int (i * j)) x y H Q ∨ rRep x y H Q
theorem op_mulD {X : Cx} : OpR X (binaryOp .Mult) rMulD := op_mul.or op_rep
theorem RpL.rep {G : Hp} {vs : List V} {ds : List D} (t : RpL K G vs ds) : ∀ n : Nat, RpL K G (List.replicate n vs).flatten (List.replicate n ds).flatten
  | 0 => .nil
  | n + 1 => by
    rw [List.replicate_succ, List.replicate_succ, List.flatten_cons, List.flatten_cons]
    exact t.append (t.rep n)
theorem rf_mul : Rf2 K rMulD oMul := by
  intro G H x y d e P Q s r1 r2 h k
  cases r1 with
  | int i =>
    cases r2 <;> first | exact h.elim | skip
    exact .inl ⟨_, _, rfl, rfl, h.1, k _ h.2 G H _ (.refl s) (.int _)⟩
  | lst g1 t1 =>
    cases r2 <;> first | exact h.elim | skip
    obtain ⟨h1, h2, h3, h4⟩ := h
    refine .inr ⟨_, _, _, rfl, rfl, s _ _ g1, h1, h2, by rw [t1.length]; exact h3, fun p hp => ?_⟩
    exact k _ h4 _ _ _ (Grown.new s hp _) (.lst upd_same ((t1.rep _).mono (Grown.new s hp _).g))
  | _ => exact h.elim
/-- great factors -/
abbrev oMulW : O2 := oI CMulW fun i j => .int (i * j)
theorem rf_mulW : Rf2 K (rI CMulW fun i j => .int (i * j)) oMulW := rf_I fun _ _ _ => .int _
/-- -x -/
def oNeg : O1 := fun d P => match d with
  | .int i => P (.int (-i))
  | _ => False
theorem rf_neg : Rf1 K (rU fun i => .int (-i)) oNeg := by
  intro G H x d P Q s r1 h k
  cases r1 <;> first | exact h.elim | skip
  exact ⟨_, rfl, k _ h G H _ (.refl s) (.int _)⟩

/-! ### == -/
mutual
def D.py : D → Option PyData
  | .non => some .none
  | .bl b => some (.bool b)
  | .int i => some (.int i)
  | .str x => if x.cps.all (· < 0x110000) then some (.str x) else none
  | .lst ds => (D.pys ds).map .list
  | .tup ds => (D.pys ds).map .tuple
  | .dic _ _ => none
  | .obj _ _ _ => none
  | .scr _ => none
def D.pys : List D → Option (List PyData)
  | [] => some []
  | d :: ds => match d.py, D.pys ds with
    | some a, some b => some (a :: b)
    | _, _ => none
end
mutual
def D.eqv : D → D → Bool
  | .non, .non => true
  | .bl a, .bl b => a == b
  | .bl a, .int j => (if a then 1 else 0) == j
  | .int i, .bl b => i == (if b then 1 else 0)
  | .int i, .int j => i == j
  | .str x, .str y => x == y
  | .lst xs, .lst ys => D.eqvs xs ys
  | .tup xs, .tup ys => D.eqvs xs ys
  | _, _ => false
def D.eqvs : List D → List D → Bool
  | [], [] => true
  | x :: xs, y :: ys => D.eqv x y && D.eqvs xs ys
  | _, _ => false
end
mutual
theorem Rp.dp {G H : Hp} (s : Same G H) : ∀ {v : V} {d : D} {p : PyData}, Rp K G v d → d.py = some p → Dp K H v p
  | _, _, _, .non, e => by cases e; exact .non
  | _, _, _, .bl b, e => by cases e; exact .bl b
  | _, _, _, .int i, e => by cases e; exact .int i
  | _, _, _, .str x, e => by
    unfold D.py at e
    split at e
    · cases e; exact .str x
    · cases e
  | _, _, _, .lst g t, e => by
    unfold D.py at e
    obtain ⟨ps, e1, e2⟩ := Option.map_eq_some_iff.mp e
    subst e2
    exact .lst (SqL.of (s _ _ g)) (RpL.dp s t e1)
  | _, _, _, .tup g t, e => by
    unfold D.py at e
    obtain ⟨ps, e1, e2⟩ := Option.map_eq_some_iff.mp e
    subst e2
    exact .tup (sqT_mono s g) (RpL.dp s t e1)
  | _, _, _, .dic g k t, e => by cases e
  | _, _, _, .obj g k t, e => by cases e
  | _, _, _, .scr g, e => by cases e
theorem RpL.dp {G H : Hp} (s : Same G H) : ∀ {vs : List V} {ds : List D} {ps : List PyData}, RpL K G vs ds → D.pys ds = some ps → DpAll K H vs ps
  | _, _, _, .nil, e => by cases e; exact .nil
  | _, _, _, .cons r t, e => by
    unfold D.pys at e
    split at e
    · rename_i a b h1 h2
      cases e
      exact .cons (Rp.dp s r h1) (RpL.dp s t h2)
    · cases e
end
mutual
theorem eqv_py : ∀ {d e : D} {p q : PyData}, d.py = some p → e.py = some q → PyData.eqv p q = D.eqv d e
  | .non, e, p, q, h1, h2 => by
    cases h1
    cases e <;> (unfold D.py at h2; first | (cases h2 <;> rfl) | (split at h2 <;> cases h2 <;> rfl) | (obtain ⟨_, _, h2⟩ := Option.map_eq_some_iff.mp h2; subst h2; rfl))
  | .bl b, e, p, q, h1, h2 => by
    cases h1
    cases e <;> (unfold D.py at h2; first | (cases h2 <;> rfl) | (split at h2 <;> cases h2 <;> rfl) | (obtain ⟨_, _, h2⟩ := Option.map_eq_some_iff.mp h2; subst h2; rfl))
  | .int b, e, p, q, h1, h2 => by
    cases h1
    cases e <;> (unfold D.py at h2; first | (cases h2 <;> rfl) | (split at h2 <;> cases h2 <;> rfl) | (obtain ⟨_, _, h2⟩ := Option.map_eq_some_iff.mp h2; subst h2; rfl))
  | .str b, e, p, q, h1, h2 => by
    unfold D.py at h1
    split at h1 <;> cases h1
    cases e <;> (unfold D.py at h2; first | (cases h2 <;> rfl) | (split at h2 <;> cases h2 <;> rfl) | (obtain ⟨_, _, h2⟩ := Option.map_eq_some_iff.mp h2; subst h2; rfl))
  | .lst ds, e, p, q, h1, h2 => by
    unfold D.py at h1
    obtain ⟨ps, e1, h1⟩ := Option.map_eq_some_iff.mp h1
    subst h1
    cases e with
    | lst es =>
      unfold D.py at h2
      obtain ⟨qs, e2, h2⟩ := Option.map_eq_some_iff.mp h2
      subst h2
      unfold PyData.eqv D.eqv
      exact eqvs_py e1 e2
    | _ => unfold D.py at h2; first | (cases h2 <;> rfl) | (split at h2 <;> cases h2 <;> rfl) | (obtain ⟨_, _, h2⟩ := Option.map_eq_some_iff.mp h2; subst h2; rfl)
  | .tup ds, e, p, q, h1, h2 => by
    unfold D.py at h1
    obtain ⟨ps, e1, h1⟩ := Option.map_eq_some_iff.mp h1
    subst h1
    cases e with
    | tup es =>
      unfold D.py at h2
      obtain ⟨qs, e2, h2⟩ := Option.map_eq_some_iff.mp h2
      subst h2
      unfold PyData.eqv D.eqv
      exact eqvs_py e1 e2
    | _ => unfold D.py at h2; first | (cases h2 <;> rfl) | (split at h2 <;> cases h2 <;> rfl) | (obtain ⟨_, _, h2⟩ := Option.map_eq_some_iff.mp h2; subst h2; rfl)
  | .dic _ _, _, _, _, h1, _ => by cases h1
  | .obj _ _ _, _, _, _, h1, _ => by cases h1
  | .scr _, _, _, _, h1, _ => by cases h1
theorem eqvs_py : ∀ {ds es : List D} {ps qs : List PyData}, D.pys ds = some ps → D.pys es = some qs → PyData.eqvAll ps qs = D.eqvs ds es
  | [], [], _, _, h1, h2 => by cases h1; cases h2; rfl
  | [], e :: es, _, _, h1, h2 => by
    cases h1
    unfold D.pys at h2
    split at h2 <;> cases h2
    rfl
  | d :: ds, [], _, _, h1, h2 => by
    cases h2
    unfold D.pys at h1
    split at h1 <;> cases h1
    rfl
  | d :: ds, e :: es, _, _, h1, h2 => by
    unfold D.pys at h1 h2
    split at h1 <;> cases h1
    split at h2 <;> cases h2
    rename_i a1 b1 a2 b2 _ _ p1 q1 p2 q2
    unfold PyData.eqvAll D.eqvs
    first | rw [eqv_py a2 p2, eqvs_py b2 q2] | (trace_state; rw [eqv_py a1 p1, eqvs_py b1 q1])
end
mutual
theorem py_lay : ∀ {d : D} {p : PyData}, d.py = some p → p.canLay0 = true
  | .non, _, h => by cases h; rfl
  | .bl _, _, h => by cases h; rfl
  | .int _, _, h => by cases h; rfl
  | .str x, _, h => by
    unfold D.py at h
    split at h
    · rename_i hx
      cases h
      unfold PyData.canLay0
      exact hx
    · cases h
  | .lst ds, _, h => by
    unfold D.py at h
    obtain ⟨ps, e1, h⟩ := Option.map_eq_some_iff.mp h
    subst h
    unfold PyData.canLay0
    exact pys_lay e1
  | .tup ds, _, h => by
    unfold D.py at h
    obtain ⟨ps, e1, h⟩ := Option.map_eq_some_iff.mp h
    subst h
    unfold PyData.canLay0
    exact pys_lay e1
  | .dic _ _, _, h => by cases h
  | .obj _ _ _, _, h => by cases h
theorem pys_lay : ∀ {d : List D} {p : List PyData}, D.pys d = some p → PyData.canLayAll0 p = true
  | [], _, h => by cases h; rfl
  | d :: ds, _, h => by
    unfold D.pys at h
    split at h <;> cases h
    rename_i a b p1 p2
    unfold PyData.canLayAll0
    rw [py_lay p1, pys_lay p2]
    rfl
end
mutual
def D.dep : D → Nat
  | .lst ds => D.deps ds + 1
  | .tup ds => D.deps ds + 1
  | _ => 0
def D.deps : List D → Nat
  | [] => 0
  | d :: ds => max d.dep (D.deps ds)
end
mutual
theorem py_dep : ∀ {d : D} {p : PyData}, d.py = some p → p.depth = d.dep
  | .non, _, h => by cases h; rfl
  | .bl _, _, h => by cases h; rfl
  | .int _, _, h => by cases h; rfl
  | .str x, _, h => by
    unfold D.py at h
    split at h <;> cases h
    rfl
  | .lst ds, _, h => by
    unfold D.py at h
    obtain ⟨ps, e1, h⟩ := Option.map_eq_some_iff.mp h
    subst h
    unfold PyData.depth D.dep
    rw [pys_dep e1]
  | .tup ds, _, h => by
    unfold D.py at h
    obtain ⟨ps, e1, h⟩ := Option.map_eq_some_iff.mp h
    subst h
    unfold PyData.depth D.dep
    rw [pys_dep e1]
  | .dic _ _, _, h => by cases h
  | .obj _ _ _, _, h => by cases h
theorem pys_dep : ∀ {d : List D} {p : List PyData}, D.pys d = some p → PyData.depthAll p = D.deps d
  | [], _, h => by cases h; rfl
  | d :: ds, _, h => by
    unfold D.pys at h
    split at h <;> cases h
    rename_i a b p1 p2
    unfold PyData.depthAll D.deps
    rw [py_dep p1, pys_dep p2]
end
def D.plain (d : D) : Prop := d.py.isSome = true ∧ d.dep ≤ 64
theorem plain_shaped {d : D} (h : d.plain) : ∃ p, d.py = some p ∧ SeqAt.shaped p = true := by
  obtain ⟨p, hp⟩ := Option.isSome_iff_exists.mp h.1
  refine ⟨p, hp, ?_⟩
  unfold SeqAt.shaped
  rw [py_lay hp, py_dep hp]
  simpa using h.2
def oEq : O2 := fun d e P => d.plain ∧ e.plain ∧ P (.bl (D.eqv d e))
def oNe : O2 := fun d e P => d.plain ∧ e.plain ∧ P (.bl (!D.eqv d e))
theorem rf_eq : Rf2 K (rEqD K) oEq := by
  intro G H x y d e P Q s r1 r2 h k
  obtain ⟨h1, h2, h3⟩ := h
  obtain ⟨p, e1, s1⟩ := plain_shaped h1
  obtain ⟨q, e2, s2⟩ := plain_shaped h2
  refine ⟨p, q, r1.dp s e1, r2.dp s e2, s1, s2, ?_⟩
  rw [eqv_py e1 e2]
  exact k _ h3 G H _ (.refl s) (.bl _)
theorem rf_ne : Rf2 K (rNeD K) oNe := by
  intro G H x y d e P Q s r1 r2 h k
  obtain ⟨h1, h2, h3⟩ := h
  obtain ⟨p, e1, s1⟩ := plain_shaped h1
  obtain ⟨q, e2, s2⟩ := plain_shaped h2
  refine ⟨p, q, r1.dp s e1, r2.dp s e2, s1, s2, ?_⟩
  rw [eqv_py e1 e2]
  exact k _ h3 G H _ (.refl s) (.bl _)
end
end Dx
namespace Dx
open PySem L2
/-! ### what a def promises over trees -/
abbrev Phi := List D → (Ret → Prop) → (D → Prop) → Prop
/-- what is wanted of a call that ends, of one that raises -/
def SpTo (K : Fg) (F : Fx) (P : Ret → Prop) (PE : D → Prop) (Q : VK) (E : XK) : Prop :=
  (∀ r, P r → ∀ G' H' v, Same F.G0 G' → Rel K F G' [some v] H' [r.slot] → Q v H') ∧ ∀ x, PE x → ∀ G' H' cls dd, Same F.G0 G' → Rel K F G' [] H' [] → ExnAt K G' H' cls dd x → E cls dd H'
/-- a def without the hand: n arguments -/
def SpP (K : Fg) (n : Nat) (φ : Phi) : Sp := fun vs H Q E => ∃ G ds P PE, ds.length = n ∧ Same G H ∧ RpL K G vs ds ∧ φ ds P PE ∧ SpTo K ⟨none, H, G⟩ P PE Q E
/-- a def whose first argument is the hand: n further arguments -/
def SpH (K : Fg) (n : Nat) (φ : Phi) : Sp := fun vs H Q E => ∃ q vs' G ds P PE, vs = .ref q :: vs' ∧ ds.length = n ∧ Same G H ∧ HandAt K G H q ∧ G q = none ∧ RpL K G vs' ds ∧ φ ds P PE ∧ SpTo K ⟨some q, H, G⟩ P PE Q E
theorem SpP.len {K : Fg} {n : Nat} {φ : Phi} {vs : List V} {H : Hp} {Q : VK} {E : XK} (h : SpP K n φ vs H Q E) : vs.length = n := by
  obtain ⟨G, ds, P, PE, hl, s, r, _⟩ := h
  rw [r.length]
  exact hl
theorem SpH.len {K : Fg} {n : Nat} {φ : Phi} {vs : List V} {H : Hp} {Q : VK} {E : XK} (h : SpH K n φ vs H Q E) : vs.length = n + 1 := by
  obtain ⟨q, vs', G, ds, P, PE, e, hl, s, _, _, r, _⟩ := h
  rw [e, List.length_cons, r.length, hl]
/-- the slots at the entry -/
def startD (N : List Str) (ds : List D) : Sl := ds.map .val ++ List.replicate (N.length - ds.length) .un
def startH (N : List Str) (ds : List D) : Sl := .hand :: (ds.map .val ++ List.replicate (N.length - (ds.length + 1)) .un)
def endsD (P : Ret → Prop) (PE : D → Prop) : DEnds := ⟨fun _ => P (.val .non), P, fun _ => False, fun _ => False, fun x _ => PE x⟩
theorem Sls.unk {K : Fg} {F : Fx} {G H : Hp} : ∀ n : Nat, Sls K F G H (List.replicate n none) (List.replicate n .un) []
  | 0 => .nil
  | n + 1 => .un (Sls.unk n)
theorem Sls.vals {K : Fg} {F : Fx} {G H : Hp} {σ : L2.St} {sl : Sl} (t : Sls K F G H σ sl []) : ∀ {vs : List V} {ds : List D}, RpL K G vs ds → Sls K F G H (vs.map some ++ σ) (ds.map .val ++ sl) []
  | _, _, .nil => t
  | _, _, .cons r rr => .val r (Sls.vals t rr)
theorem start_P {K : Fg} {G H : Hp} {N : List Str} {vs : List V} {ds : List D} (s : Same G H) (r : RpL K G vs ds) : Rel K ⟨none, H, G⟩ G (L2.start N vs) H (startD N ds) := by
  refine ⟨s, Same.refl _, fun _ _ h _ => h, fun _ _ h => .inl h, fun q h => (by cases h), [], ?_⟩
  unfold L2.start startD
  rw [r.length]
  exact Sls.vals (Sls.unk _) r
theorem start_H {K : Fg} {G H : Hp} {N : List Str} {q : Addr} {vs : List V} {ds : List D} (s : Same G H) (hq : HandAt K G H q) (gq : G q = none) (r : RpL K G vs ds) : Rel K ⟨some q, H, G⟩ G (L2.start N (.ref q :: vs)) H (startH N ds) := by
  refine ⟨s, Same.refl _, fun _ _ h _ => h, fun _ _ h => .inl h, fun p h => by cases h; exact ⟨hq, gq⟩, [], ?_⟩
  unfold L2.start startH
  rw [List.length_cons, r.length]
  exact .hand rfl (Sls.vals (Sls.unk _) r)
/-- what an exception that leaves a def must be -/
abbrev WOut (E : XK) : WX := fun cls d _ H => E cls d H
theorem SpTo.fits {K : Fg} {F : Fx} {P : Ret → Prop} {PE : D → Prop} {Q : VK} {E : XK} (h : SpTo K F P PE Q E) : Fits K F (WOut E) F.G0 (endsD P PE) { nx := fun _ H' => Q .non H', rt := Q } :=
  ⟨fun sl p G' σ' H' s R => h.1 _ p G' H' .non s (R.ret .non), fun _ z => False.elim z, fun _ z => False.elim z, fun r p G' H' v s R => h.1 r p G' H' v s R, fun x sl p G' σ' H' c d s R z => h.2 x p G' H' c d s R.any z⟩
section
variable {P : Program} {w : World} {K : Fg} {mg : Str → Option Value} {base : Heap}
/-- the context of a def's body -/
abbrev cxD (P : Program) (w : World) (K : Fg) (mg : Str → Option Value) (base : Heap) (N : List Str) (qual : Str) (st : Stmt) (f : Addr) (cdv : Value) (A : Around) (outer : List Env) (s : Shared) (H : Hp) (E : XK) : Cx :=
  cxOf (L2.CX P w) P w K mg base N qual (defScope st) f cdv A outer s H E
abbrev BodyD (P : Program) (w : World) (K : Fg) (mg : Str → Option Value) (base : Heap) (N : List Str) (qual : Str) (st : Stmt) (f : Addr) (k : Nat) (δ : DS) : Prop :=
  ∀ (cdv : Value) (A : Around) (outer : List Env) (s : Shared) (H : Hp) (E : XK) (F : Fx), Room k (A.deeper (PyProof.Rows.envOfC qual (defScope st) s.heap.objs.size f cdv)) → QSs (cxD P w K mg base N qual st f cdv A outer s H E) F (WOut E) (defBody st) δ
/-- THE RULE of a def without the hand: its body's reading over trees -/
theorem fn_P {x qual : Str} {st : Stmt} {f : Addr} {fd : FuncData} {N ps : List Str} {k n : Nat} {φ : Phi} {δ : DS} (F : Fun K x qual st f fd) (S : FnScope N ps (defScope st)) (hn : ps.length = n)
    (hb : BodyD P w K mg base N qual st f k δ) (hd : ∀ ds P PE, ds.length = n → φ ds P PE → δ (endsD P PE) (startD N ds)) : FnOk P w K mg base (L2.CX P w) (k + 1) f fd ps (SpP K n φ) := by
  refine F.okX S (fun vs H Q E h => by rw [hn]; exact h.len) (fun cdv A outer s H vs Q E hr h => ?_)
  obtain ⟨G, ds, P', PE, hl, s1, r, hφ, to⟩ := h
  refine ⟨_, (hb cdv A outer s H E ⟨none, H, G⟩ hr).run, ?_⟩
  exact ⟨G, _, _, start_P s1 r, hd ds P' PE hl hφ, to.fits⟩
theorem fn_H {x qual : Str} {st : Stmt} {f : Addr} {fd : FuncData} {N ps : List Str} {k n : Nat} {φ : Phi} {δ : DS} (F : Fun K x qual st f fd) (S : FnScope N ps (defScope st)) (hn : ps.length = n + 1)
    (hb : BodyD P w K mg base N qual st f k δ) (hd : ∀ ds P PE, ds.length = n → φ ds P PE → δ (endsD P PE) (startH N ds)) : FnOk P w K mg base (L2.CX P w) (k + 1) f fd ps (SpH K n φ) := by
  refine F.okX S (fun vs H Q E h => by rw [hn]; exact h.len) (fun cdv A outer s H vs Q E hr h => ?_)
  obtain ⟨q, vs', G, ds, P', PE, e, hl, s1, hq, gq, r, hφ, to⟩ := h
  subst e
  refine ⟨_, (hb cdv A outer s H E ⟨some q, H, G⟩ hr).run, ?_⟩
  exact ⟨G, _, _, start_H s1 hq gq r, hd ds P' PE hl hφ, to.fits⟩
end

/-! ### calls -/
def Ret.d : Ret → D
  | .val d => d
  | .own d => d
section
variable {K : Fg} {F : Fx} {G G' H H' : Hp} {σ : L2.St} {sl : Sl} {v : V} {r : Ret} {d : D}
/-- behind a call that has not the hand -/
theorem Rel.behind {σ' : L2.St} {sl' : Sl} (R : Rel K F G σ H sl) (R' : Rel K ⟨none, H, G⟩ G' σ' H' sl') : Grown G H G' H' :=
  ⟨R'.g0, R'.ex, fun a o h => R'.fr a o h (fun z => nomatch z), R'.gn⟩
theorem Rel.called (R : Rel K F G σ H sl) (R' : Rel K ⟨none, H, G⟩ G' [some v] H' [r.slot]) : ∃ G2, Same G G2 ∧ Rel K F G2 σ H' sl ∧ Rp K G2 v r.d := by
  cases r with
  | val d =>
    obtain ⟨v', e, r⟩ := R'.frontVal
    cases e
    exact ⟨G', R'.g0, R.grown (R.behind R'), r⟩
  | own d =>
    obtain ⟨a, e, _⟩ := R'.frontOwn
    cases e
    obtain ⟨G2, s2, R2, r2, _⟩ := R'.close
    exact ⟨G2, R2.g0, R.grown (R.behind R2), r2⟩
theorem Rel.calledN (R : Rel K F G σ H sl) (R' : Rel K ⟨none, H, G⟩ G' [some v] H' [.own d]) : ∃ a, v = .ref a ∧ Same G G' ∧ Rel K F G' (some (.ref a) :: σ) H' (.own d :: sl) := by
  have R1 := R.grown (R.behind R')
  obtain ⟨a, e, o, g, h0, _⟩ := R'.frontOwn
  cases e
  obtain ⟨n1, n2, _⟩ := R.new0 (show H a = none from h0)
  refine ⟨a, rfl, R'.g0, ?_⟩
  obtain ⟨h1, h2, h3, h4, h5, as, s⟩ := R1
  obtain ⟨as0, s0⟩ := R.sls
  have hg := R.behind R'
  refine ⟨h1, h2, h3, h4, h5, a :: as0, .own o g n1 n2 (fun z => ?_) (s0.heap hg.g (fun b _ u q => hg.h b u q) fun b hb => ?_)⟩
  · obtain ⟨⟨u, hu⟩, _⟩ := s0.owned a z
    rw [show H a = none from h0] at hu
    cases hu
  · obtain ⟨⟨u, hu⟩, gb, _⟩ := s0.owned b hb
    cases q : G' b with
    | none => rfl
    | some y =>
      rcases hg.n b y q with z | z
      · rw [gb] at z; cases z
      · rw [hu] at z; cases z
/-- behind a call that has the hand -/
theorem Rel.behindH {q : Addr} {σ' : L2.St} {sl' : Sl} (hp : F.p = some q) (R : Rel K F G σ H sl) (R' : Rel K ⟨some q, H, G⟩ G' σ' H' sl') : Rel K F G' σ H' sl := by
  obtain ⟨as, s⟩ := R.sls
  have ne : ∀ a ∈ as, (some q : Option Addr) ≠ some a := fun a ha z => (s.owned a ha).2.2.2 (by rw [hp]; exact z)
  refine ⟨R'.ex, fun a o h => R'.g0 a o (R.g0 a o h), fun a o h n => R'.fr a o (R.fr a o h n) (by rw [← hp]; exact n), fun a o h => ?_, fun b hb => ?_, as, s.heap R'.g0 (fun a ha o h => R'.fr a o h (ne a ha)) fun a ha => ?_⟩
  · rcases R'.gn a o h with z | z
    · exact R.gn a o z
    · exact .inr (R.new0 z).1
  · rw [hp] at hb
    exact R'.hand b hb
  · obtain ⟨⟨u, hu⟩, ga, _⟩ := s.owned a ha
    cases q : G' a with
    | none => rfl
    | some y =>
      rcases R'.gn a y q with z | z
      · exact nomatch (show G a = some y from z).symm.trans ga
      · exact nomatch (show H a = none from z).symm.trans hu
theorem Rel.calledH {q : Addr} (hp : F.p = some q) (R : Rel K F G σ H sl) (R' : Rel K ⟨some q, H, G⟩ G' [some v] H' [r.slot]) : ∃ G2, Same G G2 ∧ Rel K F G2 σ H' sl ∧ Rp K G2 v r.d := by
  cases r with
  | val d =>
    obtain ⟨v', e, r⟩ := R'.frontVal
    cases e
    exact ⟨G', R'.g0, R.behindH hp R', r⟩
  | own d =>
    obtain ⟨a, e, _⟩ := R'.frontOwn
    cases e
    obtain ⟨G2, s2, R2, r2, _⟩ := R'.close
    exact ⟨G2, R2.g0, R.behindH hp R2, r2⟩
theorem Rel.calledHN {q : Addr} (hp : F.p = some q) (R : Rel K F G σ H sl) (R' : Rel K ⟨some q, H, G⟩ G' [some v] H' [.own d]) : ∃ a, v = .ref a ∧ Same G G' ∧ Rel K F G' (some (.ref a) :: σ) H' (.own d :: sl) := by
  have R1 := R.behindH hp R'
  obtain ⟨a, e, o, g, h0, _⟩ := R'.frontOwn
  cases e
  obtain ⟨n1, n2, _⟩ := R.new0 (show H a = none from h0)
  refine ⟨a, rfl, R'.g0, ?_⟩
  obtain ⟨as0, s0⟩ := R.sls
  have ne : ∀ a ∈ as0, (some q : Option Addr) ≠ some a := fun a ha z => (s0.owned a ha).2.2.2 (by rw [hp]; exact z)
  obtain ⟨h1, h2, h3, h4, h5, as, s⟩ := R1
  refine ⟨h1, h2, h3, h4, h5, a :: as0, .own o g n1 n2 (fun z => ?_) (s0.heap R'.g0 (fun b hb u q => R'.fr b u q (ne b hb)) fun b hb => ?_)⟩
  · obtain ⟨⟨u, hu⟩, _⟩ := s0.owned a z
    rw [show H a = none from h0] at hu
    cases hu
  · obtain ⟨⟨u, hu⟩, gb, _⟩ := s0.owned b hb
    cases q : G' b with
    | none => rfl
    | some y =>
      rcases R'.gn b y q with z | z
      · exact nomatch (show G b = some y from z).symm.trans gb
      · exact nomatch (show H b = none from z).symm.trans hu
end
def dCall (n : Nat) (φ : Phi) (τ : DA) : DE := fun sl E P => τ sl E fun ds sl1 => ds.length = n ∧ φ ds (fun r => P r.d sl1) fun x => E x sl1
/-- what it hands back is a new object of one's own -/
def dCallN (n : Nat) (φ : Phi) (τ : DA) : DE := fun sl E P => τ sl E fun ds sl1 => ds.length = n ∧ φ ds (fun r => ∃ d, r = .own d ∧ P d sl1) fun x => E x sl1
def dCallH (i n : Nat) (φ : Phi) (τ : DA) : DE := fun sl E P => sl[i]? = some .hand ∧ τ sl E fun ds sl1 => sl1[i]? = some .hand ∧ ds.length = n ∧ φ ds (fun r => P r.d sl1) fun x => E x sl1
def dCallHN (i n : Nat) (φ : Phi) (τ : DA) : DE := fun sl E P => sl[i]? = some .hand ∧ τ sl E fun ds sl1 => sl1[i]? = some .hand ∧ ds.length = n ∧ φ ds (fun r => ∃ d, r = .own d ∧ P d sl1) fun x => E x sl1
section
variable {X : Cx} {F : Fx} {W : WX} {k n i : Nat} {f C : Addr} {fd : FuncData} {ps : List Str} {φ : Phi} {x m : Str} {p pos apos : Pos} {e o : Expr} {es : List Expr} {τ : DA} {α : DE}
/-- the callee's promise from what the caller knows -/
theorem sp_P {σ : L2.St} {H G : Hp} {sl : Sl} {E : XP} {P : Ret → Prop} {ds : List D} {vs : List V} {Q : VK} (R : Rel X.K F G σ H sl) (r : RpL X.K G vs ds) (hl : ds.length = n) (h : φ ds P fun x => E x sl)
    (k : ∀ r, P r → ∀ G' H' v, Rel X.K ⟨none, H, G⟩ G' [some v] H' [r.slot] → Q v H') (kx : Thrown X.K F W G E) : SpP X.K n φ vs H Q (WE W σ) :=
  ⟨G, ds, P, _, hl, R.ex, r, h, fun r p G' H' v _ R' => k r p G' H' v R', fun y p G' H' c d s R' z => kx y sl p G' σ H' c d s (R.grown (R.behind R')) z⟩
theorem sp_H {q : Addr} {σ : L2.St} {H G : Hp} {sl : Sl} {E : XP} {P : Ret → Prop} {ds : List D} {vs : List V} {Q : VK} (hp : F.p = some q) (R : Rel X.K F G σ H sl) (r : RpL X.K G vs ds) (hl : ds.length = n) (h : φ ds P fun x => E x sl)
    (k : ∀ r, P r → ∀ G' H' v, Rel X.K ⟨some q, H, G⟩ G' [some v] H' [r.slot] → Q v H') (kx : Thrown X.K F W G E) : SpH X.K n φ (.ref q :: vs) H Q (WE W σ) :=
  ⟨q, vs, G, ds, P, _, rfl, hl, R.ex, (R.hand q hp).1, (R.hand q hp).2, r, h, fun r p G' H' v _ R' => k r p G' H' v R', fun y p G' H' c d s R' z => kx y sl p G' σ H' c d s (R.behindH hp R') z⟩
theorem qe_call (G : FnOk X.prog X.w X.K X.mg X.base (L2.CX X.prog X.w) k f fd ps (SpP X.K n φ)) (hr : Room k X.A) (hg : Gl X x) (hm : X.mg x = some (.ref f)) (hk : PySem.W.keepIn X.K (.ref f) = true) (hb : Binds X.K fd ps []) (tk : Takes X W)
    (ha : QA X F W (e :: es) τ) (hdb : (x == ("__debug__" : Str)) = false := by decide) (he : starEach (e :: es) X.env = (false, eval e X.env) :: starEach es X.env := by rfl) (hpl : (backTo pos (starEach es X.env)).any (·.1) = false := by rfl) :
    QE X F W (.Call (.Name x p) (e :: es) [] pos) (dCall n φ τ) :=
  ⟨pe_imp (pe_callS G hr hg hm hk hb (fun σ => passAt tk σ) ha.run hdb he hpl) fun σ H Q h => by
    obtain ⟨G, sl, E, P, R, h, k, kx⟩ := h
    refine ⟨G, sl, E, _, R, h, fun ds sl1 h1 G1 H1 vs s1 R1 r1 => sp_P R1 r1 h1.1 h1.2 (fun r p G2 H2 v R2 => ?_) (kx.mono s1), kx⟩
    obtain ⟨G3, s3, R3, r3⟩ := R1.called R2
    exact k _ sl1 p G3 H2 v (s1.trans s3) R3 r3⟩
theorem qn_call (G : FnOk X.prog X.w X.K X.mg X.base (L2.CX X.prog X.w) k f fd ps (SpP X.K n φ)) (hr : Room k X.A) (hg : Gl X x) (hm : X.mg x = some (.ref f)) (hk : PySem.W.keepIn X.K (.ref f) = true) (hb : Binds X.K fd ps []) (tk : Takes X W)
    (ha : QA X F W (e :: es) τ) (hdb : (x == ("__debug__" : Str)) = false := by decide) (he : starEach (e :: es) X.env = (false, eval e X.env) :: starEach es X.env := by rfl) (hpl : (backTo pos (starEach es X.env)).any (·.1) = false := by rfl) :
    QN X F W (.Call (.Name x p) (e :: es) [] pos) (dCallN n φ τ) :=
  ⟨pe_imp (pe_callS G hr hg hm hk hb (fun σ => passAt tk σ) ha.run hdb he hpl) fun σ H Q h => by
    obtain ⟨G, sl, E, P, R, h, k, kx⟩ := h
    refine ⟨G, sl, E, _, R, h, fun ds sl1 h1 G1 H1 vs s1 R1 r1 => sp_P R1 r1 h1.1 h1.2 (fun r p G2 H2 v R2 => ?_) (kx.mono s1), kx⟩
    obtain ⟨d, rfl, p⟩ := p
    obtain ⟨a, rfl, s3, R3⟩ := R1.calledN R2
    exact k _ sl1 p _ H2 a (s1.trans s3) R3⟩
/-- the hand ahead of the arguments -/
theorem pa_hand {t : TA} (hh : PE X o (tVar i)) (ha : PA X es t) (hs : starEach (o :: es) X.env = (false, eval o X.env) :: starEach es X.env) : PA X (o :: es) (tCons (tVar i) t) := pa_cons hh ha hs
theorem qe_callH (G : FnOk X.prog X.w X.K X.mg X.base (L2.CX X.prog X.w) k f fd ps (SpH X.K n φ)) (hr : Room k X.A) (hg : Gl X x) (hm : X.mg x = some (.ref f)) (hk : PySem.W.keepIn X.K (.ref f) = true) (hb : Binds X.K fd ps []) (tk : Takes X W)
    (hh : PE X o (tVar i)) (ha : QA X F W es τ) (hdb : (x == ("__debug__" : Str)) = false := by decide) (he : starEach (o :: es) X.env = (false, eval o X.env) :: starEach es X.env := by rfl) (hpl : (backTo pos (starEach es X.env)).any (·.1) = false := by rfl) :
    QE X F W (.Call (.Name x p) (o :: es) [] pos) (dCallH i n φ τ) :=
  ⟨pe_imp (pe_callS G hr hg hm hk hb (fun σ => passAt tk σ) (pa_hand hh ha.run he) hdb he hpl) fun σ H Q h => by
    obtain ⟨G, sl, E, P, R, ⟨hi, h⟩, k, kx⟩ := h
    obtain ⟨q, hp, e1, _⟩ := R.handIn hi
    refine ⟨_, e1, G, sl, E, _, R, h, fun ds sl1 h1 G1 H1 vs s1 R1 r1 => sp_H hp R1 r1 h1.2.1 h1.2.2 (fun r p G2 H2 v R2 => ?_) (kx.mono s1), kx⟩
    obtain ⟨G3, s3, R3, r3⟩ := R1.calledH hp R2
    exact k _ sl1 p G3 H2 v (s1.trans s3) R3 r3⟩
theorem qn_callH (G : FnOk X.prog X.w X.K X.mg X.base (L2.CX X.prog X.w) k f fd ps (SpH X.K n φ)) (hr : Room k X.A) (hg : Gl X x) (hm : X.mg x = some (.ref f)) (hk : PySem.W.keepIn X.K (.ref f) = true) (hb : Binds X.K fd ps []) (tk : Takes X W)
    (hh : PE X o (tVar i)) (ha : QA X F W es τ) (hdb : (x == ("__debug__" : Str)) = false := by decide) (he : starEach (o :: es) X.env = (false, eval o X.env) :: starEach es X.env := by rfl) (hpl : (backTo pos (starEach es X.env)).any (·.1) = false := by rfl) :
    QN X F W (.Call (.Name x p) (o :: es) [] pos) (dCallHN i n φ τ) :=
  ⟨pe_imp (pe_callS G hr hg hm hk hb (fun σ => passAt tk σ) (pa_hand hh ha.run he) hdb he hpl) fun σ H Q h => by
    obtain ⟨G, sl, E, P, R, ⟨hi, h⟩, k, kx⟩ := h
    obtain ⟨q, hp, e1, _⟩ := R.handIn hi
    refine ⟨_, e1, G, sl, E, _, R, h, fun ds sl1 h1 G1 H1 vs s1 R1 r1 => sp_H hp R1 r1 h1.2.1 h1.2.2 (fun r p G2 H2 v R2 => ?_) (kx.mono s1), kx⟩
    obtain ⟨d, rfl, p⟩ := p
    obtain ⟨a, rfl, s3, R3⟩ := R1.calledHN hp R2
    exact k _ sl1 p _ H2 a (s1.trans s3) R3⟩
end
end Dx
namespace Dx
open PySem L2
section
variable {K : Fg}
/-! ### in, is -/
def D.flat : D → Bool
  | .non | .bl _ | .int _ | .str _ => true
  | _ => false
theorem Rp.flat {G : Hp} {v : V} {d : D} (r : Rp K G v d) (h : d.flat = true) : flatV v = true := by
  cases r <;> first | rfl | (cases h; done)
theorem RpL.flat {G : Hp} : ∀ {vs : List V} {ds : List D}, RpL K G vs ds → ds.all D.flat = true → vs.all flatV = true
  | _, _, .nil, _ => rfl
  | _, _, .cons r t, h => by
    rw [List.all_cons, Bool.and_eq_true] at h
    rw [List.all_cons, r.flat h.1, RpL.flat t h.2]
    rfl
theorem eqV_flat {G : Hp} {v w : V} {d e : D} (r : Rp K G v d) (s : Rp K G w e) (h1 : d.flat = true) (h2 : e.flat = true) : eqV v w = D.eqv d e := by
  cases r <;> cases s <;> first | (unfold eqV D.eqv; rfl) | (cases h1; done) | (cases h2; done)
def D.memb (d : D) (ds : List D) : Bool := ds.any fun e => D.eqv e d
theorem inV_flat {G : Hp} {v : V} {d : D} (r : Rp K G v d) (h1 : d.flat = true) : ∀ {vs : List V} {ds : List D}, RpL K G vs ds → ds.all D.flat = true → inV v vs = D.memb d ds
  | _, _, .nil, _ => rfl
  | _, _, .cons s t, h => by
    rw [List.all_cons, Bool.and_eq_true] at h
    have q := inV_flat r h1 t h.2
    unfold inV D.memb at q ⊢
    rw [List.any_cons, List.any_cons, eqV_flat s r h.1 h1, q]
/-- a key of a dict -/
def D.key : D → Option Key
  | .int i => some (.inl i)
  | .str x => some (.inr x)
  | _ => none
theorem Rp.key {G : Hp} {v : V} {d : D} {k : Key} (r : Rp K G v d) (h : d.key = some k) : v = kV k := by
  cases r <;> first | (cases h; rfl) | cases h
/-- what a dict's keys and values hold at a key -/
def atKey (k : Key) : List Key → List D → Option D
  | k' :: ks, d :: ds => if k' = k then some d else atKey k ks ds
  | _, _ => none
def hasKey (k : Key) (ks : List Key) : Bool := ks.any fun k' => decide (k' = k)
theorem valV_keys (k : Key) : ∀ kvs : List (Key × V), (valV kvs k).isSome = hasKey k (kvs.map (·.1))
  | [] => rfl
  | p :: r => by
    by_cases e : p.1 = k
    · rw [valV_pos e]
      unfold hasKey
      rw [List.map_cons, List.any_cons, decide_eq_true e]
      rfl
    · rw [valV_neg e, valV_keys k r]
      unfold hasKey
      rw [List.map_cons, List.any_cons, decide_eq_false e]
      rfl
theorem valV_at {G : Hp} (k : Key) : ∀ {kvs : List (Key × V)} {ds : List D}, RpL K G (kvs.map (·.2)) ds → ∀ {d : D}, atKey k (kvs.map (·.1)) ds = some d → ∃ v, valV kvs k = some v ∧ Rp K G v d
  | [], _, t, d, h => by
    cases t
    cases h
  | p :: r, _, t, d, h => by
    rw [List.map_cons] at t h
    cases t with
    | cons r1 t =>
      unfold atKey at h
      by_cases e : p.1 = k
      · rw [if_pos e] at h
        cases h
        exact ⟨_, valV_pos e, r1⟩
      · rw [if_neg e] at h
        obtain ⟨v, h1, h2⟩ := valV_at k t h
        exact ⟨v, by rw [valV_neg e]; exact h1, h2⟩
def oIn (neg : Bool) : O2 := fun d e P => match e with
  | .str z => ∃ c, d = .str ⟨#[c]⟩ ∧ P (.bl (if neg then !decide (c ∈ z.cps.toList) else decide (c ∈ z.cps.toList)))
  | .lst ds => d.flat = true ∧ ds.all D.flat = true ∧ P (.bl (if neg then !D.memb d ds else D.memb d ds))
  | .tup ds => d.flat = true ∧ ds.all D.flat = true ∧ P (.bl (if neg then !D.memb d ds else D.memb d ds))
  | .dic ks _ => ∃ k, d.key = some k ∧ P (.bl (if neg then !hasKey k ks else hasKey k ks))
  | _ => False
def rInD (K : Fg) (neg : Bool) : R2 := fun x y H Q => (∃ (c : Nat) (z : Str), x = .str ⟨#[c]⟩ ∧ y = .str z ∧ Q (.bl (if neg then !decide (c ∈ z.cps.toList) else decide (c ∈ z.cps.toList))) H) ∨ rIn K neg x y H Q ∨
  ∃ a o, y = .ref a ∧ DGet H a x o ∧ Q (.bl (if neg then !o.isSome else o.isSome)) H
theorem op_dIn {X : Cx} (hu : X.A.units + 1 < cLine) : OpR X (compareOp .In) (fun x y H Q => ∃ a o, y = .ref a ∧ DGet H a x o ∧ Q (.bl o.isSome) H) := by
  intro pins s σ H x y v u Q I rx ry h
  obtain ⟨a, o, rfl, g, q⟩ := h
  cases ry
  exact d_in hu I g rx fun s' I' => ⟨.bl o.isSome, H, I', rfl, q⟩
theorem op_dNotIn {X : Cx} (hu : X.A.units + 1 < cLine) : OpR X (compareOp .NotIn) (fun x y H Q => ∃ a o, y = .ref a ∧ DGet H a x o ∧ Q (.bl (!o.isSome)) H) := by
  intro pins s σ H x y v u Q I rx ry h
  obtain ⟨a, o, rfl, g, q⟩ := h
  cases ry
  exact d_notIn hu I g rx fun s' I' => ⟨.bl (!o.isSome), H, I', rfl, q⟩
theorem op_inD {X : Cx} (hu : X.A.units + 1 < cLine) : OpR X (compareOp .In) (rInD X.K false) := op_in_sign.or (op_in_seq.or (op_dIn hu))
theorem op_notInD {X : Cx} (hu : X.A.units + 1 < cLine) : OpR X (compareOp .NotIn) (rInD X.K true) := op_notIn_sign.or (op_notIn_seq.or (op_dNotIn hu))
theorem rf_in {neg : Bool} : Rf2 K (rInD K neg) (oIn neg) := by
  intro G H x y d e P Q s r1 r2 h k
  cases r2 with
  | str z =>
    obtain ⟨c, rfl, h⟩ := h
    cases r1
    exact .inl ⟨c, z, rfl, rfl, k _ h G H _ (.refl s) (.bl _)⟩
  | lst g t =>
    obtain ⟨h1, h2, h3⟩ := h
    refine .inr (.inl ⟨_, _, rfl, .inl (SqL.of (s _ _ g)), r1.flat h1, t.flat h2, ?_⟩)
    rw [inV_flat r1 h1 t h2]
    exact k _ h3 G H _ (.refl s) (.bl _)
  | tup g t =>
    obtain ⟨h1, h2, h3⟩ := h
    refine .inr (.inl ⟨_, _, rfl, .inr (sqT_mono s g), r1.flat h1, t.flat h2, ?_⟩)
    rw [inV_flat r1 h1 t h2]
    exact k _ h3 G H _ (.refl s) (.bl _)
  | @dic a kvs ks ds g ek t =>
    obtain ⟨kk, h1, h2⟩ := h
    have ex := r1.key h1
    subst ex
    refine .inr (.inr ⟨_, _, rfl, DGet.k (k := kk) (s _ _ g), ?_⟩)
    rw [valV_keys, ek]
    exact k _ h2 G H _ (.refl s) (.bl _)
  | _ => exact h.elim
/-- is None, is True, is False -/
def D.isN : D → Bool
  | .non => true
  | _ => false
def oIs (neg : Bool) : O2 := fun d e P => match e with
  | .non => P (.bl (if neg then !d.isN else d.isN))
  | .bl b => ∃ a, d = .bl a ∧ P (.bl (if neg then !decide (a = b) else decide (a = b)))
  | _ => False
def rIsD (neg : Bool) : R2 := fun x y H Q => (y = .non ∧ Q (.bl (if neg then !decide (x = .non) else decide (x = .non))) H) ∨ ∃ a b : Bool, x = .bl a ∧ y = .bl b ∧ Q (.bl (if neg then !decide (a = b) else decide (a = b))) H
theorem op_isD {X : Cx} : OpR X (compareOp .Is) (rIsD false) := op_isN.or op_isBl
theorem op_isNotD {X : Cx} : OpR X (compareOp .IsNot) (rIsD true) := op_notN.or op_notBl
theorem Rp.isN {G : Hp} {v : V} {d : D} (r : Rp K G v d) : decide (v = .non) = d.isN := by
  cases r <;> first | rfl | (unfold D.isN; exact decide_eq_false (fun z => nomatch z))
theorem rf_is {neg : Bool} : Rf2 K (rIsD neg) (oIs neg) := by
  intro G H x y d e P Q s r1 r2 h k
  cases r2 with
  | non =>
    refine .inl ⟨rfl, ?_⟩
    rw [r1.isN]
    exact k _ h G H _ (.refl s) (.bl _)
  | bl b =>
    obtain ⟨a, rfl, h⟩ := h
    cases r1
    exact .inr ⟨a, b, rfl, rfl, k _ h G H _ (.refl s) (.bl _)⟩
  | _ => exact h.elim

/-! ### x[i] -/
theorem RpL.atI {G : Hp} {vs : List V} {ds : List D} {i : Int} {d : D} (t : RpL K G vs ds) (h : L2.atI ds i = some d) : ∃ v, L2.atI vs i = some v ∧ Rp K G v d := by
  unfold L2.atI at h ⊢
  rw [t.length]
  cases e : ixN ds.length i with
  | none => rw [e] at h; cases h
  | some j =>
    rw [e] at h
    exact t.at h
def oIx : O2 := fun d e P => match d, e with
  | .lst ds, .int i => ∃ f, L2.atI ds i = some f ∧ P f
  | .tup ds, .int i => ∃ f, L2.atI ds i = some f ∧ P f
  | .str z, .int i => z.length ≤ sizeLine ∧ ∃ c, L2.atI z.cps.toList i = some c ∧ P (.str ⟨#[c]⟩)
  | _, _ => False
theorem rf_ix : Rf2 K (rIx K) oIx := by
  intro G H x y d e P Q s r1 r2 h k
  cases r1 with
  | lst g t =>
    cases r2 <;> first | exact h.elim | skip
    obtain ⟨f, h1, h2⟩ := h
    obtain ⟨v, h3, r⟩ := t.atI h1
    exact .inl ⟨_, _, _, v, rfl, rfl, SqL.of (s _ _ g), h3, k _ h2 G H _ (.refl s) r⟩
  | tup g t =>
    cases r2 <;> first | exact h.elim | skip
    obtain ⟨f, h1, h2⟩ := h
    obtain ⟨v, h3, r⟩ := t.atI h1
    exact .inr (.inl ⟨_, _, _, v, rfl, rfl, sqT_mono s g, h3, k _ h2 G H _ (.refl s) r⟩)
  | str z =>
    cases r2 <;> first | exact h.elim | skip
    obtain ⟨h1, c, h2, h3⟩ := h
    exact .inr (.inr ⟨z, _, c, rfl, rfl, h1, h2, k _ h3 G H _ (.refl s) (.str _)⟩)
  | _ => exact h.elim
/-- d[k] -/
def oGet : O2 := fun d e P => match d with
  | .dic ks ds => ∃ k f, e.key = some k ∧ atKey k ks ds = some f ∧ P f
  | _ => False
end
section
variable {X : Cx} {F : Fx} {W : WX} {a b c e : Expr} {es : List Expr} {α β γ : DE} {pos : Pos} {i : Nat} {x : Str} {τ : DA}
theorem qe_ix (ha : QE X F W a α) (hb : QE X F W b β) (hs : PlainIx b := by exact fun _ _ => rfl) : QE X F W (.Subscript a b pos) (dOp oIx α β) :=
  ⟨pe_imp (pe_ix ix_seq ha.run hb.run hs) fun _ _ _ h => LE.op rf_ix h⟩
theorem qe_get (hu : X.A.units + 1 < cLine) (ha : QE X F W a α) (hb : QE X F W b β) (hs : NoSl b := by exact fun _ _ => rfl) : QE X F W (.Subscript a b pos) (dOp oGet α β) :=
  ⟨pe_imp (pe_dget hu ha.run hb.run hs) fun σ H Q h => by
    obtain ⟨G, sl, E, P, R, h, k, kx⟩ := h
    refine ⟨G, sl, E, _, R, h, fun d sl1 h1 G1 H1 v1 s1 R1 r1 => ⟨G1, sl1, E, _, R1, h1, fun d2 sl2 h2 G2 H2 v2 s2 R2 r2 => ?_, kx.mono s1⟩, kx⟩
    cases r1 <;> first | exact h2.elim | skip
    rename_i aa kvs ks ds g ek t
    obtain ⟨kk, f, h3, h4, h5⟩ := h2
    have ex := r2.key h3
    subst ex ek
    obtain ⟨v, h6, r⟩ := valV_at kk t h4
    refine ⟨aa, v, rfl, ?_, k f sl2 h5 G2 H2 v (s1.trans s2) R2 (r.mono s2)⟩
    rw [← h6]
    exact DGet.k (R2.ex _ _ (s2 _ _ g))⟩
/-! ### x[i:j] -/
abbrev DO := Sl → XP → (Option Int → Sl → Prop) → Prop
def LO (K : Fg) (F : Fx) (W : WX) (δ : DO) : TO := fun σ H Q => ∃ G sl E P, Rel K F G σ H sl ∧ δ sl E P ∧ (∀ o sl', P o sl' → ∀ G' H', Same G G' → Rel K F G' σ H' sl' → Q o H') ∧ Thrown K F W G E
structure QO (X : Cx) (F : Fx) (W : WX) (e : Option Expr) (δ : DO) : Prop where
  run : PO X e (LO X.K F W δ)
theorem po_imp {X : Cx} {e : Option Expr} {t t' : TO} (h : PO X e t) (i : ∀ σ H Q, t' σ H Q → t σ H Q) : PO X e t' := ⟨fun pins s σ H Q I q => h.run pins s σ H Q I (i σ H Q q)⟩
def dNoPart : DO := fun sl _ P => P none sl
def dPart (α : DE) : DO := fun sl E P => α sl E fun d sl1 => ∃ i, d = .int i ∧ P (some i) sl1
theorem qo_none : QO X F W none dNoPart := ⟨po_imp po_none fun σ H Q h => by
  obtain ⟨G, sl, E, P, R, h, k, kx⟩ := h
  exact k none sl h G H (Same.refl _) R⟩
theorem qo_some (he : QE X F W e α) : QO X F W (some e) (dPart α) := ⟨po_imp (po_some he.run) fun σ H Q h => by
  obtain ⟨G, sl, E, P, R, h, k, kx⟩ := h
  refine ⟨G, sl, E, _, R, h, fun d sl1 h1 G1 H1 v1 s1 R1 r1 => ?_, kx⟩
  obtain ⟨i, rfl, p⟩ := h1
  cases r1
  exact ⟨i, rfl, k _ sl1 p G1 H1 s1 R1⟩⟩
def cutD (ds : List D) (lo hi : Option Int) : List D := (ds.drop (HT.sIx ds.length 0 lo)).take (HT.sIx ds.length ds.length hi - HT.sIx ds.length 0 lo)
theorem RpL.cut {K : Fg} {G : Hp} {vs : List V} {ds : List D} (t : RpL K G vs ds) (lo hi : Option Int) : RpL K G (cutV vs lo hi) (cutD ds lo hi) := by
  unfold cutV cutD
  rw [t.length]
  exact (t.drop _).take _
def oSl (d : D) (lo hi : Option Int) (P : D → Prop) : Prop := match d with
  | .lst ds => P (.lst (cutD ds lo hi))
  | .tup ds => ¬ (HT.sIx ds.length 0 lo = 0 ∧ HT.sIx ds.length ds.length hi = ds.length) ∧ P (.tup (cutD ds lo hi))
  | .str z => z.length ≤ sizeLine ∧ P (.str (cutS z lo hi))
  | _ => False
def dSl (α : DE) (l1 l2 : DO) : DE := fun sl E P => α sl E fun d sl1 => l1 sl1 E fun lo sl2 => l2 sl2 E fun hi sl3 => oSl d lo hi fun f => P f sl3
theorem qe_slice {lo hi : Option Expr} {p2 : Pos} {l1 l2 : DO} (he : QE X F W e α) (hl : QO X F W lo l1) (hh : QO X F W hi l2) : QE X F W (.Subscript e (.Slice lo hi none p2) pos) (dSl α l1 l2) :=
  ⟨pe_imp (pe_slice (sl_list.or (sl_tup.or sl_str)) he.run hl.run hh.run) fun σ H Q h => by
    obtain ⟨G, sl, E, P, R, h, k, kx⟩ := h
    refine ⟨G, sl, E, _, R, h, fun d sl1 h1 G1 H1 v1 s1 R1 r1 => ⟨G1, sl1, E, _, R1, h1, fun lo sl2 h2 G2 H2 s2 R2 => ⟨G2, sl2, E, _, R2, h2, fun hi sl3 h3 G3 H3 s3 R3 => ?_, (kx.mono s1).mono s2⟩, kx.mono s1⟩, kx⟩
    have r3 := (r1.mono s2).mono s3
    have ss := s1.trans (s2.trans s3)
    cases r3 with
    | lst g t =>
      refine .inl ⟨_, _, rfl, SqL.of (R3.ex _ _ g), fun p hp => ?_⟩
      exact k _ sl3 h3 _ _ _ (ss.trans (Grown.new R3.ex hp _).g) (R3.grown (Grown.new R3.ex hp _)) (.lst upd_same ((t.cut lo hi).mono (Grown.new R3.ex hp _).g))
    | tup g t =>
      refine .inr (.inl ⟨_, _, rfl, sqT_mono R3.ex g, by rw [t.length]; exact h3.1, fun p hp => ?_⟩)
      exact k _ sl3 h3.2 _ _ _ (ss.trans (Grown.new R3.ex hp _).g) (R3.grown (Grown.new R3.ex hp _)) (.tup (SqT.of upd_same) ((t.cut lo hi).mono (Grown.new R3.ex hp _).g))
    | str z => exact .inr (.inr ⟨z, rfl, h3.1, k _ sl3 h3.2 G3 H3 _ ss R3 (.str _)⟩)
    | _ => exact h3.elim⟩

/-! ### built-ins by their names -/
theorem LE.cl {r : List V → Hp → VK → Prop} {ρ : OA} (hr : RfA X.K r ρ) {σ : L2.St} {H : Hp} {Q : VK} (h : LE X.K F W (dCl ρ τ) σ H Q) : tCB r (LA X.K F W τ) σ H Q := by
  obtain ⟨G, sl, E, P, R, h, k, kx⟩ := h
  exact ⟨G, sl, E, _, R, h, fun ds sl1 h1 G1 H1 vs s1 R1 r1 => hr G1 H1 vs ds _ _ R1.ex r1 h1 fun f hf G3 H3 v3 g r3 => k f sl1 hf G3 H3 v3 (s1.trans g.g) (R1.grown g) r3, kx⟩
theorem qe_callB {id : String} {r : List V → Hp → VK → Prop} {ρ : OA} {p : Pos} (hc : CallR X (.builtin id) r) (hr : RfA X.K r ρ) (hg : Gl X x) (hm : X.mg x = none) (hv : bootBuiltins x = some (.builtin id)) (ha : QA X F W (e :: es) τ)
    (hn : x ≠ "__name__" := by decide) (hdb : (x == ("__debug__" : Str)) = false := by decide) (he : starEach (e :: es) X.env = (false, eval e X.env) :: starEach es X.env := by rfl) (hpl : (backTo pos (starEach es X.env)).any (·.1) = false := by rfl) :
    QE X F W (.Call (.Name x p) (e :: es) [] pos) (dCl ρ τ) := ⟨pe_imp (pe_callB hc hg hm hv ha.run hn hdb he hpl) fun _ _ _ h => LE.cl hr h⟩
theorem qe_callT {T : String} {r : List V → Hp → VK → Prop} {ρ : OA} {p : Pos} (hc : CallR X (.type T) r) (hr : RfA X.K r ρ) (hg : Gl X x) (hm : X.mg x = none) (hv : bootBuiltins x = some (.type T)) (ha : QA X F W (e :: es) τ)
    (hn : x ≠ "__name__" := by decide) (hdb : (x == ("__debug__" : Str)) = false := by decide) (he : starEach (e :: es) X.env = (false, eval e X.env) :: starEach es X.env := by rfl) (hpl : (backTo pos (starEach es X.env)).any (·.1) = false := by rfl) :
    QE X F W (.Call (.Name x p) (e :: es) [] pos) (dCl ρ τ) := ⟨pe_imp (pe_callTy hc hg hm hv ha.run hn hdb he hpl) fun _ _ _ h => LE.cl hr h⟩
end
section
variable {K : Fg}
def oLen : OA := fun ds P => match ds with
  | [.lst xs] => P (.int xs.length)
  | [.tup xs] => P (.int xs.length)
  | [.str z] => z.length ≤ sizeLine ∧ P (.int z.length)
  | [.dic ks _] => P (.int ks.length)
  | _ => False
def rLenD (K : Fg) : List V → Hp → VK → Prop := fun xs H Q => (∃ x n, xs = [x] ∧ LenV K x H n ∧ Q (.int n) H) ∨ ∃ a kvs, xs = [.ref a] ∧ Rd H a (.dK kvs) ∧ Q (.int kvs.length) H
theorem call_lenDic {X : Cx} : CallR X (.builtin "len") (fun xs H Q => ∃ a kvs, xs = [.ref a] ∧ Rd H a (.dK kvs) ∧ Q (.int kvs.length) H) := by
  intro pins s σ H xs us Q I r h
  obtain ⟨a, kvs, rfl, hd, q⟩ := h
  obtain ⟨u, rfl, rx⟩ := vals1 r
  cases rx
  exact d_len I hd fun t s' I' => ⟨.int _, H, I', ⟨t, rfl⟩, q⟩
theorem call_lenD {X : Cx} : CallR X (.builtin "len") (rLenD X.K) := call_len.or call_lenDic
theorem rf_len : RfA K (rLenD K) oLen := by
  intro G H xs ds P Q s r h k
  cases r with
  | nil => exact h.elim
  | cons r t =>
    cases t with
    | cons _ _ => cases r <;> exact h.elim
    | nil =>
      cases r with
      | lst g t => exact .inl ⟨_, _, rfl, .inl ⟨_, SqL.of (s _ _ g), rfl⟩, by rw [t.length]; exact k _ h G H _ (.refl s) (.int _)⟩
      | tup g t => exact .inl ⟨_, _, rfl, .inr ⟨_, sqT_mono s g, rfl⟩, by rw [t.length]; exact k _ h G H _ (.refl s) (.int _)⟩
      | str z => exact .inl ⟨_, _, rfl, ⟨h.1, rfl⟩, k _ h.2 G H _ (.refl s) (.int _)⟩
      | @dic a kvs ks ds g ek t => 
        refine .inr ⟨_, _, rfl, .inl (s _ _ g), ?_⟩
        have q := k _ h G H _ (.refl s) (.int _)
        rw [← ek, List.length_map] at q
        exact q
      | _ => exact h.elim
/-- int(n), abs(n), str(n) -/
def oInt : OA := fun ds P => match ds with
  | [.int i] => P (.int i)
  | [.bl b] => P (.int (if b then 1 else 0))
  | _ => False
theorem rf_int : RfA K (fun xs H Q => (∃ i, xs = [.int i] ∧ Q (.int i) H) ∨ ∃ k, xs = [.bl k] ∧ Q (.int (if k then 1 else 0)) H) oInt := by
  intro G H xs ds P Q s r h k
  cases r with
  | nil => exact h.elim
  | cons r t =>
    cases t with
    | cons _ _ => cases r <;> exact h.elim
    | nil =>
      cases r with
      | int i => exact .inl ⟨i, rfl, k _ h G H _ (.refl s) (.int _)⟩
      | bl i => exact .inr ⟨i, rfl, k _ h G H _ (.refl s) (.int _)⟩
      | _ => exact h.elim
def oI1 (C : Int → Prop) (f : Int → D) : OA := fun ds P => match ds with
  | [.int i] => C i ∧ P (f i)
  | _ => False
theorem rf_I1 {C : Int → Prop} {f : Int → D} {g : Int → V} (hf : ∀ G i, Rp K G (g i) (f i)) : RfA K (fun xs H Q => ∃ i, xs = [.int i] ∧ C i ∧ Q (g i) H) (oI1 C f) := by
  intro G H xs ds P Q s r h k
  cases r with
  | nil => exact h.elim
  | cons r t =>
    cases t with
    | cons _ _ => cases r <;> exact h.elim
    | nil =>
      cases r <;> first | exact h.elim | skip
      exact ⟨_, rfl, h.1, k _ h.2 G H _ (.refl s) (hf G _)⟩
abbrev oStrI : OA := oI1 (fun i => i.natAbs.log2 < 1920) fun i => .str (toString i)
theorem rf_strI : RfA K (fun xs H Q => ∃ i, xs = [.int i] ∧ i.natAbs.log2 < 1920 ∧ Q (.str (toString i)) H) oStrI := rf_I1 fun _ _ => .str _
def oAbs : OA := fun ds P => match ds with
  | [.int i] => P (.int (if i < 0 then -i else i))
  | _ => False
theorem rf_abs : RfA K (fun xs H Q => ∃ i, xs = [.int i] ∧ Q (.int (if i < 0 then -i else i)) H) oAbs := by
  intro G H xs ds P Q s r h k
  cases r with
  | nil => exact h.elim
  | cons r t =>
    cases t with
    | cons _ _ => cases r <;> exact h.elim
    | nil =>
      cases r <;> first | exact h.elim | skip
      exact ⟨_, rfl, k _ h G H _ (.refl s) (.int _)⟩
def oI2 (f : Int → Int → D) : OA := fun ds P => match ds with
  | [.int i, .int j] => P (f i j)
  | _ => False
theorem rf_I2 {f : Int → Int → D} {g : Int → Int → V} (hf : ∀ G i j, Rp K G (g i j) (f i j)) : RfA K (fun xs H Q => ∃ i j, xs = [.int i, .int j] ∧ Q (g i j) H) (oI2 f) := by
  intro G H xs ds P Q s r h k
  cases r with
  | nil => exact h.elim
  | cons r t =>
    cases t with
    | nil => cases r <;> exact h.elim
    | cons r2 t =>
      cases t with
      | cons _ _ => cases r <;> first | exact h.elim | (cases r2 <;> exact h.elim)
      | nil =>
        cases r <;> first | exact h.elim | skip
        cases r2 <;> first | exact h.elim | skip
        exact ⟨_, _, rfl, k _ h G H _ (.refl s) (hf G _ _)⟩
abbrev oMin2 : OA := oI2 fun i j => .int (if j < i then j else i)
abbrev oMax2 : OA := oI2 fun i j => .int (if j > i then j else i)
/-- divmod: a tuple -/
def oDivmod : OA := fun ds P => match ds with
  | [.int i, .int j] => CDiv i j ∧ P (.tup [.int (i / j), .int (i % j)])
  | _ => False
theorem rf_divmod : RfA K (fun xs H Q => ∃ i j, xs = [.int i, .int j] ∧ CDiv i j ∧ ∀ p, H p = none → Q (.ref p) (upd H p (.tup [.int (i / j), .int (i % j)]))) oDivmod := by
  intro G H xs ds P Q s r h k
  cases r with
  | nil => exact h.elim
  | cons r t =>
    cases t with
    | nil => cases r <;> exact h.elim
    | cons r2 t =>
      cases t with
      | cons _ _ => cases r <;> first | exact h.elim | (cases r2 <;> exact h.elim)
      | nil =>
        cases r <;> first | exact h.elim | skip
        cases r2 <;> first | exact h.elim | skip
        exact ⟨_, _, rfl, h.1, fun p hp => k _ h.2 _ _ _ (Grown.new s hp _) (.tup (SqT.of upd_same) (.cons (.int _) (.cons (.int _) .nil)))⟩
/-- list(x), tuple(x) of a list or a tuple -/
def oList : OA := fun ds P => match ds with
  | [.lst xs] => P (.lst xs)
  | [.tup xs] => P (.lst xs)
  | _ => False
theorem rf_list : RfA K (fun xs H Q => ∃ p ys, xs = [.ref p] ∧ (SqL K H p ys ∨ SqT K H p ys) ∧ ∀ l, H l = none → Q (.ref l) (upd H l (.lst ys))) oList := by
  intro G H xs ds P Q s r h k
  cases r with
  | nil => exact h.elim
  | cons r t =>
    cases t with
    | cons _ _ => cases r <;> exact h.elim
    | nil =>
      cases r with
      | lst g t => exact ⟨_, _, rfl, .inl (SqL.of (s _ _ g)), fun l hl => k _ h _ _ _ (Grown.new s hl _) (.lst upd_same (t.mono (Grown.new s hl _).g))⟩
      | tup g t => exact ⟨_, _, rfl, .inr (sqT_mono s g), fun l hl => k _ h _ _ _ (Grown.new s hl _) (.lst upd_same (t.mono (Grown.new s hl _).g))⟩
      | _ => exact h.elim
def oTuple : OA := fun ds P => match ds with
  | [.lst xs] => P (.tup xs)
  | [.tup xs] => P (.tup xs)
  | _ => False
theorem rf_tuple : RfA K (fun xs H Q => ∃ p ys, xs = [.ref p] ∧ ((SqL K H p ys ∧ ∀ l, H l = none → Q (.ref l) (upd H l (.tup ys))) ∨ (SqT K H p ys ∧ Q (.ref p) H))) oTuple := by
  intro G H xs ds P Q s r h k
  cases r with
  | nil => exact h.elim
  | cons r t =>
    cases t with
    | cons _ _ => cases r <;> exact h.elim
    | nil =>
      cases r with
      | lst g t => exact ⟨_, _, rfl, .inl ⟨SqL.of (s _ _ g), fun l hl => k _ h _ _ _ (Grown.new s hl _) (.tup (SqT.of upd_same) (t.mono (Grown.new s hl _).g))⟩⟩
      | tup g t => exact ⟨_, _, rfl, .inr ⟨sqT_mono s g, k _ h G H _ (.refl s) (.tup g t)⟩⟩
      | _ => exact h.elim
/-- x.upper() of a text -/
def oUpper : O1 := fun d P => match d with
  | .str z => z.length ≤ 5592405 ∧ P (.str (Txt.upper z))
  | _ => False
end
section
variable {X : Cx} {F : Fx} {W : WX} {a b c e o : Expr} {es : List Expr} {α β γ : DE} {pos : Pos} {i : Nat} {x : Str} {τ : DA}
theorem qe_upper {apos cpos : Pos} (ho : QE X F W o α) (hbase : attributeBase o "upper" X.env (eval o X.env) = eval o X.env := by rfl) (hline : (apos.endLine == cpos.line) = true := by rfl) :
    QE X F W (.Call (.Attribute o "upper" apos) [] [] cpos) (dUn oUpper α) :=
  ⟨pe_imp (pe_upper ho.run hbase hline) fun σ H Q h => by
    obtain ⟨G, sl, E, P, R, h, k, kx⟩ := h
    refine ⟨G, sl, E, _, R, h, fun d sl1 h1 G1 H1 v1 s1 R1 r1 => ?_, kx⟩
    cases r1 <;> first | exact h1.elim | skip
    exact ⟨⟨_, rfl⟩, _, rfl, rfl, h1.1, k _ sl1 h1.2 G1 H1 _ s1 R1 (.str _)⟩⟩
/-- list(x) as a new object of one's own -/
theorem qn_list {p : Pos} (hg : Gl X "list") (hm : X.mg "list" = none) (hv : bootBuiltins "list" = some (.type "list")) (ha : QA X F W (e :: es) τ)
    (he : starEach (e :: es) X.env = (false, eval e X.env) :: starEach es X.env := by rfl) (hpl : (backTo pos (starEach es X.env)).any (·.1) = false := by rfl) :
    QN X F W (.Call (.Name "list" p) (e :: es) [] pos) (dCl oList τ) :=
  ⟨pe_imp (pe_callTy call_list_of hg hm hv ha.run (by decide) (by decide) he hpl) fun σ H Q h => by
    obtain ⟨G, sl, E, P, R, h, k, kx⟩ := h
    refine ⟨G, sl, E, _, R, h, fun ds sl1 h1 G1 H1 vs s1 R1 r1 => ?_, kx⟩
    cases r1 with
    | nil => exact h1.elim
    | cons r t =>
      cases t with
      | cons _ _ => cases r <;> exact h1.elim
      | nil =>
        cases r with
        | lst g t => exact ⟨_, _, rfl, .inl (SqL.of (R1.ex _ _ g)), fun l hl => k _ sl1 h1 _ _ l s1 (R1.own hl _ ⟨_, upd_same, t⟩)⟩
        | tup g t => exact ⟨_, _, rfl, .inr (sqT_mono R1.ex g), fun l hl => k _ sl1 h1 _ _ l s1 (R1.own hl _ ⟨_, upd_same, t⟩)⟩
        | _ => exact h1.elim⟩
end
end Dx
namespace Dx
open PySem L2
/-! ### isinstance -/
/-- the built-in type of a tree -/
def D.ty : D → String
  | .non => "NoneType"
  | .bl _ => "bool"
  | .int _ => "int"
  | .str _ => "str"
  | .lst _ => "list"
  | .tup _ => "tuple"
  | .dic _ _ => "dict"
  | .obj _ _ _ => ""
  | .scr _ => ""
def tyNames : List String := ["NoneType", "bool", "int", "str", "list", "tuple", "dict"]
def D.isObj : D → Bool
  | .obj _ _ _ => true
  | .scr _ => true
  | _ => false
theorem Rp.tyX {K : Fg} {G H : Hp} {v : V} {d : D} (s : Same G H) (r : Rp K G v d) (h : d.isObj = false) : TyX K H v (.type d.ty) := by
  cases r with
  | non => exact .base .non
  | bl b => exact .base (.bl b)
  | int i => exact .base (.int i)
  | str x => exact .base (.str x)
  | lst g t => exact .base (.lst (s _ _ g))
  | tup g t =>
    rcases g with (g | ⟨o, g⟩) | ⟨o, its, n, hk, hc, _⟩
    · exact .base (.tup (s _ _ g))
    · exact .fTuple (s _ _ g)
    · exact .kTuple hk hc
  | dic g k t => exact .base (.dK (s _ _ g))
  | obj g k t => cases h
  | scr g => cases h
def subTy (a b : String) : Bool := decide (a = b) || (decide (a = "bool") && decide (b = "int"))
theorem kitB_all : ∀ a ∈ tyNames, ∀ b ∈ tyNames, kitB a b = some (subTy a b) := by decide +kernel
theorem ty_mem (d : D) (h : d.isObj = false) : d.ty ∈ tyNames := by
  cases d <;> first | (cases h; done) | (unfold D.ty tyNames; simp)
/-- isinstance(x, T), T a built-in type -/
def oIsi (T : String) : O1 := fun d P => d.isObj = false ∧ P (.bl (subTy d.ty T))
def oIsi2 (T U : String) : O1 := fun d P => d.isObj = false ∧ P (.bl (subTy d.ty T || subTy d.ty U))
section
variable {X : Cx} {F : Fx} {W : WX} {a b c e o : Expr} {es : List Expr} {α β γ : DE} {pos p p1 p2 p3 : Pos} {i : Nat} {x T U : Str} {τ : DA} {T' U' : String} {kk : Nat}
theorem qe_isi (hg : Gl X "isinstance") (hm : X.mg "isinstance" = none) (hv : bootBuiltins "isinstance" = some (.builtin "isinstance")) (gT : Gl X T) (mT : X.mg T = none) (vT : bootBuiltins T = some (.type T')) (hT : T' ∈ tyNames)
    (ha : QE X F W e α) (nT : T ≠ "__name__" := by decide) (dT : (T == ("__debug__" : Str)) = false := by decide) (he : starEach [e, .Name T p1] X.env = (false, eval e X.env) :: starEach [.Name T p1] X.env := by rfl) (hpl : (backTo pos (starEach [.Name T p1] X.env)).any (·.1) = false := by rfl)
    (he2 : starEach [.Name T p1] X.env = (false, eval (.Name T p1) X.env) :: starEach [] X.env := by rfl) :
    QE X F W (.Call (.Name "isinstance" p) [e, .Name T p1] [] pos) (dUn (oIsi T') α) :=
  ⟨pe_imp (pe_callB call_isi hg hm hv (pa_cons ha.run (pa_cons (pe_bltn gT mT vT (v := .ty T') rfl nT dT) pa_nil he2) he) (by decide) (by decide) he hpl) fun σ H Q h => by
    obtain ⟨G, sl, E, P, R, h, k, kx⟩ := h
    refine ⟨G, sl, E, _, R, h, fun d sl1 h1 G1 H1 v1 s1 R1 r1 => ?_, kx⟩
    exact ⟨v1, .ty T', _, _, _, rfl, .ty T', r1.tyX R1.ex h1.1, kit_ty (kitB_all _ (ty_mem d h1.1) _ hT), k _ sl1 h1.2 G1 H1 _ s1 R1 (.bl _)⟩⟩
theorem qe_isi2 (hg : Gl X "isinstance") (hm : X.mg "isinstance" = none) (hv : bootBuiltins "isinstance" = some (.builtin "isinstance")) (gT : Gl X T) (mT : X.mg T = none) (vT : bootBuiltins T = some (.type T')) (hT : T' ∈ tyNames)
    (gU : Gl X U) (mU : X.mg U = none) (vU : bootBuiltins U = some (.type U')) (hU : U' ∈ tyNames)
    (ha : QE X F W e α) (nT : T ≠ "__name__" := by decide) (dT : (T == ("__debug__" : Str)) = false := by decide) (nU : U ≠ "__name__" := by decide) (dU : (U == ("__debug__" : Str)) = false := by decide)
    (he : starEach [e, .Tuple [.Name T p1, .Name U p2] kk p3] X.env = (false, eval e X.env) :: starEach [.Tuple [.Name T p1, .Name U p2] kk p3] X.env := by rfl) (hpl : (backTo pos (starEach [.Tuple [.Name T p1, .Name U p2] kk p3] X.env)).any (·.1) = false := by rfl)
    (he2 : starEach [.Tuple [.Name T p1, .Name U p2] kk p3] X.env = (false, eval (.Tuple [.Name T p1, .Name U p2] kk p3) X.env) :: starEach [] X.env := by rfl)
    (he3 : starEach [.Name T p1, .Name U p2] X.env = (false, eval (.Name T p1) X.env) :: starEach [.Name U p2] X.env := by rfl) (he4 : starEach [.Name U p2] X.env = (false, eval (.Name U p2) X.env) :: starEach [] X.env := by rfl) :
    QE X F W (.Call (.Name "isinstance" p) [e, .Tuple [.Name T p1, .Name U p2] kk p3] [] pos) (dUn (oIsi2 T' U') α) :=
  ⟨pe_imp (pe_callB call_isiT hg hm hv (pa_cons ha.run (pa_cons (pe_tup (pa_cons (pe_bltn gT mT vT (v := .ty T') rfl nT dT) (pa_cons (pe_bltn gU mU vU (v := .ty U') rfl nU dU) pa_nil he4) he3)) pa_nil he2) he) (by decide) (by decide) he hpl) fun σ H Q h => by
    obtain ⟨G, sl, E, P, R, h, k, kx⟩ := h
    refine ⟨G, sl, E, _, R, h, fun d sl1 h1 G1 H1 v1 s1 R1 r1 => ?_, kx⟩
    refine ⟨(by show 2 ≤ sizeLine; rw [sizeLine_eq]; decide), fun tp htp => ?_⟩
    have g := Grown.new R1.ex htp (.tup [.ty T', .ty U'])
    have R2 := R1.grown g
    refine ⟨v1, tp, [.ty T', .ty U'], _, _, _, rfl, upd_same, .cons (.ty _) (.cons (.ty _) .nil), (r1.mono g.g).tyX R2.ex h1.1, kitAny_cons (kit_ty (kitB_all _ (ty_mem d h1.1) _ hT)) (r := subTy d.ty T' || subTy d.ty U') (fun hb => ?_) (fun hb => by rw [hb]; rfl), k _ sl1 h1.2 _ _ _ (s1.trans g.g) R2 (.bl _)⟩
    rw [hb, Bool.false_or]
    exact kitAny_cons (kit_ty (kitB_all _ (ty_mem d h1.1) _ hU)) (r := subTy d.ty U') (fun hb => by rw [hb]; rfl) fun hb => hb⟩
end
/-! ### what is walked -/
section
variable {X : Cx} {F : Fx} {W : WX} {tg e e2 : Expr} {es : List Expr} {α β : DE} {τ : DA} {pos p : Pos}
/-- a list, a tuple, a text -/
def dItems (f : D → Option (List D)) (α : DE) : DI := fun sl E P => α sl E fun d sl1 => ∃ ds, f d = some ds ∧ P ds sl1
def asLst : D → Option (List D)
  | .lst ds => some ds
  | .scr ns => some (ns.map .int)
  | _ => none
def asTup : D → Option (List D)
  | .tup ds => some ds
  | _ => none
def signs (z : Str) : List D := z.cps.toList.map fun c => .str ⟨#[c]⟩
def asStr : D → Option (List D)
  | .str z => some (signs z)
  | _ => none
theorem walked_list {K : Fg} {G : Hp} {a : Addr} {xs : List V} {ds : List D} (g : SqL K G a xs) (t : RpL K G xs ds) : Walked K G (Itl K a) ds := by
  intro i Gc H s1 s2
  have hq : SqL K H a xs := sqL_mono s2 (sqL_mono s1 g)
  refine ⟨fun d hd => ?_, fun h => ⟨xs, hq, by rw [t.length]; exact h⟩⟩
  obtain ⟨v, hv, r⟩ := t.at hd
  refine ⟨⟨xs, v, hq, hv⟩, fun x H' y => ?_⟩
  obtain ⟨rfl, y⟩ := y
  have e := (y xs hq).symm.trans hv
  cases e
  exact ⟨Gc, .refl s2, r.mono s1⟩
theorem walked_tup {K : Fg} {G : Hp} {a : Addr} {xs : List V} {ds : List D} (g : SqT K G a xs) (t : RpL K G xs ds) : Walked K G (Itt K a) ds := by
  intro i Gc H s1 s2
  have hq : SqT K H a xs := sqT_mono s2 (sqT_mono s1 g)
  refine ⟨fun d hd => ?_, fun h => ⟨xs, hq, by rw [t.length]; exact h⟩⟩
  obtain ⟨v, hv, r⟩ := t.at hd
  refine ⟨⟨xs, v, hq, hv⟩, fun x H' y => ?_⟩
  obtain ⟨rfl, y⟩ := y
  have e := (y xs hq).symm.trans hv
  cases e
  exact ⟨Gc, .refl s2, r.mono s1⟩
theorem walked_str {K : Fg} {G : Hp} {z : Str} : Walked K G (Its z) (signs z) := by
  intro i Gc H s1 s2
  unfold signs
  refine ⟨fun d hd => ?_, fun h => by show z.cps.size ≤ i; simpa using h⟩
  rw [List.getElem?_map] at hd
  obtain ⟨c, hc, rfl⟩ := Option.map_eq_some_iff.mp hd
  rw [Array.getElem?_toList] at hc
  refine ⟨?_, fun x H' y => ?_⟩
  · obtain ⟨h, _⟩ := Array.getElem?_eq_some_iff.mp hc
    exact h
  · obtain ⟨rfl, c', hc', rfl⟩ := y
    rw [hc] at hc'
    cases hc'
    exact ⟨Gc, .refl s2, .str _⟩
theorem qi_list (h : QE X F W e α) : QI X F W tg e (dItems asLst α) := ⟨pi_imp (pi_list h.run) fun σ H R h => by
  obtain ⟨G, sl, E, P, Re, h, k, kx⟩ := h
  refine ⟨G, sl, E, _, Re, h, fun d sl1 h1 G1 H1 v1 s1 R1 r1 => ?_, kx⟩
  obtain ⟨ds, h1, p⟩ := h1
  cases r1 with
  | lst g t =>
    cases h1
    exact ⟨_, rfl, ⟨_, SqL.of (R1.ex _ _ g)⟩, k ds sl1 p G1 H1 _ s1 R1 (walked_list (SqL.of g) t)⟩
  | scr g =>
    cases h1
    exact ⟨_, rfl, ⟨_, sqL_mono R1.ex g⟩, k _ sl1 p G1 H1 _ s1 R1 (walked_list g (RpL.ints _))⟩
  | _ => cases h1⟩
theorem qi_tup (h : QE X F W e α) : QI X F W tg e (dItems asTup α) := ⟨pi_imp (pi_tup h.run) fun σ H R h => by
  obtain ⟨G, sl, E, P, Re, h, k, kx⟩ := h
  refine ⟨G, sl, E, _, Re, h, fun d sl1 h1 G1 H1 v1 s1 R1 r1 => ?_, kx⟩
  obtain ⟨ds, h1, p⟩ := h1
  cases r1 <;> first | (cases h1; done) | skip
  rename_i g t
  cases h1
  exact ⟨_, rfl, ⟨_, sqT_mono R1.ex g⟩, k ds sl1 p G1 H1 _ s1 R1 (walked_tup g t)⟩⟩
theorem qi_str (h : QE X F W e α) : QI X F W tg e (dItems asStr α) := ⟨pi_imp (pi_str h.run) fun σ H R h => by
  obtain ⟨G, sl, E, P, Re, h, k, kx⟩ := h
  refine ⟨G, sl, E, _, Re, h, fun d sl1 h1 G1 H1 v1 s1 R1 r1 => ?_, kx⟩
  obtain ⟨ds, h1, p⟩ := h1
  cases r1 <;> first | (cases h1; done) | skip
  cases h1
  exact ⟨_, rfl, k _ sl1 p G1 H1 _ s1 R1 walked_str⟩⟩
/-- a list or a tuple -/
def asSeq : D → Option (List D)
  | .lst ds => some ds
  | .tup ds => some ds
  | _ => none
def iSeq (K : PySem.W.Frag) (te : TE) : TI := fun σ H R => te σ H fun x H1 => (∃ a, x = .ref a ∧ (∃ xs, SqL K H1 a xs) ∧ R (Itl K a) H1) ∨ (∃ a, x = .ref a ∧ (∃ xs, SqT K H1 a xs) ∧ R (Itt K a) H1) ∨ ∃ z, x = .str z ∧ R (Its z) H1
/-- rangeD from a number on -/
def rangeD (lo : Int) (n : Nat) : List D := (List.range n).map fun (k : Nat) => .int (lo + (k : Int))
theorem walked_range {K : Fg} {G : Hp} {lo : Int} {n : Nat} : Walked K G (Itr lo n) (rangeD lo n) := by
  intro i Gc H s1 s2
  unfold rangeD
  refine ⟨fun d hd => ?_, fun h => by show n ≤ i; simpa using h⟩
  rw [List.getElem?_map] at hd
  obtain ⟨c, hc, rfl⟩ := Option.map_eq_some_iff.mp hd
  obtain ⟨h, rfl⟩ := List.getElem?_eq_some_iff.mp hc
  rw [List.getElem_range] at *
  refine ⟨by show i < n; simpa using h, fun x H' y => ?_⟩
  obtain ⟨rfl, rfl⟩ := y
  exact ⟨Gc, .refl s2, .int _⟩
def dRange1 (τ : DA) : DI := fun sl E P => τ sl E fun ds sl1 => ∃ n : Int, ds = [.int n] ∧ -(2 ^ 62) ≤ n ∧ n < 2 ^ 62 ∧ P (rangeD 0 n.toNat) sl1
def dRange2 (τ : DA) : DI := fun sl E P => τ sl E fun ds sl1 => ∃ m n : Int, ds = [.int m, .int n] ∧ (-(2 ^ 62) ≤ m ∧ m < 2 ^ 62 ∧ -(2 ^ 62) ≤ n ∧ n < 2 ^ 62) ∧ P (rangeD m (n - m).toNat) sl1
theorem qi_range1 (hg : Gl X "range") (hm : X.mg "range" = none) (ha : QA X F W [e] τ) (hs : starEach [e] X.env = [(false, eval e X.env)] := by rfl) : QI X F W tg (.Call (.Name "range" p) [e] [] pos) (dRange1 τ) :=
  ⟨pi_imp (pi_range1 hg hm ha.run hs) fun σ H R h => by
    obtain ⟨G, sl, E, P, Re, h, k, kx⟩ := h
    refine ⟨G, sl, E, _, Re, h, fun ds sl1 h1 G1 H1 vs s1 R1 r1 => ?_, kx⟩
    obtain ⟨n, rfl, h2, h3, p⟩ := h1
    cases r1 with
    | cons r t =>
      cases t
      cases r
      exact ⟨n, rfl, h2, h3, k _ sl1 p G1 H1 _ s1 R1 walked_range⟩⟩
theorem qi_range2 (hg : Gl X "range") (hm : X.mg "range" = none) (ha : QA X F W [e, e2] τ) (hs : starEach [e, e2] X.env = [(false, eval e X.env), (false, eval e2 X.env)] := by rfl) (hs2 : starEach [e2] X.env = [(false, eval e2 X.env)] := by rfl) :
    QI X F W tg (.Call (.Name "range" p) [e, e2] [] pos) (dRange2 τ) :=
  ⟨pi_imp (pi_range2 hg hm ha.run hs hs2) fun σ H R h => by
    obtain ⟨G, sl, E, P, Re, h, k, kx⟩ := h
    refine ⟨G, sl, E, _, Re, h, fun ds sl1 h1 G1 H1 vs s1 R1 r1 => ?_, kx⟩
    obtain ⟨m, n, rfl, h2, p⟩ := h1
    cases r1 with
    | cons r t =>
      cases t with
      | cons r2 t =>
        cases t
        cases r
        cases r2
        exact ⟨m, n, rfl, h2, k _ sl1 p G1 H1 _ s1 R1 walked_range⟩⟩
/-- enumerate(list), zip(list, list): pairs in tuples -/
def numbered : Nat → List D → List D
  | _, [] => []
  | i, d :: ds => .tup [.int (i : Int), d] :: numbered (i + 1) ds
theorem numbered_at : ∀ (ds : List D) (k i : Nat), (numbered k ds)[i]? = (ds[i]?).map fun d => .tup [.int ((k + i : Nat) : Int), d]
  | [], _, _ => by simp [numbered]
  | d :: ds, k, 0 => by simp [numbered]
  | d :: ds, k, i + 1 => by
    unfold numbered
    rw [List.getElem?_cons_succ, List.getElem?_cons_succ, numbered_at ds (k + 1) i]
    have e : k + 1 + i = k + (i + 1) := by omega
    rw [e]
theorem numbered_len : ∀ (ds : List D) (k : Nat), (numbered k ds).length = ds.length
  | [], _ => rfl
  | d :: ds, k => by
    unfold numbered
    rw [List.length_cons, List.length_cons, numbered_len ds]
theorem walked_enum {K : Fg} {G : Hp} {a : Addr} {xs : List V} {ds : List D} (g : SqL K G a xs) (t : RpL K G xs ds) : Walked K G (Ite K a) (numbered 0 ds) := by
  intro i Gc H s1 s2
  have hq : SqL K H a xs := sqL_mono s2 (sqL_mono s1 g)
  refine ⟨fun d hd => ?_, fun h => ⟨xs, hq, by rw [t.length, ← numbered_len ds 0]; exact h⟩⟩
  rw [numbered_at] at hd
  obtain ⟨d', hd', rfl⟩ := Option.map_eq_some_iff.mp hd
  obtain ⟨v, hv, r⟩ := t.at hd'
  refine ⟨⟨xs, v, hq, hv⟩, fun x H' y => ?_⟩
  obtain ⟨T, w, rfl, hT, rfl, y⟩ := y
  have e := (y xs hq).symm.trans hv
  cases e
  refine ⟨_, Grown.new s2 hT _, .tup (SqT.of upd_same) (.cons ?_ (.cons ((r.mono s1).mono (Grown.new s2 hT _).g) .nil))⟩
  rw [Nat.zero_add]
  exact .int _
def dEnum (τ : DA) : DI := fun sl E P => τ sl E fun ds sl1 => ∃ d xs, ds = [d] ∧ asLst d = some xs ∧ P (numbered 0 xs) sl1
theorem qi_enum {elts : List Expr} {kk : Nat} {tpos : Pos} (hg : Gl X "enumerate") (hm : X.mg "enumerate" = none) (ha : QA X F W [e] τ) (hs : starEach [e] X.env = [(false, eval e X.env)] := by rfl) :
    QI X F W (.Tuple elts kk tpos) (.Call (.Name "enumerate" p) [e] [] pos) (dEnum τ) := ⟨pi_imp (pi_enum hg hm ha.run hs) fun σ H R h => by
  obtain ⟨G, sl, E, P, Re, h, k, kx⟩ := h
  refine ⟨G, sl, E, _, Re, h, fun ds sl1 h1 G1 H1 vs s1 R1 r1 => ?_, kx⟩
  obtain ⟨d, xs, rfl, e, p⟩ := h1
  cases r1 with
  | cons r t =>
    cases t
    cases r with
    | lst g t =>
      cases e
      exact ⟨_, _, rfl, SqL.of (R1.ex _ _ g), k _ sl1 p G1 H1 _ s1 R1 (walked_enum (SqL.of g) t)⟩
    | scr g =>
      cases e
      exact ⟨_, _, rfl, sqL_mono R1.ex g, k _ sl1 p G1 H1 _ s1 R1 (walked_enum g (RpL.ints _))⟩
    | _ => cases e⟩
end
/-! ### comprehensions -/
/-- what another block may not touch is out of its sight -/
def Slot.hid : Slot → Slot
  | .own _ => .un
  | s => s
def unsets (sl : Sl) : List Nat → Sl
  | [] => sl
  | v :: vs => (unsets sl vs).set v .un
section
variable {K : Fg} {F : Fx} {G G' H H' : Hp} {σ σ' : L2.St} {sl sl' : Sl}
theorem Sls.hide : ∀ {σ : L2.St} {sl : Sl} {as : List Addr}, Sls K F G H σ sl as → Sls K ⟨F.p, H, G⟩ G H σ (sl.map Slot.hid) []
  | _, _, _, .nil => .nil
  | _, _, _, .un t => .un (Sls.hide t)
  | _, _, _, .val r t => .val r (Sls.hide t)
  | _, _, _, .own _ _ _ _ _ t => .un (Sls.hide t)
  | _, _, _, .hand p t => .hand p (Sls.hide t)
theorem Rel.inside (R : Rel K F G σ H sl) : Rel K ⟨F.p, H, G⟩ G σ H (sl.map Slot.hid) := by
  obtain ⟨as, s⟩ := R.sls
  exact ⟨R.ex, Same.refl _, fun _ _ h _ => h, fun _ _ h => .inl h, R.hand, [], s.hide⟩
theorem Rel.outside (R : Rel K F G σ H sl) (R' : Rel K ⟨F.p, H, G⟩ G' σ' H' sl') : Rel K F G' σ H' sl := by
  obtain ⟨as, s⟩ := R.sls
  refine ⟨R'.ex, fun a o h => R'.g0 a o (R.g0 a o h), fun a o h n => R'.fr a o (R.fr a o h n) n, fun a o h => ?_, R'.hand, as, s.heap R'.g0 (fun a ha o h => R'.fr a o h (s.owned a ha).2.2.2) fun a ha => ?_⟩
  · rcases R'.gn a o h with z | z
    · exact R.gn a o z
    · exact .inr (R.new0 z).1
  · obtain ⟨⟨u, hu⟩, ga, _⟩ := s.owned a ha
    cases q : G' a with
    | none => rfl
    | some y =>
      rcases R'.gn a y q with z | z
      · exact nomatch (show G a = some y from z).symm.trans ga
      · exact nomatch (show H a = none from z).symm.trans hu
theorem Rel.wipe (R : Rel K F G σ H sl) : ∀ vs : List Nat, Rel K F G (L2.wipe σ vs) H (unsets sl vs)
  | [] => R
  | v :: vs => (Rel.wipe R vs).forget v none
theorem wipe_set {x : Option V} {i : Nat} : ∀ {vs : List Nat} {σ : L2.St}, i ∈ vs → L2.wipe (σ.set i x) vs = L2.wipe σ vs
  | v :: vs, σ, h => by
    unfold L2.wipe
    by_cases e : i ∈ vs
    · rw [wipe_set e]
    · rcases List.mem_cons.mp h with rfl | h
      · have q : ∀ (vs : List Nat) (σ : L2.St), i ∉ vs → L2.wipe (σ.set i x) vs = (L2.wipe σ vs).set i x := by
          intro vs
          induction vs with
          | nil => exact fun σ _ => rfl
          | cons v vs ih =>
            intro σ hn
            unfold L2.wipe
            rw [ih σ (fun z => hn (List.mem_cons_of_mem _ z)), List.set_comm _ _ (fun z => hn (by rw [z]; exact List.mem_cons_self))]
        rw [q vs σ e, List.set_set]
      · exact absurd h e
end
theorem wipe_sub {σ : L2.St} {vs : List Nat} : ∀ ws : List Nat, (∀ v ∈ ws, v ∈ vs) → L2.wipe (L2.wipe σ ws) vs = L2.wipe σ vs
  | [], _ => rfl
  | w :: ws, h => by
    show L2.wipe ((L2.wipe σ ws).set w none) vs = _
    rw [wipe_set (h w List.mem_cons_self)]
    exact wipe_sub ws fun v hv => h v (List.mem_cons_of_mem _ hv)
theorem wipe_idem (vs : List Nat) (σ : L2.St) : L2.wipe (L2.wipe σ vs) vs = L2.wipe σ vs := wipe_sub vs fun _ h => h
/-- a comprehension's target: it touches the slots vs alone -/
def LGc (K : Fg) (F : Fx) (vs : List Nat) (g : DG) : TG := fun v σ H Q => ∃ G sl d P, Rel K F G σ H sl ∧ Rp K G v d ∧ g d sl P ∧ ∀ sl', P sl' → ∀ G' σ' H', Same G G' → Rel K F G' σ' H' sl' → L2.wipe σ' vs = L2.wipe σ vs → Q σ' H'
def LGcs (K : Fg) (F : Fx) (vs : List Nat) (g : DGs) : TGs := fun us σ H Q => ∃ G sl ds P, Rel K F G σ H sl ∧ RpL K G us ds ∧ g ds sl P ∧ ∀ sl', P sl' → ∀ G' σ' H', Same G G' → Rel K F G' σ' H' sl' → L2.wipe σ' vs = L2.wipe σ vs → Q σ' H'
structure QGc (X : Cx) (F : Fx) (vs : List Nat) (t : Expr) (g : DG) : Prop where
  run : PG X t (LGc X.K F vs g)
structure QGcs (X : Cx) (F : Fx) (vs : List Nat) (t : List Expr) (g : DGs) : Prop where
  run : PGs X t (LGcs X.K F vs g)
structure QTs (X : Cx) (F : Fx) (W : WX) (es : List Expr) (δ : DT) : Prop where
  run : PTs X es (LT X.K F W δ)
theorem pts_imp {X : Cx} {e : List Expr} {t t' : TT} (h : PTs X e t) (i : ∀ σ H Q, t' σ H Q → t σ H Q) : PTs X e t' := ⟨fun pins s σ H Q I q => h.run pins s σ H Q I (i σ H Q q)⟩
def dYes : DT := fun sl _ P => P true sl
section
variable {X : Cx} {F : Fx} {W : WX} {e c : Expr} {es : List Expr} {pos : Pos} {i : Nat} {vs : List Nat} {τ : DT}
theorem qgc_name (h : PG X e (gName i)) (hi : i ∈ vs := by decide) : QGc X F vs e (hName i) := ⟨pg_imp h fun v σ H Q h => by
  obtain ⟨G, sl, d, P, R, r, h, k⟩ := h
  exact k _ h G _ H (Same.refl _) (R.put r i) (wipe_set hi)⟩
theorem qgcs_nil : QGcs X F vs [] hNil := ⟨pgs_imp pgs_nil fun v σ H Q h => by
  obtain ⟨G, sl, ds, P, R, r, ⟨rfl, h⟩, k⟩ := h
  cases r
  exact ⟨rfl, k _ h G _ H (Same.refl _) R rfl⟩⟩
theorem qgcs_cons {g : DG} {h : DGs} (h1 : QGc X F vs e g) (h2 : QGcs X F vs es h) (hs : (assignEach (e :: es) X.env).map (·.2) = assign e X.env :: (assignEach es X.env).map (·.2) := by rfl) : QGcs X F vs (e :: es) (hCons g h) :=
  ⟨pgs_imp (pgs_cons h1.run h2.run hs) fun v σ H Q h => by
    obtain ⟨G, sl, ds, P, R, r, ⟨d, rr, rfl, h⟩, k⟩ := h
    cases r with
    | cons r1 r2 => exact ⟨_, _, rfl, G, sl, d, _, R, r1, h, fun sl1 h1 G1 σ1 H1 s1 R1 w1 => ⟨G1, sl1, rr, P, R1, r2.mono s1, h1, fun sl2 p G2 σ2 H2 s2 R2 w2 => k sl2 p G2 σ2 H2 (s1.trans s2) R2 (w2.trans w1)⟩⟩⟩
theorem qgc_tup {k n : Nat} {g : DGs} (hc : X.calm = true) (h : QGcs X F vs es g) (hn : (assignEach es X.env).length = n := by rfl) (hst : (assignEach es X.env).findIdx? (·.1) = none := by rfl) : QGc X F vs (.Tuple es k pos) (hTup n g) :=
  ⟨pg_imp (pg_tup hc h.run hn hst) fun v σ H Q h => by
    obtain ⟨G, sl, d, P, R, r, ⟨ds, rfl, hl, h⟩, k⟩ := h
    cases r with
    | tup q t => exact ⟨_, _, rfl, sqT_mono R.ex q, by rw [t.length]; exact hl, G, sl, ds, P, R, t, h, k⟩⟩
theorem qts_nil : QTs X F W [] dYes := ⟨pts_imp pts_nil fun σ H Q h => by
  obtain ⟨G, sl, E, P, R, h, k, kx⟩ := h
  exact k _ _ h G H (Same.refl _) R⟩
theorem qts_one (h : QT X F W c τ) : QTs X F W [c] τ := ⟨pts_one h.run⟩
end
abbrev WF : WX := fun _ _ _ _ => False
abbrev EF : XP := fun _ _ => False
theorem thrownF {K : Fg} {F : Fx} {W : WX} {G : Hp} : Thrown K F W G EF := fun _ _ h => h.elim
/-- turn by turn: each begins with the slots base -/
def dTurns (g : DG) (τ : DT) (α : DE) (base : Sl) (P : List D → Prop) : List D → List D → Prop
  | [], acc => P acc
  | d :: r, acc => g d base fun sl1 => τ sl1 EF fun k sl2 => if k = true then α sl2 EF fun e _ => acc.length < sizeLine ∧ dTurns g τ α base P r (acc ++ [e]) else dTurns g τ α base P r acc
def dComp (ι : DI) (g : DG) (τ : DT) (α : DE) (vs : List Nat) : DE := fun sl E P => ι sl E fun ds sl1 => dTurns g τ α (unsets (sl1.map Slot.hid) vs) (fun acc => P (.lst acc) sl1) ds []
section
variable {K : Fg} {F : Fx} {W : WX} {ι : DI} {g : DG} {τ : DT} {α : DE} {vs : List Nat} {σ : L2.St} {H : Hp} {Q : VK}
theorem LN.comp {wi : TI} {gr : TG} {tt : TT} {te : TE} (hwi : ∀ R, LI K F W ι σ H R → wi σ H R) (hgr : ∀ F v σ H Q, LGc K F vs g v σ H Q → gr v σ H Q) (htt : ∀ F σ H Q, LT K F WF τ σ H Q → tt σ H Q) (hte : ∀ F σ H Q, LE K F WF α σ H Q → te σ H Q)
    (h : LN K F W (dComp ι g τ α vs) σ H Q) : tLc wi gr tt te vs σ H Q := by
  obtain ⟨G, sl, E, P, R, h, k, kx⟩ := h
  refine hwi _ ⟨G, sl, E, _, R, h, fun ds sl1 h1 G1 H1 J s1 R1 w => ?_, kx⟩
  intro Dl hD
  refine ⟨fun i m H2 => ∃ G2 ac, Same G1 G2 ∧ Rel K F G2 (some (.ref Dl) :: σ) H2 (.own (.lst ac) :: sl1) ∧ dTurns g τ α (unsets (sl1.map Slot.hid) vs) (fun acc => P (.lst acc) sl1) (ds.drop i) ac ∧ m = ds.length - i ∧ i ≤ ds.length,
    ⟨ds.length, G1, [], Same.refl _, R1.own hD _ ⟨[], upd_same, .nil⟩, h1, by simp, Nat.zero_le _⟩, ?_⟩
  rintro i m H2 ⟨G2, ac, s2, R2, h2, rfl, hi⟩
  by_cases hlt : i < ds.length
  · obtain ⟨hgo, hy⟩ := (w i G2 H2 s2 R2.ex).1 ds[i] (List.getElem?_eq_getElem hlt)
    rw [List.drop_eq_getElem_cons hlt] at h2
    refine .inr ⟨hgo, fun H3 => ∃ G3 ac3, Same G1 G3 ∧ Rel K F G3 (some (.ref Dl) :: σ) H3 (.own (.lst ac3) :: sl1) ∧ dTurns g τ α (unsets (sl1.map Slot.hid) vs) (fun acc => P (.lst acc) sl1) (ds.drop (i + 1)) ac3,
      fun H3 ⟨G3, ac3, q⟩ => ⟨ds.length - (i + 1), by omega, G3, ac3, q.1, q.2.1, q.2.2, rfl, hlt⟩, fun x H3 yx => ?_⟩
    obtain ⟨G3, gr3, r3⟩ := hy x H3 yx
    have R3 := R2.grown gr3
    have R4 := R3.tail.inside.wipe vs
    refine hgr _ x _ H3 _ ⟨G3, _, ds[i], _, R4, r3, h2, fun sl5 h5 G5 σ5 H5 s5 R5 w5 => ⟨by rw [w5]; exact wipe_idem vs σ, ?_⟩⟩
    refine htt _ σ5 H5 _ ⟨G5, sl5, EF, _, R5, h5, fun b sl6 h6 G6 H6 s6 R6 => ?_, thrownF⟩
    cases b with
    | true =>
      show te σ5 H6 _
      refine hte _ σ5 H6 _ ⟨G6, sl6, EF, _, R6, h6, fun e sl7 h7 G7 H7 v7 s7 R7 r7 => ?_, thrownF⟩
      have R8 : Rel K F G7 (some (.ref Dl) :: σ) H7 (.own (.lst ac) :: sl1) := R3.outside R7
      obtain ⟨a8, e8, ⟨xs, hx, tx⟩, _⟩ := R8.frontOwn
      cases e8
      refine ⟨xs, hx, by rw [tx.length]; exact h7.1, G7, ac ++ [e], s2.trans (gr3.g.trans (s5.trans (s6.trans s7))), R8.turn ⟨_, upd_same, tx.append (.cons r7 .nil)⟩, h7.2⟩
    | false =>
      exact ⟨G6, ac, s2.trans (gr3.g.trans (s5.trans s6)), R3.outside R6, h6⟩
  · have e : i = ds.length := by omega
    subst e
    rw [List.drop_length] at h2
    refine .inl ⟨(w _ G2 H2 s2 R2.ex).2 (Nat.le_refl _), k _ sl1 h2 G2 H2 Dl (s1.trans s2) R2⟩
theorem LE.ofN {δ : DE} (h : LE K F W δ σ H Q) : LN K F W δ σ H Q := by
  obtain ⟨G, sl, E, P, R, h, k, kx⟩ := h
  refine ⟨G, sl, E, P, R, h, fun d sl1 p G1 H1 a s1 R1 => ?_, kx⟩
  obtain ⟨G2, s2, R2, r2, _⟩ := R1.close
  exact k d sl1 p G2 H1 _ (s1.trans s2) R2 r2
end
section
variable {X : Cx} {F : Fx} {W : WX} {ι : DI} {g : DG} {τ : DT} {α : DE} {elt tg iter : Expr} {ifs : List Expr} {scope : Scope} {own : List (Str × Nat)} {pos spos : Pos} {i : Nat} {y : Str} {py : Pos}
/-- what a block's parts must be -/
structure Blk (X : Cx) (tg elt : Expr) (ifs : List Expr) (scope : Scope) (vs : List Nat) (g : DG) (τ : DT) (α : DE) : Prop where
  tg : ∀ (s : Shared) (H : Hp) (C : Addr) (cl : List (Str × Addr)) (fp : List Addr) (F : Fx), QGc (X.blk s H scope (PySem.compEnvC scope cl C X.env) fp) F vs tg g
  ifs : ∀ (s : Shared) (H : Hp) (C : Addr) (cl : List (Str × Addr)) (fp : List Addr) (F : Fx), QTs (X.blk s H scope (PySem.compEnvC scope cl C X.env) fp) F WF ifs τ
  elt : ∀ (s : Shared) (H : Hp) (C : Addr) (cl : List (Str × Addr)) (fp : List Addr) (F : Fx), QE (X.blk s H scope (PySem.compEnvC scope cl C X.env) fp) F WF elt α
theorem Blk.pg {vs : List Nat} (b : Blk X tg elt ifs scope vs g τ α) (s : Shared) (H : Hp) (C : Addr) (cl : List (Str × Addr)) (fp : List Addr) : PG (X.blk s H scope (PySem.compEnvC scope cl C X.env) fp) tg (fun v σ H Q => ∃ F, LGc X.K F vs g v σ H Q) :=
  ⟨fun pins s' σ H' v u Q I r ⟨F, q⟩ => (b.tg s H C cl fp F).run.run pins s' σ H' v u Q I r q⟩
theorem Blk.pts {vs : List Nat} (b : Blk X tg elt ifs scope vs g τ α) (s : Shared) (H : Hp) (C : Addr) (cl : List (Str × Addr)) (fp : List Addr) : PTs (X.blk s H scope (PySem.compEnvC scope cl C X.env) fp) ifs (fun σ H Q => ∃ F, LT X.K F WF τ σ H Q) :=
  ⟨fun pins s' σ H' Q I ⟨F, q⟩ => (b.ifs s H C cl fp F).run.run pins s' σ H' Q I q⟩
theorem Blk.pe {vs : List Nat} (b : Blk X tg elt ifs scope vs g τ α) (s : Shared) (H : Hp) (C : Addr) (cl : List (Str × Addr)) (fp : List Addr) : PE (X.blk s H scope (PySem.compEnvC scope cl C X.env) fp) elt (fun σ H Q => ∃ F, LE X.K F WF α σ H Q) :=
  ⟨fun pins s' σ H' Q I ⟨F, q⟩ => (b.elt s H C cl fp F).run.run pins s' σ H' Q I q⟩
theorem qn_comp (hc : X.calm = true) (hN : X.N.Nodup) (hi : QI X F W tg iter ι) (ok : BlkOk X.N X.env.scope scope own) (b : Blk X tg elt ifs scope (own.map (·.2)) g τ α) (hs : ∀ x, foldedSetIterable iter X.env x = pure x := by intro _; rfl) :
    QN X F W (.ListComp elt [⟨tg, iter, ifs, 0⟩] scope pos) (dComp ι g τ α (own.map (·.2))) :=
  ⟨pe_imp (pe_lc hc hN hi.run ok b.pg b.pts b.pe hs) fun σ H Q h => LN.comp (fun _ q => q) (fun F _ _ _ _ q => ⟨F, q⟩) (fun F _ _ _ q => ⟨F, q⟩) (fun F _ _ _ q => ⟨F, q⟩) h⟩
theorem qe_comp (hc : X.calm = true) (hN : X.N.Nodup) (hi : QI X F W tg iter ι) (ok : BlkOk X.N X.env.scope scope own) (b : Blk X tg elt ifs scope (own.map (·.2)) g τ α) (hs : ∀ x, foldedSetIterable iter X.env x = pure x := by intro _; rfl) :
    QE X F W (.ListComp elt [⟨tg, iter, ifs, 0⟩] scope pos) (dComp ι g τ α (own.map (·.2))) := ⟨pe_imp (qn_comp hc hN hi ok b hs).run fun σ H Q h => h.ofN⟩
/-- name = [..] -/
theorem qs_ownComp (hc : X.calm = true) (hN : X.N.Nodup) (hy : X.N[i]? = some y) (hyl : X.env.scope.names.lookup y = some .local) (hsw : swapsWith (.ListComp elt [⟨tg, iter, ifs, 0⟩] scope pos) (some (.Name y py)) spos.line X.env = pure true)
    (hi : QI X F W tg iter ι) (ok : BlkOk X.N X.env.scope scope own) (b : Blk X tg elt ifs scope (own.map (·.2)) g τ α) (hs : ∀ x, foldedSetIterable iter X.env x = pure x := by intro _; rfl) :
    QS X F W (.Assign [.Name y py] (.ListComp elt [⟨tg, iter, ifs, 0⟩] scope pos) spos) (dOwn i (dComp ι g τ α (own.map (·.2)))) :=
  qs_own (ps_imp (ps_setLc hc hN hy hyl hsw hi.run ok b.pg b.pts b.pe hs) fun D σ H h => LN.comp (fun _ q => q) (fun F _ _ _ _ q => ⟨F, q⟩) (fun F _ _ _ q => ⟨F, q⟩) (fun F _ _ _ q => ⟨F, q⟩) h)
theorem qs_setComp (hc : X.calm = true) (hN : X.N.Nodup) (hy : X.N[i]? = some y) (hyl : X.env.scope.names.lookup y = some .local) (hsw : swapsWith (.ListComp elt [⟨tg, iter, ifs, 0⟩] scope pos) (some (.Name y py)) spos.line X.env = pure true)
    (hi : QI X F W tg iter ι) (ok : BlkOk X.N X.env.scope scope own) (b : Blk X tg elt ifs scope (own.map (·.2)) g τ α) (hs : ∀ x, foldedSetIterable iter X.env x = pure x := by intro _; rfl) :
    QS X F W (.Assign [.Name y py] (.ListComp elt [⟨tg, iter, ifs, 0⟩] scope pos) spos) (dAsg (dComp ι g τ α (own.map (·.2))) (hName i)) :=
  qs_set (ps_imp (ps_setLc hc hN hy hyl hsw hi.run ok b.pg b.pts b.pe hs) fun D σ H h => LN.comp (fun _ q => q) (fun F _ _ _ _ q => ⟨F, q⟩) (fun F _ _ _ q => ⟨F, q⟩) (fun F _ _ _ q => ⟨F, q⟩) (LE.ofN h))
end
end Dx
namespace Dx
open PySem L2
/-! ### an object of one's own changes -/
def Sl.own (sl : Sl) (i : Nat) : Option D := match sl[i]? with
  | some (.own d) => some d
  | _ => none
theorem own_at {sl : Sl} {i : Nat} {d : D} (h : Sl.own sl i = some d) : sl[i]? = some (.own d) := by
  unfold Sl.own at h
  split at h
  · rename_i q; cases h; exact q
  · cases h
def isLst : Option D → Bool
  | some (.lst _) => true
  | _ => false
def isDic : Option D → Bool
  | some (.dic _ _) => true
  | _ => false
def isObj : Option D → Bool
  | some (.obj _ _ _) => true
  | _ => false
theorem isLst_of {o : Option D} (h : isLst o = true) : ∃ ds, o = some (.lst ds) := by
  unfold isLst at h
  split at h
  · exact ⟨_, rfl⟩
  · cases h
theorem isDic_of {o : Option D} (h : isDic o = true) : ∃ ks ds, o = some (.dic ks ds) := by
  unfold isDic at h
  split at h
  · exact ⟨_, _, rfl⟩
  · cases h
theorem isObj_of {o : Option D} (h : isObj o = true) : ∃ C ns ds, o = some (.obj C ns ds) := by
  unfold isObj at h
  split at h
  · exact ⟨_, _, _, rfl⟩
  · cases h
def lstOf : Option D → List D
  | some (.lst ds) => ds
  | _ => []
def keysOf : Option D → List Key
  | some (.dic ks _) => ks
  | _ => []
def valsOf : Option D → List D
  | some (.dic _ ds) => ds
  | _ => []
/-- x.append(e) -/
def dAppend (i : Nat) (α : DE) : DS := fun De sl => isLst (Sl.own sl i) = true ∧ α sl De.ex fun d sl1 => isLst (Sl.own sl1 i) = true ∧ (lstOf (Sl.own sl1 i)).length < sizeLine ∧ De.nx (sl1.set i (.own (.lst (lstOf (Sl.own sl1 i) ++ [d]))))
/-- x.pop(e), e a place from the front -/
def dPopAt (i : Nat) (α : DE) : DE := fun sl E P => isLst (Sl.own sl i) = true ∧ α sl E fun d sl1 => isLst (Sl.own sl1 i) = true ∧ ∃ (j : Nat) (f : D), d = .int (j : Int) ∧ (j : Int) < 2 ^ 62 ∧ (lstOf (Sl.own sl1 i))[j]? = some f ∧ P f (sl1.set i (.own (.lst ((lstOf (Sl.own sl1 i)).eraseIdx j))))
def dPop (i : Nat) : DE := fun sl E P => isLst (Sl.own sl i) = true ∧ ∃ f, (lstOf (Sl.own sl i)).getLast? = some f ∧ P f (sl.set i (.own (.lst (lstOf (Sl.own sl i)).dropLast)))
/-- x[e] = v -/
def dSetIx (i : Nat) (αv αe : DE) : DS := fun De sl => αv sl De.ex fun d sl1 => isLst (Sl.own sl1 i) = true ∧ αe sl1 De.ex fun e sl2 => isLst (Sl.own sl2 i) = true ∧ ∃ (j : Nat), e = .int (j : Int) ∧ j < (lstOf (Sl.own sl2 i)).length ∧ De.nx (sl2.set i (.own (.lst ((lstOf (Sl.own sl2 i)).set j d))))
def putKey (k : Key) (ks : List Key) : List Key := if hasKey k ks then ks else ks ++ [k]
def replVal (k : Key) (d : D) : List Key → List D → List D
  | k' :: ks, e :: ds => (if k' = k then d else e) :: replVal k d ks ds
  | _, _ => []
def putVal (k : Key) (d : D) (ks : List Key) (ds : List D) : List D := if hasKey k ks then replVal k d ks ds else ds ++ [d]
/-- x[k] = v, x a dict -/
def dPutK (i : Nat) (αv αe : DE) : DS := fun De sl => αv sl De.ex fun d sl1 => isDic (Sl.own sl1 i) = true ∧ αe sl1 De.ex fun e sl2 => isDic (Sl.own sl2 i) = true ∧ ∃ k, e.key = some k ∧ (keysOf (Sl.own sl2 i)).length < sizeLine ∧
  De.nx (sl2.set i (.own (.dic (putKey k (keysOf (Sl.own sl2 i))) (putVal k d (keysOf (Sl.own sl2 i)) (valsOf (Sl.own sl2 i))))))
section
variable {K : Fg} {F : Fx} {G : Hp} {H : Hp} {σ : L2.St} {sl : Sl} {i : Nat}
/-- the list of a slot -/
theorem Rel.takeL (R : Rel K F G σ H sl) (h : isLst (Sl.own sl i) = true) : ∃ a xs, σ[i]? = some (some (.ref a)) ∧ H a = some (.lst xs) ∧ RpL K G xs (lstOf (Sl.own sl i)) ∧ Rel K F G (some (.ref a) :: σ) H (.own (.lst (lstOf (Sl.own sl i))) :: sl.set i .un) := by
  obtain ⟨ds, e⟩ := isLst_of h
  obtain ⟨a, e1, R1⟩ := R.take (own_at e)
  obtain ⟨a', e2, ⟨xs, hx, t⟩, _⟩ := R1.frontOwn
  cases e2
  rw [e]
  exact ⟨a, xs, e1, hx, t, R1⟩
theorem Rel.takeD (R : Rel K F G σ H sl) (h : isDic (Sl.own sl i) = true) : ∃ a kvs, σ[i]? = some (some (.ref a)) ∧ H a = some (.dK kvs) ∧ kvs.map (·.1) = keysOf (Sl.own sl i) ∧ RpL K G (kvs.map (·.2)) (valsOf (Sl.own sl i)) ∧
    Rel K F G (some (.ref a) :: σ) H (.own (.dic (keysOf (Sl.own sl i)) (valsOf (Sl.own sl i))) :: sl.set i .un) := by
  obtain ⟨ks, ds, e⟩ := isDic_of h
  obtain ⟨a, e1, R1⟩ := R.take (own_at e)
  obtain ⟨a', e2, ⟨xs, hx, ek, t⟩, _⟩ := R1.frontOwn
  cases e2
  rw [e]
  exact ⟨a, xs, e1, hx, ek, t, R1⟩
theorem Rel.turnIn {a : Addr} {o : HO} {d d' : D} (R : Rel K F G (some (.ref a) :: σ) H (.own d :: sl.set i .un)) (e : σ[i]? = some (some (.ref a))) (ow : OwnAt K G (upd H a o) a d') : Rel K F G σ (upd H a o) (sl.set i (.own d')) := (R.turn ow).back e
theorem ix_nat {n j : Nat} (h : j < n) : seqIndex? (j : Int) n = some j := by
  refine (ixN_seq (n := n) (i := (j : Int)) (j := j) ?_).1
  unfold ixN
  rw [if_pos (by omega), if_pos (by omega)]
  simp
theorem putK_keys (k : Key) (v : V) : ∀ kvs : List (Key × V), (putK kvs k v).map (·.1) = putKey k (kvs.map (·.1)) := by
  intro kvs
  unfold putK putKey hasKey
  rw [List.any_map]
  have e : (List.any kvs ((fun k' => decide (k' = k)) ∘ fun x => x.1)) = kvs.any fun kv => decide (kv.1 = k) := rfl
  rw [e]
  split
  · rw [List.map_map]
    refine List.map_congr_left fun p _ => ?_
    show (if p.1 = k then (p.1, v) else p).1 = p.1
    split <;> rfl
  · rw [List.map_append]
    rfl
theorem repl_vals {k : Key} {v : V} {d : D} (r : Rp K G v d) : ∀ {kvs : List (Key × V)} {ds : List D}, RpL K G (kvs.map (·.2)) ds → RpL K G ((kvs.map fun kv => if kv.1 = k then (kv.1, v) else kv).map (·.2)) (replVal k d (kvs.map (·.1)) ds)
  | [], _, t => by cases t; exact .nil
  | p :: kvs, _, t => by
    rw [List.map_cons] at t
    cases t with
    | cons r1 t =>
      rw [List.map_cons, List.map_cons, List.map_cons]
      unfold replVal
      refine .cons ?_ (repl_vals r t)
      show Rp K G (if p.1 = k then (p.1, v) else p).2 (if p.1 = k then d else _)
      split
      · exact r
      · exact r1
theorem putK_vals {k : Key} {v : V} {d : D} (r : Rp K G v d) {kvs : List (Key × V)} {ds : List D} (t : RpL K G (kvs.map (·.2)) ds) : RpL K G ((putK kvs k v).map (·.2)) (putVal k d (kvs.map (·.1)) ds) := by
  unfold putK putVal hasKey
  rw [List.any_map]
  have e : (List.any kvs ((fun k' => decide (k' = k)) ∘ fun x => x.1)) = kvs.any fun kv => decide (kv.1 = k) := rfl
  rw [e]
  split
  · exact repl_vals r t
  · rw [List.map_append]
    exact t.append (.cons r .nil)
end
section
variable {X : Cx} {F : Fx} {W : WX} {st : Stmt} {e : Expr} {i : Nat} {α αv αe : DE}
theorem qs_append (h : PS X st (tDrop (tBM X.K "list" rAppend (tVar i) (tCons (LE X.K F W α) tNil)))) : QS X F W st (dAppend i α) := ⟨ps_imp h fun D σ H h => by
  obtain ⟨G, sl, De, R, ⟨hl, h⟩, f⟩ := h
  obtain ⟨a, xs, e1, hx, t, _⟩ := R.takeL hl
  refine ⟨_, e1, .inl ⟨rfl, xs, SqL.of hx⟩, G, sl, De.ex, _, R, h, fun d sl1 h1 G1 H1 v s1 R1 r1 => ?_, f.ex⟩
  obtain ⟨hl1, hz, p⟩ := h1
  obtain ⟨a1, xs1, e2, hx1, t1, R2⟩ := R1.takeL hl1
  rw [e1] at e2
  cases e2
  exact ⟨a, xs1, v, rfl, rfl, hx1, by rw [t1.length]; exact hz, f.nx _ p G1 σ _ s1 (R2.turnIn e1 ⟨_, upd_same, t1.append (.cons r1 .nil)⟩)⟩⟩
theorem qe_popAt (h : PE X e (tBM X.K "list" rPopAt (tVar i) (tCons (LE X.K F W α) tNil))) : QE X F W e (dPopAt i α) := ⟨pe_imp h fun σ H Q h => by
  obtain ⟨G, sl, E, P, R, ⟨hl, h⟩, k, kx⟩ := h
  obtain ⟨a, xs, e1, hx, t, _⟩ := R.takeL hl
  refine ⟨_, e1, .inl ⟨rfl, xs, SqL.of hx⟩, G, sl, E, _, R, h, fun d sl1 h1 G1 H1 v s1 R1 r1 => ?_, kx⟩
  obtain ⟨hl1, j, f, rfl, hj, hf, p⟩ := h1
  obtain ⟨a1, xs1, e2, hx1, t1, R2⟩ := R1.takeL hl1
  rw [e1] at e2
  cases e2
  cases r1
  obtain ⟨y, hy, ry⟩ := t1.at hf
  have hlt : j < xs1.length := (List.getElem?_eq_some_iff.mp hy).1
  exact ⟨a, xs1, _, j, y, rfl, rfl, hx1, by omega, by omega, ix_nat hlt, hy, k f _ p G1 _ y s1 (R2.turnIn e1 ⟨_, upd_same, t1.erase j⟩) ry⟩⟩
theorem qe_pop (h : PE X e (tBM0 X.K "list" rPop (tVar i))) : QE X F W e (dPop i) := ⟨pe_imp h fun σ H Q h => by
  obtain ⟨G, sl, E, P, R, ⟨hl, f, hf, p⟩, k, kx⟩ := h
  obtain ⟨a, xs, e1, hx, t, R2⟩ := R.takeL hl
  rw [List.getLast?_eq_getElem?] at hf
  obtain ⟨y, hy, ry⟩ := t.at hf
  refine ⟨_, e1, .inl ⟨rfl, xs, SqL.of hx⟩, a, xs, y, rfl, rfl, hx, by rw [t.length]; exact hy, k f _ p G _ y (Same.refl _) (R2.turnIn e1 ⟨_, upd_same, ?_⟩) ry⟩
  rw [List.dropLast_eq_take, List.dropLast_eq_take, t.length]
  exact t.take _⟩
theorem qs_setIx (h : PS X st (tAsg (LE X.K F W αv) (gSub (tVar i) (LE X.K F W αe) rSetL))) : QS X F W st (dSetIx i αv αe) := ⟨ps_imp h fun D σ H h => by
  obtain ⟨G, sl, De, R, h, f⟩ := h
  refine ⟨G, sl, De.ex, _, R, h, fun d sl1 h1 G1 H1 v s1 R1 r1 => ?_, f.ex⟩
  obtain ⟨hl, h1⟩ := h1
  obtain ⟨a, xs, e1, hx, t, _⟩ := R1.takeL hl
  refine ⟨_, e1, G1, sl1, De.ex, _, R1, h1, fun e sl2 h2 G2 H2 w s2 R2 r2 => ?_, f.ex.mono s1⟩
  obtain ⟨hl2, j, rfl, hj, p⟩ := h2
  obtain ⟨a1, xs1, e2, hx1, t1, R3⟩ := R2.takeL hl2
  rw [e1] at e2
  cases e2
  cases r2
  have hlt : j < xs1.length := by rw [t1.length]; exact hj
  refine ⟨a, xs1, _, j, rfl, rfl, hx1, ?_, f.nx _ p G2 σ _ (s1.trans s2) (R3.turnIn e1 ⟨_, upd_same, t1.set (r1.mono s2) j⟩)⟩
  unfold ixN
  rw [if_pos (by omega), if_pos (by omega)]
  simp⟩
theorem qs_putK (h : PS X st (sDPut (tVar i) (LE X.K F W αe) (LE X.K F W αv))) : QS X F W st (dPutK i αv αe) := ⟨ps_imp h fun D σ H h => by
  obtain ⟨G, sl, De, R, h, f⟩ := h
  refine ⟨G, sl, De.ex, _, R, h, fun d sl1 h1 G1 H1 v s1 R1 r1 => ?_, f.ex⟩
  obtain ⟨hl, h1⟩ := h1
  obtain ⟨a, kvs, e1, hx, ek, t, _⟩ := R1.takeD hl
  refine ⟨_, e1, G1, sl1, De.ex, _, R1, h1, fun e sl2 h2 G2 H2 w s2 R2 r2 => ?_, f.ex.mono s1⟩
  obtain ⟨hl2, kk, hk, hz, p⟩ := h2
  obtain ⟨a1, kvs1, e2, hx1, ek1, t1, R3⟩ := R2.takeD hl2
  rw [e1] at e2
  cases e2
  have ex := r2.key hk
  subst ex
  refine ⟨a, _, rfl, DPut.k (k := kk) hx1 (by rw [← List.length_map (f := (·.1)), ek1]; exact hz), f.nx _ p G2 σ _ (s1.trans s2) (R3.turnIn e1 ⟨_, upd_same, ?_, ?_⟩)⟩
  · rw [putK_keys, ek1]
  · have q := putK_vals (k := kk) (r1.mono s2) t1
    rw [ek1] at q
    exact q⟩
theorem qn_dict {pos : Pos} : QN X F W (.Dict [] [] pos) (dC (.dic [] [])) := ⟨pe_imp pe_dnewK fun σ H Q h => by
  obtain ⟨G, sl, E, P, R, h, k, kx⟩ := h
  exact fun p hp => k _ sl h G _ p (Same.refl _) (R.own hp _ ⟨[], upd_same, rfl, .nil⟩)⟩
/-- a value that nothing is done for: names that hold trees, constants, their places -/
structure QV (X : Cx) (F : Fx) (e : Expr) (δ : Sl → (D → Prop) → Prop) : Prop where
  run : PE X e fun σ H Q => ∃ G sl P, Rel X.K F G σ H sl ∧ δ sl P ∧ ∀ d v, P d → Rp X.K G v d → Q v H
theorem qv_var (hp : PE X e (tVar i)) : QV X F e (fun sl P => ∃ d, sl[i]? = some (.val d) ∧ P d) := ⟨pe_imp hp fun σ H Q h => by
  obtain ⟨G, sl, P, R, ⟨d, hd, p⟩, k⟩ := h
  obtain ⟨v, e1, r⟩ := R.valAt hd
  exact ⟨v, e1, k d v p r⟩⟩
theorem qv_const {v : V} {d : D} (hp : PE X e (tC v)) (r : ∀ G, Rp X.K G v d) : QV X F e (fun _ P => P d) := ⟨pe_imp hp fun σ H Q h => by
  obtain ⟨G, sl, P, R, p, k⟩ := h
  exact k d v p (r G)⟩
theorem qv_ix {a b : Expr} {α β : Sl → (D → Prop) → Prop} {pos : Pos} (ha : QV X F a α) (hb : QV X F b β) (hs : PlainIx b := by exact fun _ _ => rfl) : QV X F (.Subscript a b pos) (fun sl P => α sl fun d => β sl fun e => oIx d e P) :=
  ⟨pe_imp (pe_ix ix_seq ha.run hb.run hs) fun σ H Q h => by
    obtain ⟨G, sl, P, R, h, k⟩ := h
    refine ⟨G, sl, _, R, h, fun d v p r => ⟨G, sl, _, R, p, fun d2 v2 p2 r2 => ?_⟩⟩
    cases r with
    | lst g t =>
      cases r2 <;> first | exact p2.elim | skip
      obtain ⟨f, h1, h2⟩ := p2
      obtain ⟨w, h3, r⟩ := t.atI h1
      exact .inl ⟨_, _, _, w, rfl, rfl, SqL.of (R.ex _ _ g), h3, k _ _ h2 r⟩
    | tup g t =>
      cases r2 <;> first | exact p2.elim | skip
      obtain ⟨f, h1, h2⟩ := p2
      obtain ⟨w, h3, r⟩ := t.atI h1
      exact .inr (.inl ⟨_, _, _, w, rfl, rfl, sqT_mono R.ex g, h3, k _ _ h2 r⟩)
    | str z =>
      cases r2 <;> first | exact p2.elim | skip
      obtain ⟨h1, c, h2, h3⟩ := p2
      exact .inr (.inr ⟨z, _, c, rfl, rfl, h1, h2, k _ _ h3 (.str _)⟩)
    | _ => exact p2.elim⟩
/-- {k: v} -/
def dDisp1 (κ ν : Sl → (D → Prop) → Prop) : DE := fun sl E P => κ sl fun d => ν sl fun e => ∃ k, d.key = some k ∧ P (.dic [k] [e]) sl
theorem qe_disp1 {a b : Expr} {κ ν : Sl → (D → Prop) → Prop} {pos : Pos} (ha : QV X F a κ) (hb : QV X F b ν) : QE X F W (.Dict [some a] [b] pos) (dDisp1 κ ν) :=
  ⟨pe_imp (pe_disp (pps_cons ha.run hb.run pps_nil) rfl rfl (by simp) (by simp)) fun σ H Q h => by
    obtain ⟨G, sl, E, P, R, h, k, kx⟩ := h
    intro p hp
    have R1 : Rel X.K F G σ (upd H p (.dK [])) sl := R.grown (Grown.junk R.ex hp _)
    refine ⟨G, sl, _, R1, h, fun d v h1 r => ⟨G, sl, _, R1, h1, fun e w h2 r2 => ⟨upd_same, ?_⟩⟩⟩
    obtain ⟨kk, hk, p1⟩ := h2
    have ev := r.key hk
    subst ev
    refine ⟨[(kk, w)], rfl, (by simp), ?_⟩
    have em : mergeK [] [(kk, w)] = [(kk, w)] := rfl
    rw [em, upd_upd]
    exact k _ sl p1 _ _ _ (Grown.new R.ex hp _).g (R.grown (Grown.new R.ex hp _)) (.dic upd_same rfl (.cons (r2.mono (Grown.new R.ex hp _).g) .nil))⟩
end
end Dx
namespace Dx
open PySem L2
/-! ### looking at an object of one's own without giving it away -/
inductive Bi where
  | nm (i : Nat) | ex (δ : DE)
def Bi.te (K : Fg) (F : Fx) (W : WX) : Bi → TE
  | .nm i => tVar i
  | .ex δ => LE K F W δ
def tBs (K : Fg) (F : Fx) (W : WX) : List Bi → TA
  | [] => tNil
  | β :: r => tCons (β.te K F W) (tBs K F W r)
structure QB (X : Cx) (F : Fx) (W : WX) (e : Expr) (β : Bi) : Prop where
  run : PE X e (β.te X.K F W)
structure QBs (X : Cx) (F : Fx) (W : WX) (es : List Expr) (βs : List Bi) : Prop where
  run : PA X es (tBs X.K F W βs)
def peek (sl : Sl) (i : Nat) : Option D := match sl[i]? with
  | some (.val d) => some d
  | some (.own d) => some d
  | _ => none
def dBs : List Bi → DA
  | [] => dNil
  | .nm i :: r => fun sl E P => (peek sl i).isSome = true ∧ dBs r sl E fun ds sl1 => ∃ d, peek sl1 i = some d ∧ P (d :: ds) sl1
  | .ex δ :: r => dCons δ (dBs r)
def addG (G : Hp) (a : Addr) (H : Hp) : Hp := fun b => if b = a then H a else G b
section
variable {K : Fg} {F : Fx} {W : WX} {G Gt H : Hp} {σ : L2.St} {sl : Sl} {i : Nat} {d : D}
theorem addG_lo {a : Addr} (e : Same Gt H) : Same Gt (addG Gt a H) := fun b o h => by
  unfold addG
  by_cases hb : b = a
  · rw [if_pos hb, ← hb]; exact e b o h
  · rw [if_neg hb]; exact h
theorem addG_hi {a : Addr} (e : Same Gt H) : Same (addG Gt a H) H := fun b o h => by
  unfold addG at h
  by_cases hb : b = a
  · rw [if_pos hb] at h; rw [hb]; exact h
  · rw [if_neg hb] at h; exact e b o h
theorem addG_at {a : Addr} : addG Gt a H a = H a := if_pos rfl
theorem OwnAt.rp {a : Addr} (o : OwnAt K G H a d) (s : Same G Gt) (e : Gt a = H a) : Rp K Gt (.ref a) d := by
  cases d with
  | lst ds => obtain ⟨xs, h1, h2⟩ := o; exact .lst (by rw [e]; exact h1) (h2.mono s)
  | dic ks ds => obtain ⟨xs, h1, h2, h3⟩ := o; exact .dic (by rw [e]; exact h1) h2 (h3.mono s)
  | obj C ns ds => obtain ⟨dx, xs, h1, h2, h3⟩ := o; exact .obj (by rw [e]; exact h1) h2 (h3.mono s)
  | _ => exact o.elim
theorem Rel.peeked (R : Rel K F G σ H sl) (h : (peek sl i).isSome = true) : ∃ v, σ[i]? = some (some v) := by
  unfold peek at h
  split at h
  · rename_i d hd
    obtain ⟨v, e, _⟩ := R.valAt hd
    exact ⟨v, e⟩
  · rename_i d hd
    obtain ⟨a, e, _⟩ := R.take hd
    exact ⟨_, e⟩
  · cases h
theorem Rel.peekAt (R : Rel K F G σ H sl) (h : peek sl i = some d) (s1 : Same G Gt) (s2 : Same Gt H) : ∃ v G2, σ[i]? = some (some v) ∧ Same Gt G2 ∧ Same G2 H ∧ Rp K G2 v d := by
  unfold peek at h
  split at h
  · rename_i d hd
    cases h
    obtain ⟨v, e, r⟩ := R.valAt hd
    exact ⟨v, Gt, e, Same.refl _, s2, r.mono s1⟩
  · rename_i d hd
    cases h
    obtain ⟨a, e, R1⟩ := R.take hd
    obtain ⟨a', e', o, _⟩ := R1.frontOwn
    cases e'
    exact ⟨_, addG Gt a H, e, addG_lo s2, addG_hi s2, o.rp (s1.trans (addG_lo s2)) addG_at⟩
  · cases h
theorem bs_run : ∀ (βs : List Bi) {G H : Hp} {sl : Sl} {E : XP} {P : List D → Sl → Prop} {Q : List V → Hp → Prop}, Rel K F G σ H sl → dBs βs sl E P → Thrown K F W G E →
    (∀ ds sl', P ds sl' → ∀ G' Gt H' vs, Same G G' → Rel K F G' σ H' sl' → Same G' Gt → Same Gt H' → RpL K Gt vs ds → Q vs H') → tBs K F W βs σ H Q
  | [], G, H, sl, E, P, Q, R, h, kx, k => k [] sl h G G H [] (Same.refl _) R (Same.refl _) R.ex .nil
  | .nm i :: r, G, H, sl, E, P, Q, R, h, kx, k => by
    obtain ⟨v, hv⟩ := R.peeked h.1
    refine ⟨v, hv, bs_run r R h.2 kx fun ds sl1 p G1 Gt H1 vs s1 R1 s2 s3 t => ?_⟩
    obtain ⟨d, hd, p⟩ := p
    obtain ⟨v', G2, hv', s4, s5, r⟩ := R1.peekAt hd s2 s3
    rw [hv] at hv'
    cases hv'
    exact k _ sl1 p G1 G2 H1 _ s1 R1 (s2.trans s4) s5 (.cons r (t.mono s4))
  | .ex δ :: r, G, H, sl, E, P, Q, R, h, kx, k => by
    refine ⟨G, sl, E, _, R, h, fun d sl1 h1 G1 H1 v s1 R1 r1 => ?_, kx⟩
    exact bs_run r R1 h1 (kx.mono s1) fun ds sl2 p G2 Gt H2 vs s2 R2 s3 s4 t => k _ sl2 p G2 Gt H2 _ (s1.trans s2) R2 s3 s4 (.cons (r1.mono (s2.trans s3)) t)
theorem Rp.flatTo {G G' : Hp} {v : V} {d : D} (r : Rp K G v d) (h : d.flat = true) : Rp K G' v d := by
  cases r <;> first | (cases h; done) | skip
  · exact .non
  · exact .bl _
  · exact .int _
  · exact .str _
theorem Rel.junked {G2 H2 : Hp} (R : Rel K F G σ H sl) (g : Grown Gt H G2 H2) : Rel K F G σ H2 sl := R.ext (Same.refl _) (R.ex.trans g.h) g.h fun _ _ h => .inl h
end
def dOpB (ρ : O2) (β1 β2 : Bi) : DE := fun sl E P => dBs [β1, β2] sl E fun ds sl1 => match ds with
  | [d, e] => ρ d e fun f => f.flat = true ∧ P f sl1
  | _ => False
def dClB (ρ : OA) (βs : List Bi) : DE := fun sl E P => dBs βs sl E fun ds sl1 => ρ ds fun f => f.flat = true ∧ P f sl1
section
variable {X : Cx} {F : Fx} {W : WX} {a b c e : Expr} {es : List Expr} {α β γ δ : DE} {β1 β2 : Bi} {βs : List Bi} {pos : Pos} {i : Nat} {x : Str}
theorem qb_nm (hp : PE X e (tVar i)) : QB X F W e (.nm i) := ⟨hp⟩
theorem qb_ex (h : QE X F W e δ) : QB X F W e (.ex δ) := ⟨h.run⟩
theorem qbs_nil : QBs X F W [] [] := ⟨pa_nil⟩
theorem qbs_cons (ha : QB X F W e β1) (hr : QBs X F W es βs) (hs : starEach (e :: es) X.env = (false, eval e X.env) :: starEach es X.env := by rfl) : QBs X F W (e :: es) (β1 :: βs) := ⟨pa_cons ha.run hr.run hs⟩
theorem LE.opB {r : R2} {ρ : O2} (hr : Rf2 X.K r ρ) {σ : L2.St} {H : Hp} {Q : VK} (h : LE X.K F W (dOpB ρ β1 β2) σ H Q) : tOp r (β1.te X.K F W) (β2.te X.K F W) σ H Q := by
  obtain ⟨G, sl, E, P, R, h, k, kx⟩ := h
  have q := bs_run (K := X.K) (F := F) (W := W) (σ := σ) [β1, β2] (Q := fun vs H' => ∀ v w, vs = [v, w] → r v w H' Q) R h kx fun ds sl' p G' Gt H' vs s1 R1 s2 s3 t => by
    rintro v w rfl
    cases t with
    | cons r1 t =>
      cases t with
      | cons r2 t =>
        cases t
        exact hr Gt H' v w _ _ _ _ s3 r1 r2 p fun f hf G3 H3 v3 g r3 => k f sl' hf.2 G' H3 v3 s1 (R1.junked g) (r3.flatTo hf.1)
  have imp : ∀ (β : Bi) (σ : L2.St) (H : Hp) (Q Q' : VK), (∀ v H', Q v H' → Q' v H') → β.te X.K F W σ H Q → β.te X.K F W σ H Q' := fun β σ H Q Q' i h => by
    cases β with
    | nm j => obtain ⟨v, e, q⟩ := h; exact ⟨v, e, i _ _ q⟩
    | ex δ => obtain ⟨G, sl, E, P, R, h, k, kx⟩ := h; exact ⟨G, sl, E, P, R, h, fun d sl' p G' H' v s R r => i _ _ (k d sl' p G' H' v s R r), kx⟩
  exact imp β1 σ H _ _ (fun v H1 q1 => imp β2 σ H1 _ _ (fun w H2 q2 => q2 v w rfl) q1) q
theorem qe_opB {op : Operator} {r : R2} {ρ : O2} (ho : OpR X (binaryOp op) r) (hr : Rf2 X.K r ρ) (ha : QB X F W a β1) (hb : QB X F W b β2) : QE X F W (.BinOp a op b pos) (dOpB ρ β1 β2) :=
  ⟨pe_imp (pe_op ho ha.run hb.run) fun _ _ _ h => h.opB hr⟩
theorem qe_cmpB {op : CmpOp} {r : R2} {ρ : O2} (ho : OpR X (compareOp op) r) (hr : Rf2 X.K r ρ) (ha : QB X F W a β1) (hb : QB X F W b β2) (hm : behindInMarks op b = false) : QE X F W (.Compare a [op] [b] pos) (dOpB ρ β1 β2) :=
  ⟨pe_imp (pe_cmpR ho ha.run hb.run hm) fun _ _ _ h => h.opB hr⟩
theorem qt_cmpB {op : CmpOp} {r : R2} {ρ : O2} (ho : OpR X (compareOp op) r) (hr : Rf2 X.K r ρ) (ha : QB X F W a β1) (hb : QB X F W b β2) (hm : behindInMarks op b = false) : QT X F W (.Compare a [op] [b] pos) (dTest (dOpB ρ β1 β2)) :=
  ⟨pt_imp (pt_cmpR ho ha.run hb.run hm) fun σ H Q h => by
    obtain ⟨G, sl, E, P, R, h, k, kx⟩ := h
    refine LE.opB (W := W) (F := F) hr (Q := fun x H' => ∃ k, x = .bl k ∧ Q k H') ⟨G, sl, E, _, R, h, fun d sl1 h1 G1 H1 v1 s1 R1 r1 => ?_, kx⟩
    obtain ⟨c, rfl, p⟩ := h1
    cases r1
    exact ⟨c, rfl, k c sl1 p G1 H1 s1 R1⟩⟩
theorem LE.clB {r : List V → Hp → VK → Prop} {ρ : OA} (hr : RfA X.K r ρ) {σ : L2.St} {H : Hp} {Q : VK} (h : LE X.K F W (dClB ρ βs) σ H Q) : tCB r (tBs X.K F W βs) σ H Q := by
  obtain ⟨G, sl, E, P, R, h, k, kx⟩ := h
  exact bs_run βs R h kx fun ds sl' p G' Gt H' vs s1 R1 s2 s3 t => hr Gt H' vs ds _ _ s3 t p fun f hf G3 H3 v3 g r3 => k f sl' hf.2 G' H3 v3 s1 (R1.junked g) (r3.flatTo hf.1)
theorem qe_callBB {id : String} {r : List V → Hp → VK → Prop} {ρ : OA} {p : Pos} (hc : CallR X (.builtin id) r) (hr : RfA X.K r ρ) (hg : Gl X x) (hm : X.mg x = none) (hv : bootBuiltins x = some (.builtin id)) (ha : QBs X F W (e :: es) βs)
    (hn : x ≠ "__name__" := by decide) (hdb : (x == ("__debug__" : Str)) = false := by decide) (he : starEach (e :: es) X.env = (false, eval e X.env) :: starEach es X.env := by rfl) (hpl : (backTo pos (starEach es X.env)).any (·.1) = false := by rfl) :
    QE X F W (.Call (.Name x p) (e :: es) [] pos) (dClB ρ βs) := ⟨pe_imp (pe_callB hc hg hm hv ha.run hn hdb he hpl) fun _ _ _ h => LE.clB hr h⟩
/-- a def called with such arguments: it hands back something flat, raises nothing -/
def dCallB (n : Nat) (φ : Phi) (βs : List Bi) : DE := fun sl E P => dBs βs sl E fun ds sl1 => ds.length = n ∧ φ ds (fun r => (∃ d, r = .val d) ∧ r.d.flat = true ∧ P r.d sl1) fun _ => False
theorem qe_callDB {k n : Nat} {f : Addr} {fd : FuncData} {ps : List Str} {φ : Phi} {p : Pos} (G : FnOk X.prog X.w X.K X.mg X.base (L2.CX X.prog X.w) k f fd ps (SpP X.K n φ)) (hr : Room k X.A) (hg : Gl X x) (hm : X.mg x = some (.ref f)) (hk : PySem.W.keepIn X.K (.ref f) = true) (hb : Binds X.K fd ps []) (tk : Takes X W)
    (ha : QBs X F W (e :: es) βs) (hdb : (x == ("__debug__" : Str)) = false := by decide) (he : starEach (e :: es) X.env = (false, eval e X.env) :: starEach es X.env := by rfl) (hpl : (backTo pos (starEach es X.env)).any (·.1) = false := by rfl) :
    QE X F W (.Call (.Name x p) (e :: es) [] pos) (dCallB n φ βs) :=
  ⟨pe_imp (pe_callS G hr hg hm hk hb (fun σ => passAt tk σ) ha.run hdb he hpl) fun σ H Q h => by
    obtain ⟨G, sl, E, P, R, h, k, kx⟩ := h
    refine bs_run βs R h kx fun ds sl' p G' Gt H' vs s1 R1 s2 s3 t => ?_
    refine ⟨Gt, ds, _, _, p.1, s3, t, p.2, fun r q G2 H2 v s R2 => ?_, fun _ q => q.elim⟩
    obtain ⟨⟨d, rfl⟩, hf, q⟩ := q
    obtain ⟨v', e, r⟩ := R2.frontVal
    cases e
    have eh : ∀ a o, H' a = some o → H2 a = some o := fun a o h => R2.fr a o h (fun z => nomatch z)
    exact k d sl' q G' H2 v s1 (R1.ext (Same.refl _) (R1.ex.trans eh) eh fun _ _ h => .inl h) (r.flatTo hf)⟩
/-- list(x), x one's own: a new list with what it holds -/
def dListB (i : Nat) : DE := fun sl _ P => isLst (peek sl i) = true ∧ P (.lst (lstOf (peek sl i))) sl
theorem Rel.peekL {K : Fg} {G H : Hp} {σ : L2.St} {sl : Sl} (R : Rel K F G σ H sl) (h : isLst (peek sl i) = true) : ∃ a xs, σ[i]? = some (some (.ref a)) ∧ H a = some (.lst xs) ∧ RpL K G xs (lstOf (peek sl i)) := by
  obtain ⟨ds, hd⟩ := isLst_of h
  rw [hd]
  unfold peek at hd
  split at hd
  · rename_i d e
    cases hd
    obtain ⟨v, e, r⟩ := R.valAt e
    cases r with
    | lst g t => exact ⟨_, _, e, R.ex _ _ g, t⟩
  · rename_i d e
    cases hd
    obtain ⟨a, e, R1⟩ := R.take e
    obtain ⟨a', e', o, _⟩ := R1.frontOwn
    cases e'
    obtain ⟨xs, h1, h2⟩ := o
    exact ⟨_, _, e, h1, h2⟩
  · cases hd
theorem qn_listB {p : Pos} (hg : Gl X "list") (hm : X.mg "list" = none) (hv : bootBuiltins "list" = some (.type "list")) (he : PE X e (tVar i))
    (hs : starEach [e] X.env = (false, eval e X.env) :: starEach [] X.env := by rfl) (hpl : (backTo pos (starEach [] X.env)).any (·.1) = false := by rfl) :
    QN X F W (.Call (.Name "list" p) [e] [] pos) (dListB i) :=
  ⟨pe_imp (pe_callTy call_list_of hg hm hv (pa_cons he pa_nil hs) (by decide) (by decide) hs hpl) fun σ H Q h => by
    obtain ⟨G, sl, E, P, R, h, k, kx⟩ := h
    obtain ⟨a, xs, e1, h1, t⟩ := R.peekL h.1
    exact ⟨_, e1, _, _, rfl, .inl (SqL.of h1), fun l hl => k _ sl h.2 _ _ l (Same.refl _) (R.own hl _ ⟨_, upd_same, t⟩)⟩⟩
theorem qe_listB {p : Pos} (hg : Gl X "list") (hm : X.mg "list" = none) (hv : bootBuiltins "list" = some (.type "list")) (he : PE X e (tVar i))
    (hs : starEach [e] X.env = (false, eval e X.env) :: starEach [] X.env := by rfl) (hpl : (backTo pos (starEach [] X.env)).any (·.1) = false := by rfl) :
    QE X F W (.Call (.Name "list" p) [e] [] pos) (dListB i) :=
  ⟨pe_imp (pe_callTy call_list_of hg hm hv (pa_cons he pa_nil hs) (by decide) (by decide) hs hpl) fun σ H Q h => by
    obtain ⟨G, sl, E, P, R, h, k, kx⟩ := h
    obtain ⟨a, xs, e1, h1, t⟩ := R.peekL h.1
    exact ⟨_, e1, _, _, rfl, .inl (SqL.of h1), fun l hl => k _ sl h.2 _ _ _ (Grown.new R.ex hl _).g (R.grown (Grown.new R.ex hl _)) (.lst upd_same (t.mono (Grown.new R.ex hl _).g))⟩⟩
/-- x[k], x one's own list -/
def dIxB (i : Nat) (α : DE) : DE := fun sl E P => (peek sl i).isSome = true ∧ α sl E fun d sl1 => isLst (peek sl1 i) = true ∧ ∃ j f, d = .int j ∧ L2.atI (lstOf (peek sl1 i)) j = some f ∧ P f sl1
theorem qe_ixB (ha : PE X a (tVar i)) (hb : QE X F W b α) (hs : PlainIx b := by exact fun _ _ => rfl) : QE X F W (.Subscript a b pos) (dIxB i α) :=
  ⟨pe_imp (pe_ix ix_seq ha hb.run hs) fun σ H Q h => by
    obtain ⟨G, sl, E, P, R, h, k, kx⟩ := h
    obtain ⟨v, hv⟩ := R.peeked h.1
    refine ⟨v, hv, G, sl, E, _, R, h.2, fun d sl1 h1 G1 H1 w s1 R1 r1 => ?_, kx⟩
    obtain ⟨hl, j, f, rfl, hj, p⟩ := h1
    obtain ⟨a', xs, e1, h2, t⟩ := R1.peekL hl
    cases hv.symm.trans e1
    cases r1
    obtain ⟨u, h3, r⟩ := t.atI hj
    exact .inl ⟨_, _, _, u, rfl, rfl, SqL.of h2, h3, k f sl1 p G1 H1 u s1 R1 r⟩⟩
/-- return x, x one's own -/
def dRetOwn (i : Nat) : DS := fun De sl => ∃ d, sl[i]? = some (.own d) ∧ De.rt (.own d)
theorem qs_retOwn (he : PE X e (tVar i)) : QS X F W (.Return (some e) pos) (dRetOwn i) := ⟨ps_imp (ps_ret he) fun D σ H h => by
  obtain ⟨G, sl, De, R, ⟨d, hd, h⟩, f⟩ := h
  obtain ⟨a, e, R1⟩ := R.take hd
  exact ⟨_, e, f.rt (.own d) h G H _ (Same.refl _) R1.retO⟩⟩
/-- what the module holds -/
theorem qe_glob {v : V} {u : Value} {d : D} (hg : Gl X x) (hm : X.mg x = some u) (r : RelV v u) (rp : ∀ G, Rp X.K G v d) (hd : (x == ("__debug__" : Str)) = false := by decide) : QE X F W (.Name x pos) (dC d) := qe_const (pe_glob hg hm r hd) rp
/-- a op b op' c -/
theorem LE.chain {r r' : R2} {ρ ρ' : O2} (hr : Rf2 X.K r ρ) (hr' : Rf2 X.K r' ρ') {σ : L2.St} {H : Hp} {Q : VK} (h : LE X.K F W (dChain ρ ρ' α β γ) σ H Q) : tChain r r' (LE X.K F W α) (LE X.K F W β) (LE X.K F W γ) σ H Q := by
  obtain ⟨G, sl, E, P, R, h, k, kx⟩ := h
  refine ⟨G, sl, E, _, R, h, fun d sl1 h1 G1 H1 v1 s1 R1 r1 => ⟨G1, sl1, E, _, R1, h1, fun d2 sl2 h2 G2 H2 v2 s2 R2 r2 => ?_, kx.mono s1⟩, kx⟩
  refine hr G2 H2 v1 v2 d d2 _ _ R2.ex (r1.mono s2) r2 h2 fun f hf G3 H3 v3 g r3 => ?_
  obtain ⟨c, rfl, hf⟩ := hf
  cases r3
  refine ⟨c, rfl, ?_⟩
  have s13 := s1.trans (s2.trans g.g)
  cases c with
  | true =>
    exact ⟨G3, sl2, E, _, R2.grown g, hf, fun d4 sl4 h4 G4 H4 v4 s4 R4 r4 => hr' G4 H4 v2 v4 d2 d4 _ _ R4.ex (r2.mono (g.g.trans s4)) r4 h4 fun f5 hf5 G5 H5 v5 g5 r5 => k f5 sl4 hf5 G5 H5 v5 (s13.trans (s4.trans g5.g)) (R4.grown g5) r5, kx.mono s13⟩
  | false => exact k _ sl2 hf G3 H3 _ s13 (R2.grown g) (.bl false)
theorem qe_chain {op op' : CmpOp} {r r' : R2} {ρ ρ' : O2} (ho : OpR X (compareOp op) r) (hr : Rf2 X.K r ρ) (ho' : OpR X (compareOp op') r') (hr' : Rf2 X.K r' ρ') (ha : QE X F W a α) (hb : QE X F W b β) (hc : QE X F W c γ)
    (hm : lastMarks [op, op'] [b, c] = false := by with_unfolding_all rfl) : QE X F W (.Compare a [op, op'] [b, c] pos) (dChain ρ ρ' α β γ) :=
  ⟨pe_imp (pe_chain ho ho' ha.run hb.run hc.run hm) fun _ _ _ h => LE.chain hr hr' h⟩
theorem qt_chain {op op' : CmpOp} {r r' : R2} {ρ ρ' : O2} (ho : OpR X (compareOp op) r) (hr : Rf2 X.K r ρ) (ho' : OpR X (compareOp op') r') (hr' : Rf2 X.K r' ρ') (ha : QE X F W a α) (hb : QE X F W b β) (hc : QE X F W c γ)
    (hm : lastMarks [op, op'] [b, c] = false := by with_unfolding_all rfl) : QT X F W (.Compare a [op, op'] [b, c] pos) (dTest (dChain ρ ρ' α β γ)) :=
  ⟨pt_imp (pt_chain ho ho' ha.run hb.run hc.run hm) fun σ H Q h => by
    obtain ⟨G, sl, E, P, R, h, k, kx⟩ := h
    refine LE.chain (F := F) (W := W) hr hr' (Q := fun x H' => ∃ k, x = .bl k ∧ Q k H') ⟨G, sl, E, _, R, h, fun d sl1 h1 G1 H1 v1 s1 R1 r1 => ?_, kx⟩
    obtain ⟨c, rfl, p⟩ := h1
    cases r1
    exact ⟨c, rfl, k c sl1 p G1 H1 s1 R1⟩⟩
end
end Dx
namespace Dx
open PySem L2 PySem.Spec PyProof.Rows
/-! ### repr, where nothing is being shown yet -/
section
variable {X : Cx} {F : Fx} {W : WX} {e : Expr} {τ : DA} {pos : Pos}
def rRepr (K : Fg) : List V → Hp → VK → Prop := fun xs H Q => ∃ x p, xs = [x] ∧ Dp K H x p ∧ p.showable = true ∧ p.hasDict = false ∧ p.depth ≤ 60 ∧ p.shown.length ≤ sizeLine ∧ Q (.str p.shown) H
theorem call_reprD (hg : X.A.guards = some []) (hu : X.A.units + 200 < cLine) : CallR X (.builtin "repr") (rRepr X.K) := by
  intro pins s σ H xs us Q I r h
  obtain ⟨x, p, rfl, hp, hs, hd, h60, hz, q⟩ := h
  obtain ⟨u, rfl, rv⟩ := vals1 r
  obtain ⟨as, rr⟩ := Dp.reads I p x u hp rv
  have go : ∀ (h' : Heap) (u tk : Nat), (∀ b o, s.heap.get? b = some o → h'.get? b = some o) → EP X pins σ Q (.str p.shown u) { s with heap := h', toks := tk } := fun h' u tk hk => ⟨.str p.shown, H, I.kept hk, ⟨u, rfl⟩, q⟩
  cases rr with
  | none => exact PySem.P.repr_of_none (go s.heap _ _ fun _ _ z => z)
  | bool b => exact PySem.P.repr_of_bool (go s.heap _ _ fun _ _ z => z)
  | int i t => exact PySem.P.repr_of_int (of_decide_eq_true hs) (go s.heap _ _ fun _ _ z => z)
  | str z t => exact PySem.P.repr_of_str (go s.heap _ _ fun _ _ z => z) hz
  | list h1 h2 h3 h4 => exact repr_of_reads' (.list h1 h2 h3 h4) hs (fun z => nomatch hd.symm.trans z) hg (by omega) (fun _ _ z => z) go hz
  | tuple h1 h2 h3 h4 => exact repr_of_reads' (.tuple h1 h2 h3 h4) hs (fun z => nomatch hd.symm.trans z) hg (by omega) (fun _ _ z => z) go hz
  | dict h1 h2 h3 h4 h5 => exact repr_of_reads' (.dict h1 h2 h3 h4 h5) hs (fun z => nomatch hd.symm.trans z) hg (by omega) (fun _ _ z => z) go hz
def oRepr : OA := fun ds P => match ds with
  | [d] => ∃ p, d.py = some p ∧ p.showable = true ∧ p.hasDict = false ∧ p.depth ≤ 60 ∧ p.shown.length ≤ sizeLine ∧ P (.str p.shown)
  | _ => False
theorem rf_repr {K : Fg} : RfA K (rRepr K) oRepr := by
  intro G H xs ds P Q s r h k
  cases r with
  | nil => exact h.elim
  | cons r t =>
    cases t with
    | cons _ _ => exact h.elim
    | nil =>
      obtain ⟨p, h1, h2, h3, h4, h5, h6⟩ := h
      exact ⟨_, p, rfl, r.dp s h1, h2, h3, h4, h5, k _ h6 G H _ (.refl s) (.str _)⟩
end
/-! ### the law's def at the caller's place -/
structure LawAt (P : Program) (w : World) (K : Fg) (mg : Str → Option Value) (base : Heap) (f : Addr) (fd : FuncData) (x : Str) (sp : Sp) : Prop where
  run : ∀ (st0 : Shared) (H : Hp) (u : Value) (v : V) (Q : VK) (E : XK), Env0 P w K mg base callerA [] st0 H → BindsTo st0 fd ⟨[u], []⟩ [(x, u)] → RelV v u → sp [v] H Q E →
    codeAny (model P w) callerA (.call (.ref f) ⟨[u], []⟩) (CR (L2.CX P w) [] P w H st0 Q E) st0
theorem law_at {P : Program} {w : World} {K : Fg} {mg : Str → Option Value} {base : Heap} {x name qual : Str} {st : Stmt} {f : Addr} {fd : FuncData} {N : List Str} {sp : Sp} (Fu : Fun K name qual st f fd) (S : FnScope N [x] (defScope st))
    (body : ∀ (cdv : Value) (st0 : Shared) (H : Hp) (v : V) (Q : VK) (E : XK), sp [v] H Q E → ∃ t, PSs (cxOf (L2.CX P w) P w K mg base N qual (defScope st) f cdv callerA [] st0 H E) (defBody st) t ∧ t { nx := fun _ H' => Q .non H', rt := Q } (start N [v]) H) :
    LawAt P w K mg base f fd x sp := by
  obtain ⟨oc, od, kV, doc, pm, an, cdv, ct, osl, rfl, lk, hcd⟩ := Fu.ex
  refine ⟨fun st0 H u v Q E z0 hb rv hq => ?_⟩
  have old : ∀ b o, base.get? b = some o → st0.heap.get? b = some o := fun b o e => (z0.bs b o e).1
  have kin : K.In st0.heap := z0.mod.kin.keeps old
  have far : callerA.depth < recursionLimit := by decide
  refine codeAny_call_function far (kin _ _ lk) rfl S.co S.gen rfl (PySem.W.codeRec_of kin hcd) (hb _ _ _ _ ?_)
  refine wpAny_newFunctionEnv_cells S.kind (fun y hy => ?_) fun env he st1 xx => ?_
  · have e : y = (x, u) := List.mem_singleton.mp hy
    subst e
    exact (S.par x List.mem_cons_self).imp_right fun z => ⟨z, PySem.W.cellsFrom_some _ _ _ (.inl z)⟩
  subst he
  refine ⟨(z0.mod.nolimit.keeps old).keeps xx.toInCall.keep, codeAny_func ?_⟩
  obtain ⟨t, ht, hh⟩ := body cdv st0 H v Q E hq
  have I : Inv (cxOf (L2.CX P w) P w K mg base N qual (defScope st) f cdv callerA [] st0 H E) [] (start N [v]) H st1 := inv_start (us := [u]) (vs := [v]) S rfl z0 rfl (.cons rv .nil) xx
  refine wpAny_mono (ht.run [] st1 (start N [v]) H _ I hh) (fun fl s' hs => ?_) fun _ _ z => z
  cases fl with
  | brk =>
    obtain ⟨_, _, _, z⟩ := hs
    exact False.elim z
  | cont =>
    obtain ⟨_, _, _, z⟩ := hs
    exact False.elim z
  | next =>
    obtain ⟨σ', H', J, z⟩ := hs
    exact ⟨V.non, H', J.os, J.bare, J.base, J.hok, rfl, z⟩
  | ret u' =>
    obtain ⟨v', σ', H', J, r', z⟩ := hs
    exact ⟨v', H', J.os, J.bare, J.base, J.hok, r', z⟩
/-- the law's promise, the script s heap either tracked or one of the module's own objects -/
theorem law_core {P : Program} {w : World} {K : Fg} {mg mb : Str → Option Value} {fa a : Addr} {fd : FuncData} {x : Str} {sp : Sp} {st1 : Shared} {vs : List Value} {H : Hp}
    (kx : K.In st1.heap) (ns0 : st1.heap.Ns mainGlobals mg) (ns1 : st1.heap.Ns builtinsNs mb) (blt : ∀ y : Str, y ≠ "__name__" → mb y = bootBuiltins y) (lim : st1.heap.NoLimit) (gens : st1.gens = #[])
    (ea : st1.heap.get? a = some { cls := .type "list", data := .seq vs.toArray })
    (at_ : ∀ base : Heap, K.In base → base.Ns mainGlobals mg → LawAt P w K mg base fa fd x sp) (bind : ∀ (s : Shared) (u : Value), BindsTo s fd ⟨[u], []⟩ [(x, u)])
    (only : ∀ b, H b ≠ none → b = a ∧ ∃ o xs, H b = some (.frz o (.lst xs))) (hok : HOk P w H st1.heap) (free : H a ≠ none → K.lookup a = none) (hsp : sp [.ref a] H (fun v _ => v = .bl true) fun _ _ _ => False) :
    codeAny (model P w) callerA (.call (.ref fa) ⟨[.ref a], []⟩) (fun r s' => r = .ok (.ret (.bool true)) ∧ OldK st1.heap s'.heap ∧ s'.os = st1.os ∧ AllBare s'.gens) st1 := by
  have notA : ∀ {b : Addr}, b ≠ a → H b = none := fun {b} hb => Classical.byContradiction fun z => hb (only b z).1
  have low : ∀ {b : Addr} {o : Obj}, st1.heap.get? b = some o → H b = none → (hidT st1.heap H).get? b = some o := fun z n => hidT_get z n
  have dictLow : ∀ {b : Addr} {m : Str → Option Value}, st1.heap.Ns b m → (hidT st1.heap H).Ns b m := fun {b m} ⟨o, es, ep, z, d, r⟩ => ⟨o, es, ep, low z (notA fun q => by
    subst q
    cases ea.symm.trans z
    exact nomatch (show Data.seq vs.toArray _ = Data.dict es ep from d)), d, r⟩
  have kb : K.In (hidT st1.heap H) := fun b o z => low (kx b o z) (by
    by_cases hb : b = a
    · subst hb
      cases q : H b with
      | none => rfl
      | some y => exact nomatch (free (by rw [q]; exact fun z => nomatch z)).symm.trans z
    · exact notA hb)
  have mo : Mod K mg (hidT st1.heap H) := ⟨kb, dictLow ns0, ⟨mb, dictLow ns1, blt⟩, ⟨lim.choose, dictLow lim.choose_spec.1, lim.choose_spec.2⟩⟩
  have z0 : Env0 P w K mg (hidT st1.heap H) callerA [] st1 H := ⟨rfl, mo, fun _ _ z => of_hidT z, Nat.le_of_eq (hidT_size _ _), trivial, (fun b hb => (by cases (show b ∈ ([] : List Addr) from hb))), hok, .of_eq gens⟩
  refine codeAny_mono ((at_ _ kb (dictLow ns0)).run st1 H (.ref a) (.ref a) _ _ z0 (bind st1 (.ref a)) rfl hsp) fun r s' h => ?_
  match r, h with
  | .error e, h =>
    obtain ⟨_, _, _, _, _, _, _, _, _, _, _, _, z⟩ := h
    exact False.elim z
  | .ok .next, h => exact False.elim h
  | .ok .brk, h => exact False.elim h
  | .ok .cont, h => exact False.elim h
  | .ok (.ret u), h =>
    obtain ⟨v, H', os, bare, un, hok', rv, q⟩ := h
    cases (show v = .bl true from q)
    cases (show u = Value.bool true from rv)
    refine ⟨rfl, OldK.of_keep fun b o z => ?_, os, bare⟩
    by_cases hn : H b = none
    · exact un.keep b o z hn (fun w => (by cases (show b ∈ ([] : List Addr) from w))) (by simp)
    · obtain ⟨_, ob, xs, hb⟩ := only b hn
      cases z.symm.trans (hok b _ hb).1
      exact (hok' b _ (un.frzs b _ _ hb)).1
theorem law_here {P : Program} {w : World} {K : Fg} {mg mb : Str → Option Value} {fa a : Addr} {fd : FuncData} {x : Str} {sp : Sp} {st1 : Shared} {vs : List Value} {ns : List Int}
    (kx : K.In st1.heap) (ns0 : st1.heap.Ns mainGlobals mg) (ns1 : st1.heap.Ns builtinsNs mb) (blt : ∀ y : Str, y ≠ "__name__" → mb y = bootBuiltins y) (lim : st1.heap.NoLimit) (gens : st1.gens = #[])
    (ea : st1.heap.get? a = some { cls := .type "list", data := .seq vs.toArray }) (hi : IntsAre vs ns) (hl : ns.length ≤ sizeLine)
    (at_ : ∀ base : Heap, K.In base → base.Ns mainGlobals mg → LawAt P w K mg base fa fd x sp) (bind : ∀ (s : Shared) (u : Value), BindsTo s fd ⟨[u], []⟩ [(x, u)])
    (hsp : ∀ H : Hp, SqL K H a (ns.map V.int) → sp [.ref a] H (fun v _ => v = .bl true) fun _ _ _ => False) :
    codeAny (model P w) callerA (.call (.ref fa) ⟨[.ref a], []⟩) (fun r s' => r = .ok (.ret (.bool true)) ∧ OldK st1.heap s'.heap ∧ s'.os = st1.os ∧ AllBare s'.gens) st1 := by
  have rv := vals_ints hi
  cases hk : K.lookup a with
  | none =>
    obtain ⟨H, hH, hN⟩ : ∃ H : Hp, H a = some (.frz { cls := .type "list", data := .seq vs.toArray } (.lst (ns.map V.int))) ∧ ∀ b, b ≠ a → H b = none :=
      ⟨fun b => if b = a then some (.frz { cls := .type "list", data := .seq vs.toArray } (.lst (ns.map V.int))) else none, if_pos rfl, fun b hb => if_neg hb⟩
    have isA : ∀ b, H b ≠ none → b = a := fun b z => Classical.byContradiction fun q => z (hN b q)
    refine law_core (H := H) kx ns0 ns1 blt lim gens ea at_ bind (fun b z => ⟨isA b z, { cls := .type "list", data := .seq vs.toArray }, ns.map V.int, (isA b z).symm ▸ hH⟩) (fun b y z => ?_) (fun _ => hk) (hsp H (.inl (.inr ⟨_, hH⟩)))
    cases isA b (by rw [z]; exact fun q => nomatch q)
    cases hH.symm.trans z
    exact ⟨ea, by rw [List.length_map]; exact hl, vs, _, rv, ea⟩
  | some o =>
    cases ea.symm.trans (kx a o hk)
    exact law_core (H := fun _ => none) kx ns0 ns1 blt lim gens ea at_ bind (fun b z => absurd rfl z) (fun b y z => nomatch (show (none : Option HO) = some y from z)) (fun z => absurd rfl z)
      (hsp _ (.inr ⟨_, vs.toArray, _, hk, rfl, rfl, rfl, by rw [List.size_toArray, hi.length]; exact hl, by simpa using rv⟩))
theorem walk_here {l : PySem.W.OpenLaw} {n : Nat} {q : Program} {loose : List Str} {XP : (Str → Option Value) → Heap → Prop} {YP : World → Heap → Prop} {d : DefRec} {K : Params → Fg} {sp : Fg → Sp} {x : Str}
    (hn : l.most = some n) (hn2 : n ≤ sizeLine) (hdf : d.params.defaults = []) (hY : ∀ (w : World) (h : Heap), YP w h → (K w.params).In h)
    (Fo : ∀ (w : World) (mg : Str → Option Value) (fa : Addr) (h : Heap), (K w.params).In h → h.Ns mainGlobals mg → mg d.name = some (.ref fa) →
      ∃ fd : FuncData, (∀ (s : Shared) (u : Value), BindsTo s fd ⟨[u], []⟩ [(x, u)]) ∧ ∀ base : Heap, (K w.params).In base → base.Ns mainGlobals mg → LawAt l.prog w (K w.params) mg base fa fd x (sp (K w.params)))
    (hsp : ∀ (K : Fg) (H : Hp) (a : Addr) (ns : List Int), ns.length ≤ n → SqL K H a (ns.map V.int) → sp K [.ref a] H (fun v _ => v = .bl true) fun _ _ _ => False) :
    PySem.W.WalkO q loose XP YP l.row.toRowW d [] (fun f vs => PySem.call f vs) := by
  refine Att.attach_call hn hdf fun w _ st1 mg mb fa _ _ _ _ a vs ns G Y _ _ _ hmg hobj hints hlen hg => ?_
  obtain ⟨fd, hb, hF⟩ := Fo w mg fa _ (hY w _ Y) G.T.g hmg
  exact law_here (hY w _ Y) G.T.g G.T.b G.T.builtins G.T.nolimit hg hobj hints (Nat.le_trans hlen hn2) hF hb fun H hS => hsp _ H a ns hlen hS
end Dx
namespace Dx
open PySem L2
/-! ### the text's defs, packed -/
structure DefAt (K : Fg) (mg : Str → Option Value) (x : Str) (st : Stmt) (ps : List Str) : Prop where
  ex : ∃ f fd, Fun K x x st f fd ∧ Binds K fd ps [] ∧ mg x = some (.ref f)
def OkP (P : Program) (w : World) (K : Fg) (mg : Str → Option Value) (base : Heap) (k : Nat) (x : Str) (n : Nat) (φ : Phi) : Prop :=
  ∃ f fd ps, FnOk P w K mg base (L2.CX P w) k f fd ps (SpP K n φ) ∧ mg x = some (.ref f) ∧ PySem.W.keepIn K (.ref f) = true ∧ Binds K fd ps []
def OkH (P : Program) (w : World) (K : Fg) (mg : Str → Option Value) (base : Heap) (k : Nat) (x : Str) (n : Nat) (φ : Phi) : Prop :=
  ∃ f fd ps, FnOk P w K mg base (L2.CX P w) k f fd ps (SpH K n φ) ∧ mg x = some (.ref f) ∧ PySem.W.keepIn K (.ref f) = true ∧ Binds K fd ps []
section
variable {P : Program} {w : World} {K : Fg} {mg : Str → Option Value} {base : Heap}
theorem okP_of {x : Str} {st : Stmt} {N ps : List Str} {k n : Nat} {φ : Phi} {δ : DS} (D : DefAt K mg x st ps) (S : FnScope N ps (defScope st)) (hn : ps.length = n)
    (hb : ∀ f, BodyD P w K mg base N x st f k δ) (hd : ∀ ds Q QE, ds.length = n → φ ds Q QE → δ (endsD Q QE) (startD N ds)) : OkP P w K mg base (k + 1) x n φ := by
  obtain ⟨f, fd, Fu, bi, hm⟩ := D.ex
  exact ⟨f, fd, ps, fn_P Fu S hn (hb f) hd, hm, Fu.kp, bi⟩
theorem okH_of {x : Str} {st : Stmt} {N ps : List Str} {k n : Nat} {φ : Phi} {δ : DS} (D : DefAt K mg x st ps) (S : FnScope N ps (defScope st)) (hn : ps.length = n + 1)
    (hb : ∀ f, BodyD P w K mg base N x st f k δ) (hd : ∀ ds Q QE, ds.length = n → φ ds Q QE → δ (endsD Q QE) (startH N ds)) : OkH P w K mg base (k + 1) x n φ := by
  obtain ⟨f, fd, Fu, bi, hm⟩ := D.ex
  exact ⟨f, fd, ps, fn_H Fu S hn (hb f) hd, hm, Fu.kp, bi⟩
end
section
variable {X : Cx} {F : Fx} {W : WX} {k n i : Nat} {φ : Phi} {x : Str} {p pos : Pos} {e o : Expr} {es : List Expr} {τ : DA} {βs : List Bi}
theorem qe_cP (G : OkP X.prog X.w X.K X.mg X.base k x n φ) (hr : Room k X.A) (hg : Gl X x) (tk : Takes X W) (ha : QA X F W (e :: es) τ)
    (hdb : (x == ("__debug__" : Str)) = false := by decide) (he : starEach (e :: es) X.env = (false, eval e X.env) :: starEach es X.env := by rfl) (hpl : (backTo pos (starEach es X.env)).any (·.1) = false := by rfl) :
    QE X F W (.Call (.Name x p) (e :: es) [] pos) (dCall n φ τ) := by
  obtain ⟨f, fd, ps, G, hm, hk, hb⟩ := G
  exact qe_call G hr hg hm hk hb tk ha hdb he hpl
theorem qn_cP (G : OkP X.prog X.w X.K X.mg X.base k x n φ) (hr : Room k X.A) (hg : Gl X x) (tk : Takes X W) (ha : QA X F W (e :: es) τ)
    (hdb : (x == ("__debug__" : Str)) = false := by decide) (he : starEach (e :: es) X.env = (false, eval e X.env) :: starEach es X.env := by rfl) (hpl : (backTo pos (starEach es X.env)).any (·.1) = false := by rfl) :
    QN X F W (.Call (.Name x p) (e :: es) [] pos) (dCallN n φ τ) := by
  obtain ⟨f, fd, ps, G, hm, hk, hb⟩ := G
  exact qn_call G hr hg hm hk hb tk ha hdb he hpl
theorem qe_cB (G : OkP X.prog X.w X.K X.mg X.base k x n φ) (hr : Room k X.A) (hg : Gl X x) (tk : Takes X W) (ha : QBs X F W (e :: es) βs)
    (hdb : (x == ("__debug__" : Str)) = false := by decide) (he : starEach (e :: es) X.env = (false, eval e X.env) :: starEach es X.env := by rfl) (hpl : (backTo pos (starEach es X.env)).any (·.1) = false := by rfl) :
    QE X F W (.Call (.Name x p) (e :: es) [] pos) (dCallB n φ βs) := by
  obtain ⟨f, fd, ps, G, hm, hk, hb⟩ := G
  exact qe_callDB G hr hg hm hk hb tk ha hdb he hpl
theorem qe_cH (G : OkH X.prog X.w X.K X.mg X.base k x n φ) (hr : Room k X.A) (hg : Gl X x) (tk : Takes X W) (hh : PE X o (tVar i)) (ha : QA X F W es τ)
    (hdb : (x == ("__debug__" : Str)) = false := by decide) (he : starEach (o :: es) X.env = (false, eval o X.env) :: starEach es X.env := by rfl) (hpl : (backTo pos (starEach es X.env)).any (·.1) = false := by rfl) :
    QE X F W (.Call (.Name x p) (o :: es) [] pos) (dCallH i n φ τ) := by
  obtain ⟨f, fd, ps, G, hm, hk, hb⟩ := G
  exact qe_callH G hr hg hm hk hb tk hh ha hdb he hpl
theorem qn_cH (G : OkH X.prog X.w X.K X.mg X.base k x n φ) (hr : Room k X.A) (hg : Gl X x) (tk : Takes X W) (hh : PE X o (tVar i)) (ha : QA X F W es τ)
    (hdb : (x == ("__debug__" : Str)) = false := by decide) (he : starEach (o :: es) X.env = (false, eval o X.env) :: starEach es X.env := by rfl) (hpl : (backTo pos (starEach es X.env)).any (·.1) = false := by rfl) :
    QN X F W (.Call (.Name x p) (o :: es) [] pos) (dCallHN i n φ τ) := by
  obtain ⟨f, fd, ps, G, hm, hk, hb⟩ := G
  exact qn_callH G hr hg hm hk hb tk hh ha hdb he hpl
theorem boot_at {x : Str} {v : Value} (h : bootBuiltins x = some v) : bootBuiltins x = some v := h
end
theorem bb_len : bootBuiltins "len" = some (.builtin "len") := by decide +kernel
theorem bb_abs : bootBuiltins "abs" = some (.builtin "abs") := by decide +kernel
theorem bb_min : bootBuiltins "min" = some (.builtin "min") := by decide +kernel
theorem bb_max : bootBuiltins "max" = some (.builtin "max") := by decide +kernel
theorem bb_divmod : bootBuiltins "divmod" = some (.builtin "divmod") := by decide +kernel
theorem bb_repr : bootBuiltins "repr" = some (.builtin "repr") := by decide +kernel
theorem bb_isinstance : bootBuiltins "isinstance" = some (.builtin "isinstance") := by decide +kernel
theorem bb_int : bootBuiltins "int" = some (.type "int") := by decide +kernel
theorem bb_str : bootBuiltins "str" = some (.type "str") := by decide +kernel
theorem bb_bool : bootBuiltins "bool" = some (.type "bool") := by decide +kernel
theorem bb_list : bootBuiltins "list" = some (.type "list") := by decide +kernel
theorem bb_tuple : bootBuiltins "tuple" = some (.type "tuple") := by decide +kernel
theorem bb_dict : bootBuiltins "dict" = some (.type "dict") := by decide +kernel

/-! ### the law's hand: made, drawn from -/
def phHand : Phi := fun ds P _ => ∃ ns : List Int, ds = [.scr ns] ∧ ns.length ≤ 63 ∧ ∀ t : Int, 0 ≤ t → t < 2147483629 → P (.own (.lst [.lst (ns.map fun n => .int (n.natAbs : Int)), .int 0, .int 0, .int t]))
def phDraw : Phi := fun ds P _ => ∃ m : Int, ds = [.int m] ∧ 0 < m ∧ m.natAbs.log2 < 4000 ∧ ∀ r : Int, 0 ≤ r → r < m → P (.val (.int r))
def phMix : Phi := fun ds P _ => ∃ a b : Int, ds = [.int a, .int b] ∧ 0 ≤ a ∧ a < 2147483647 ∧ 0 ≤ b ∧ b ≤ 64 ∧ ∀ r : Int, 0 ≤ r → P (.val (.int r))
def spLaw (K : Fg) : Sp := fun vs H Q _ => ∃ (a : Addr) (ns : List Int), vs = [.ref a] ∧ ns.length ≤ 63 ∧ SqL K H a (ns.map V.int) ∧ ∀ H', Q (.bl true) H'
/-- the law's slots behind the hand's making -/
def lawSl (N : List Str) (ns : List Int) : Sl := .val (.scr ns) :: .hand :: List.replicate (N.length - 2) .un
def dHand : DS := dOwn 1 (dCallN 1 phHand (dCons (dVar 0) dNil))
theorem sls_uns {K : Fg} {F F' : Fx} {G H : Hp} : ∀ {n : Nat} {σ : L2.St} {as : List Addr}, Sls K F G H σ (List.replicate n .un) as → Sls K F' G H σ (List.replicate n .un) []
  | 0, _, _, .nil => .nil
  | n + 1, _, _, .un t => .un (sls_uns t)
theorem law_hand {P : Program} {w : World} {K : Fg} {mg : Str → Option Value} {base : Heap} {x name qual : Str} {st s1 : Stmt} {rest : List Stmt} {f : Addr} {fd : FuncData} {N : List Str} {δ : DS} (Fu : Fun K name qual st f fd) (S : FnScope N [x] (defScope st)) (hN : 2 ≤ N.length)
    (hb : defBody st = s1 :: rest)
    (h1 : ∀ (cdv : Value) (st0 : Shared) (H : Hp) (E : XK) (F : Fx), QS (cxOf (L2.CX P w) P w K mg base N qual (defScope st) f cdv callerA [] st0 H E) F (WOut E) s1 dHand)
    (h2 : ∀ (cdv : Value) (st0 : Shared) (H : Hp) (E : XK) (F : Fx), QSs (cxOf (L2.CX P w) P w K mg base N qual (defScope st) f cdv callerA [] st0 H E) F (WOut E) rest δ)
    (hd : ∀ ns : List Int, ns.length ≤ 63 → δ (endsD (fun r => r = .val (.bl true)) fun _ => False) (lawSl N ns)) : LawAt P w K mg base f fd x (spLaw K) := by
  refine law_at Fu S fun cdv st0 H v Q E h => ?_
  obtain ⟨a, ns, e, hl, hS, k⟩ := h
  cases e
  rw [hb]
  refine ⟨_, pss_cons (u := fun D σ H' => ∃ F, LS K F (WOut E) δ D σ H') (h1 cdv st0 H E ⟨none, H, H⟩).run ⟨fun pins s σ H' D I ⟨F, q⟩ => (h2 cdv st0 H E F).run.run pins s σ H' D I q⟩, ?_⟩
  have R0 : Rel K ⟨none, H, H⟩ H (L2.start N [.ref a]) H (startD N [.scr ns]) := start_P (Same.refl _) (.cons (.scr hS) .nil)
  obtain ⟨m, hm⟩ : ∃ m, N.length = m + 2 := ⟨N.length - 2, by omega⟩
  have e0 : startD N [.scr ns] = .val (.scr ns) :: .un :: List.replicate m .un := by
    unfold startD
    rw [hm]
    rfl
  rw [e0] at R0
  refine ⟨H, _, { nx := fun sl => ∃ t : Int, 0 ≤ t ∧ t < 2147483629 ∧ sl = .val (.scr ns) :: .own (.lst [.lst (ns.map fun n => .int (n.natAbs : Int)), .int 0, .int 0, .int t]) :: List.replicate m .un, rt := fun _ => False, bk := fun _ => False, ct := fun _ => False, ex := fun _ _ => False }, R0, ?_, ?_⟩
  · refine ⟨rfl, ns, rfl, hl, fun t t0 t1 => ?_⟩
    exact ⟨_, rfl, t, t0, t1, rfl⟩
  · refine ⟨fun sl' hsl G' σ' H' s R => ?_, fun _ z => False.elim z, fun _ z => False.elim z, fun _ z => False.elim z, fun _ _ z => False.elim z⟩
    obtain ⟨t, t0, t1, rfl⟩ := hsl
    obtain ⟨g1, g2, g3, g4, g5, as, ss⟩ := R
    cases ss with
    | val rv ss =>
      cases ss with
      | @own q d σ'' _ as' o gq hq pq nq ss =>
        obtain ⟨xs, e1, rr⟩ := o
        cases rr with
        | cons r1 rr =>
          cases rr with
          | cons r2 rr =>
            cases rr with
            | cons r3 rr =>
              cases rr with
              | cons r4 rr =>
                cases rr
                cases r1 with
                | lst gc tc =>
                  cases r2
                  cases r3
                  cases r4
                  have ec := RpL.toInts (K := K) (G := G') (ns := ns.map fun n => (n.natAbs : Int)) (by rw [List.map_map]; exact tc)
                  refine ⟨⟨some q, H', G'⟩, G', lawSl N ns, endsD (fun r => r = .val (.bl true)) (fun _ => False), ?_, hd ns hl, ?_⟩
                  · unfold lawSl
                    rw [hm]
                    refine ⟨g1, Same.refl _, fun _ _ z _ => z, fun _ _ z => .inl z, fun p hp => ?_, [], .val rv (.hand rfl (sls_uns ss))⟩
                    cases hp
                    refine ⟨⟨_, ns.map fun n => (n.natAbs : Int), 0, 0, t, e1, ?_, ?_, ?_, Int.le_refl _, ?_, Int.le_refl _, t0, t1⟩, gq⟩
                    · rw [← ec]
                      exact SqL.of gc
                    · intro x hx
                      obtain ⟨n, _, rfl⟩ := List.mem_map.mp hx
                      exact Int.natCast_nonneg _
                    · rw [List.length_map]; exact hl
                    · exact Int.natCast_nonneg _
                  · refine ⟨fun _ z => ?_, fun _ z => False.elim z, fun _ z => False.elim z, fun r z G2 H2 v _ R2 => ?_, fun _ _ z => False.elim z⟩
                    · exact nomatch (show Ret.val .non = Ret.val (.bl true) from z)
                    · cases (show r = .val (.bl true) from z)
                      obtain ⟨v', e, r⟩ := R2.frontVal
                      cases e
                      cases r
                      exact k H2
end Dx
namespace Dx
open PySem L2
section
variable {X : Cx} {F : Fx} {W : WX} {e tg iter : Expr} {α β : DE} {ι κ : DI}
def dAltI (ι κ : DI) : DI := fun sl E P => ι sl E P ∨ κ sl E P
def dAlt (α β : DE) : DE := fun sl E P => α sl E P ∨ β sl E P
theorem qi_alt (h1 : QI X F W tg iter ι) (h2 : QI X F W tg iter κ) : QI X F W tg iter (dAltI ι κ) := ⟨⟨fun pins s σ H R I q => by
  obtain ⟨G, sl, E, P, Re, h, k, kx⟩ := q
  rcases h with h | h
  · exact h1.run.run pins s σ H R I ⟨G, sl, E, P, Re, h, k, kx⟩
  · exact h2.run.run pins s σ H R I ⟨G, sl, E, P, Re, h, k, kx⟩⟩⟩
theorem qe_alt (h1 : QE X F W e α) (h2 : QE X F W e β) : QE X F W e (dAlt α β) := ⟨⟨fun pins s σ H Q I q => by
  obtain ⟨G, sl, E, P, Re, h, k, kx⟩ := q
  rcases h with h | h
  · exact h1.run.run pins s σ H Q I ⟨G, sl, E, P, Re, h, k, kx⟩
  · exact h2.run.run pins s σ H Q I ⟨G, sl, E, P, Re, h, k, kx⟩⟩⟩
theorem qe_gStr {x z : Str} {pos : Pos} (hg : Gl X x) (hm : ∃ t, X.mg x = some (.str z t)) (hd : (x == ("__debug__" : Str)) = false := by decide) : QE X F W (.Name x pos) (dC (.str z)) := by
  obtain ⟨t, hm⟩ := hm
  exact qe_glob (v := .str z) hg hm ⟨t, rfl⟩ (fun _ => .str _) hd
theorem qe_gInt {x : Str} {n : Int} {pos : Pos} (hg : Gl X x) (hm : ∃ t, X.mg x = some (.int n t)) (hd : (x == ("__debug__" : Str)) = false := by decide) : QE X F W (.Name x pos) (dC (.int n)) := by
  obtain ⟨t, hm⟩ := hm
  exact qe_glob (v := .int n) hg hm ⟨t, rfl⟩ (fun _ => .int _) hd
theorem room200 {A : Around} {k : Nat} (hr : Room k A) : A.units + 200 < cLine := Nat.lt_of_le_of_lt (by omega) hr.un
end
end Dx
namespace Dx
open PySem L2
/-! ### drawing -/
abbrev hIx (K : Fg) (n : Int) : TE := tOp (rIx K) (tVar 0) (tC (.int n))
abbrev rLenS (K : Fg) : List V → Hp → VK → Prop := fun xs H Q => ∃ p ys, xs = [V.ref p] ∧ (SqL K H p ys ∨ SqT K H p ys) ∧ Q (.int (ys.length : Int)) H
abbrev rInt1 : List V → Hp → VK → Prop := fun xs H Q => (∃ i, xs = [V.int i] ∧ Q (.int i) H) ∨ ∃ k, xs = [V.bl k] ∧ Q (.int (if k = true then 1 else 0)) H
abbrev tMod (a b : TE) : TE := tOp (rI (fun _ j => 0 < j) fun i j => .int (i % j)) a b
abbrev tMix (K : Fg) (E : XK) (a b : TE) : TE := tCallS (SpP K 2 phMix) (fun σ => WE (WOut E) σ) (tCons a (tCons b tNil))
def tDraw (K : Fg) (E : XK) : TS :=
  tSeq (tIfS (tAnd (tTest (tOp rEq (hIx K 2) (tC (.int 0)))) (tTest (tOp (rI0 fun i j => .bl (decide (i < j))) (hIx K 1) (tCB (rLenS K) (tCons (hIx K 0) tNil)))))
    (tSeq (tAsg (tOp (rIx K) (hIx K 0) (hIx K 1)) (gName 2)) (tSeq (tAsg (tOp (rI0 fun i j => .int (i + j)) (hIx K 1) (tC (.int 1))) (gSub (tVar 0) (tC (.int 1)) rSetL))
      (tSeq (tIfS (tTest (tOp (rI0 fun i j => .bl (decide (i < j))) (tVar 2) (tOp (rI CPow fun i j => .int (i ^ j.toNat)) (tC (.int 10)) (tC (.int 18)))))
        (tRet (tMod (tCB rInt1 (tCons (tMix K E (tMod (tCB rInt1 (tCons (tVar 2) tNil)) (tC (.int 2147483647))) (hIx K 1)) tNil)) (tVar 1))) tNext)
      (tAsg (tVar 2) (gSub (tVar 0) (tC (.int 2)) rSetL))))) tNext)
  (tSeq (tIfS (tTest (tOp (rI0 fun i j => .bl (decide (j < i))) (hIx K 2) (tC (.int 0))))
    (tSeq (tAsg (hIx K 2) (gName 3)) (tSeq (tAsg (tOp (rI CDivW fun i j => .int (i / j)) (tVar 3) (tVar 1)) (gSub (tVar 0) (tC (.int 2)) rSetL))
      (tRet (tMod (tCB rInt1 (tCons (tVar 3) tNil)) (tVar 1))))) tNext)
  (tSeq (tAsg (tMod (tCB rInt1 (tCons (tOp (rI0 fun i j => .int (i + j)) (hIx K 3) (tC (.int 1))) tNil)) (tC (.int 2147483629))) (gSub (tVar 0) (tC (.int 3)) rSetL))
  (tRet (tMod (tCB rInt1 (tCons (tMix K E (hIx K 3) (hIx K 1)) tNil)) (tVar 1)))))
section
variable {K : Fg} {E : XK} {q c : Addr} {i r t m : Int} {cells : List Int} {H : Hp} {G : Hp}
abbrev hL (c : Addr) (i r t : Int) : HO := .lst [.ref c, .int i, .int r, .int t]
theorem hIx_at {σ : L2.St} {n : Int} {xs : List V} {v : V} {Q : VK} (e : σ[0]? = some (some (.ref q))) (hq : H q = some (.lst xs)) (hn : atI xs n = some v) (k : Q v H) : hIx K n σ H Q :=
  ⟨_, e, .inl ⟨q, xs, n, v, rfl, rfl, SqL.of hq, hn, k⟩⟩
theorem mix_at {H : Hp} {a b : Int} {Q : VK} {E' : XK} (h1 : 0 ≤ a) (h2 : a < 2147483647) (h3 : 0 ≤ b) (h4 : b ≤ 64) (k : ∀ (H' : Hp) (v : Int), Same H H' → 0 ≤ v → Q (.int v) H') : SpP K 2 phMix [.int a, .int b] H Q E' := by
  refine ⟨fun _ => none, [.int a, .int b], fun r => ∃ v : Int, r = .val (.int v) ∧ 0 ≤ v, fun _ => False, rfl, fun _ _ z => (nomatch (show (none : Option HO) = some _ from z)), .cons (.int _) (.cons (.int _) .nil), ⟨a, b, rfl, h1, h2, h3, h4, fun v hv => ⟨v, rfl, hv⟩⟩, fun r p G' H' v _ R => ?_, fun _ z => z.elim⟩
  obtain ⟨n, rfl, hn⟩ := p
  obtain ⟨v', e, rr⟩ := R.frontVal
  cases e
  cases rr
  exact k H' n (fun b o z => R.fr b o z (fun w => nomatch w)) hn
theorem draw_end {H' : Hp} {v m : Int} {σ : L2.St} {Q : VK} (em : σ[1]? = some (some (.int m))) (hm : 0 < m) (k : ∀ w : Int, 0 ≤ w → w < m → Q (.int w) H') : ∀ te : TE, (∀ Q' : VK, Q' (.int v) H' → te σ H' Q') → tMod te (tVar 1) σ H' Q := fun te h =>
  h _ ⟨_, em, v, m, rfl, rfl, hm, k _ (Int.emod_nonneg _ (by omega)) (Int.emod_lt_of_pos _ hm)⟩
theorem draw_reads {Q : VK} (hq : H q = some (hL c i r t)) (hc : SqL K G c (cells.map V.int)) (gh : Same G H) (gq : G q = none) (pos : ∀ x ∈ cells, 0 ≤ x) (l63 : cells.length ≤ 63) (i0 : 0 ≤ i) (il : i ≤ cells.length) (r0 : 0 ≤ r) (t0 : 0 ≤ t) (t1 : t < 2147483629) (hm : 0 < m) (ml : m.natAbs.log2 < 4000)
    (k : ∀ (H' : Hp) (v i' r' t' : Int), 0 ≤ v → v < m → (∀ b o, b ≠ q → H b = some o → H' b = some o) → H' q = some (hL c i' r' t') → 0 ≤ i' → i' ≤ cells.length → 0 ≤ r' → 0 ≤ t' → t' < 2147483629 → Q (.int v) H') :
    tDraw K E { nx := fun _ H' => Q .non H', rt := Q } [some (.ref q), some (.int m), none, none] H := by
  -- the tail
  have last : ∀ (σ : L2.St) (H : Hp) (i r t : Int), σ[0]? = some (some (.ref q)) → σ[1]? = some (some (.int m)) → H q = some (hL c i r t) → 0 ≤ i → i ≤ cells.length → 0 ≤ r → 0 ≤ t → t < 2147483629 →
      (∀ (H' : Hp) (v i' r' t' : Int), 0 ≤ v → v < m → (∀ b o, b ≠ q → H b = some o → H' b = some o) → H' q = some (hL c i' r' t') → 0 ≤ i' → i' ≤ cells.length → 0 ≤ r' → 0 ≤ t' → t' < 2147483629 → Q (.int v) H') →
      (tSeq (tAsg (tMod (tCB rInt1 (tCons (tOp (rI0 fun i j => .int (i + j)) (hIx K 3) (tC (.int 1))) tNil)) (tC (.int 2147483629))) (gSub (tVar 0) (tC (.int 3)) rSetL))
        (tRet (tMod (tCB rInt1 (tCons (tMix K E (hIx K 3) (hIx K 1)) tNil)) (tVar 1)))) { nx := fun _ H' => Q .non H', rt := Q } σ H := by
    intro σ H i r t e0 e1 hq i0 il r0 t0 t1 k
    refine hIx_at e0 hq rfl ⟨_, _, rfl, rfl, .inl ⟨_, rfl, _, _, rfl, rfl, (show (0 : Int) < 2147483629 by decide), _, e0, q, _, _, 3, rfl, rfl, hq, rfl, ?_⟩⟩
    have hq2 : (upd H q (.lst ([V.ref c, .int i, .int r, .int t].set 3 (.int ((t + 1) % 2147483629))))) q = some (hL c i r ((t + 1) % 2147483629)) := upd_same
    have n0 := Int.emod_nonneg (t + 1) (show (2147483629 : Int) ≠ 0 by decide)
    have n1 := Int.emod_lt_of_pos (t + 1) (show (0 : Int) < 2147483629 by decide)
    refine hIx_at e0 hq2 rfl (hIx_at e0 hq2 rfl (mix_at n0 (by omega) i0 (by omega) fun H3 v s3 v0 => .inl ⟨_, rfl, _, e1, _, _, rfl, rfl, hm, ?_⟩))
    exact k H3 _ i r _ (Int.emod_nonneg _ (by omega)) (Int.emod_lt_of_pos _ hm) (fun b o hb e => s3 b o (by rw [upd_ne hb]; exact e)) (s3 _ _ hq2) i0 il r0 n0 n1
  have mid : ∀ (σ : L2.St) (H : Hp) (i r t : Int) (x3 : Option V), σ = [some (.ref q), some (.int m), x3, none] → H q = some (hL c i r t) → 0 ≤ i → i ≤ cells.length → 0 ≤ r → 0 ≤ t → t < 2147483629 →
      (∀ (H' : Hp) (v i' r' t' : Int), 0 ≤ v → v < m → (∀ b o, b ≠ q → H b = some o → H' b = some o) → H' q = some (hL c i' r' t') → 0 ≤ i' → i' ≤ cells.length → 0 ≤ r' → 0 ≤ t' → t' < 2147483629 → Q (.int v) H') →
      (tSeq (tIfS (tTest (tOp (rI0 fun i j => .bl (decide (j < i))) (hIx K 2) (tC (.int 0))))
        (tSeq (tAsg (hIx K 2) (gName 3)) (tSeq (tAsg (tOp (rI CDivW fun i j => .int (i / j)) (tVar 3) (tVar 1)) (gSub (tVar 0) (tC (.int 2)) rSetL))
          (tRet (tMod (tCB rInt1 (tCons (tVar 3) tNil)) (tVar 1))))) tNext)
        (tSeq (tAsg (tMod (tCB rInt1 (tCons (tOp (rI0 fun i j => .int (i + j)) (hIx K 3) (tC (.int 1))) tNil)) (tC (.int 2147483629))) (gSub (tVar 0) (tC (.int 3)) rSetL))
        (tRet (tMod (tCB rInt1 (tCons (tMix K E (hIx K 3) (hIx K 1)) tNil)) (tVar 1))))) { nx := fun _ H' => Q .non H', rt := Q } σ H := by
    rintro σ H i r t x3 rfl hq i0 il r0 t0 t1 k
    refine hIx_at rfl hq rfl ⟨_, _, rfl, rfl, _, rfl, ?_⟩
    refine ite2 (fun _ => ?_) (fun _ => last _ H i r t rfl rfl hq i0 il r0 t0 t1 k)
    refine hIx_at rfl hq rfl ⟨_, rfl, _, rfl, _, _, rfl, rfl, ⟨hm, by omega⟩, _, rfl, q, _, _, 2, rfl, rfl, hq, rfl, _, rfl, .inl ⟨_, rfl, _, rfl, _, _, rfl, rfl, hm, ?_⟩⟩
    exact k _ _ i _ t (Int.emod_nonneg _ (by omega)) (Int.emod_lt_of_pos _ hm) (fun b o hb e => by rw [upd_ne hb]; exact e) upd_same i0 il (Int.ediv_nonneg r0 (by omega)) t0 t1
  have hcH : SqL K H c (cells.map V.int) := sqL_mono gh hc
  refine hIx_at rfl hq rfl ⟨by rfl, _, rfl, ?_⟩
  refine ite2 (fun _ => ?_) (fun _ => mid _ H i r t _ rfl hq i0 il r0 t0 t1 k)
  refine hIx_at rfl hq rfl (hIx_at rfl hq rfl ⟨c, _, rfl, .inl hcH, _, _, rfl, rfl, _, rfl, ?_⟩)
  refine ite2 (fun hlt => ?_) (fun _ => mid _ H i r t _ rfl hq i0 il r0 t0 t1 k)
  have hlt := of_decide_eq_true hlt
  rw [List.length_map] at hlt
  obtain ⟨n, rfl⟩ := Int.eq_ofNat_of_zero_le i0
  have hn : n < cells.length := by omega
  have hx : atI (cells.map V.int) (n : Int) = some (.int cells[n]) := by
    unfold atI ixN
    rw [if_pos (Int.natCast_nonneg n), List.length_map, if_pos (by omega)]
    simp [hn]
  refine hIx_at rfl hq rfl (hIx_at rfl hq rfl (.inl ⟨c, _, _, _, rfl, rfl, hcH, hx, ?_⟩))
  refine hIx_at rfl hq rfl ⟨_, _, rfl, rfl, _, rfl, q, _, _, 1, rfl, rfl, hq, rfl, ?_⟩
  have cz : 0 ≤ cells[n] := pos _ (List.getElem_mem hn)
  have hq2 : (upd H q (.lst ([V.ref c, .int (n : Int), .int r, .int t].set 1 (.int ((n : Int) + 1))))) q = some (hL c ((n : Int) + 1) r t) := upd_same
  have far : ∀ b o, b ≠ q → H b = some o → (upd H q (.lst ([V.ref c, .int (n : Int), .int r, .int t].set 1 (.int ((n : Int) + 1))))) b = some o := fun b o hb e => by rw [upd_ne hb]; exact e
  refine ⟨_, rfl, _, _, rfl, rfl, ⟨by decide, by decide, by decide⟩, _, _, rfl, rfl, _, rfl, ?_⟩
  refine ite2 (fun hsm => ?_) (fun _ => ?_)
  · refine ⟨_, rfl, .inl ⟨_, rfl, _, _, rfl, rfl, (show (0 : Int) < 2147483647 by decide), hIx_at rfl hq2 rfl (mix_at (Int.emod_nonneg _ (by decide)) (Int.emod_lt_of_pos _ (by decide)) (by omega) (by omega) fun H3 v s3 v0 => .inl ⟨_, rfl, _, rfl, _, _, rfl, rfl, hm, ?_⟩)⟩⟩
    exact k H3 _ _ r t (Int.emod_nonneg _ (by omega)) (Int.emod_lt_of_pos _ hm) (fun b o hb e => s3 b o (far b o hb e)) (s3 _ _ hq2) (by omega) (by omega) r0 t0 t1
  · refine ⟨_, rfl, _, rfl, q, _, _, 2, rfl, rfl, hq2, rfl, ?_⟩
    refine mid _ _ ((n : Int) + 1) cells[n] t _ rfl upd_same (by omega) (by omega) cz t0 t1 fun H' v i' r' t' v0 v1 s' hq' => k H' v i' r' t' v0 v1 (fun b o hb e => s' b o hb (by rw [upd_ne hb]; exact far b o hb e)) hq'
theorem draw_ok {P : Program} {w : World} {K : Fg} {mg : Str → Option Value} {base : Heap} {st : Stmt} {f : Addr} {fd : FuncData} {k : Nat} {x : Str} {N : List Str} (hN : N.length = 4) (Fu : Fun K x x st f fd) (bi : Binds K fd ["_law_hand_here", "_law_many"] []) (hmg : mg x = some (.ref f)) (S : FnScope N ["_law_hand_here", "_law_many"] (defScope st))
    (body : ∀ (cdv : Value) (A : Around) (outer : List Env) (s : Shared) (H : Hp) (E : XK), Room k (A.deeper (PyProof.Rows.envOfC x (defScope st) s.heap.objs.size f cdv)) → PSs (cxD P w K mg base N x st f cdv A outer s H E) (defBody st) (tDraw K E)) :
    OkH P w K mg base (k + 1) x 1 phDraw := by
  refine ⟨f, fd, _, Fu.okX S (fun vs H Q E h => h.len) (fun cdv A outer s H vs Q E hr h => ?_), hmg, Fu.kp, bi⟩
  obtain ⟨q, vs', G, ds, P', PE, e, hl, s1, hq, gq, rr, hφ, to⟩ := h
  subst e
  obtain ⟨m, rfl, hm, ml, kk⟩ := hφ
  refine ⟨_, body cdv A outer s H E hr, ?_⟩
  cases rr with
  | cons r1 rr =>
    cases rr
    cases r1
    obtain ⟨c, cells, i, r, t, h1, h2, h3, h4, h5, h6, h7, h8, h9⟩ := hq
    have eN : L2.start N [.ref q, .int m] = [some (.ref q), some (.int m), none, none] := by
      unfold L2.start
      rw [hN]
      rfl
    rw [eN]
    refine draw_reads h1 h2 s1 gq h3 h4 h5 h6 h7 h8 h9 hm ml fun H' v i' r' t' v0 v1 s' hq' a1 a2 a3 a4 a5 => ?_
    have s2 : Same G H' := fun b o z => s' b o (fun e => by rw [e, gq] at z; cases z) (s1 b o z)
    refine to.1 _ (kk v v0 v1) G H' _ (Same.refl _) ⟨s2, Same.refl _, fun b o z hb => s' b o (fun e => hb (by rw [e])) z, fun _ _ z => .inl z, fun p hp => ?_, [], .val (.int v) .nil⟩
    cases hp
    exact ⟨⟨c, cells, i', r', t', hq', h2, h3, h4, a1, a2, a3, a4, a5⟩, gq⟩
end
end Dx
namespace Dx
open PySem L2
/-! ### steps over readings -/
theorem seq_step {δ ε : DS} {De : DEnds} {sl : Sl} (h : ∀ k : Sl → Prop, (∀ s, ε De s → k s) → δ { De with nx := k } sl) : dSeq δ ε De sl := h (ε De) fun _ h => h
theorem fo_of {g : DG} {δ : DS} {De : DEnds} (I : List D → Sl → Prop) (hn : ∀ s, I [] s → De.nx s)
    (hc : ∀ d r s, I (d :: r) s → ∀ k : Sl → Prop, (∀ s', I r s' → k s') → g d s fun s1 => δ { De with nx := k, ct := k, bk := De.nx } s1) : ∀ {ds : List D} {sl : Sl}, I ds sl → dFo g δ De ds sl
  | [], sl, h => hn sl h
  | d :: r, sl, h => hc d r sl h _ fun s' h' => fo_of I hn hc h'
theorem wh_of {τ : DT} {δ : DS} {De : DEnds} (I : Nat → Sl → Prop)
    (hc : ∀ n s, I n s → ∀ k : Sl → Prop, (∀ m s', m < n → I m s' → k s') → τ s De.ex fun b s1 => if b = true then δ { De with nx := k, ct := k, bk := De.nx } s1 else De.nx s1) {n : Nat} {sl : Sl} (h : I n sl) : dWhile τ δ De sl := by
  have go : ∀ (f n : Nat) (s : Sl), n < f → I n s → dWh τ δ De f s := by
    intro f
    induction f with
    | zero => exact fun n s h => absurd h (Nat.not_lt_zero _)
    | succ f ih => exact fun n s h hI => hc n s hI _ fun m s' hm hI' => ih m s' (by omega) hI'
  exact ⟨n + 1, go _ n sl (Nat.lt_succ_self _) h⟩
/-- a comprehension, one by one -/
theorem tu_of {g : DG} {τ : DT} {α : DE} {base : Sl} {P : List D → Prop} (I : List D → List D → Prop) (hn : ∀ acc, I [] acc → P acc)
    (hc : ∀ d r acc, I (d :: r) acc → ∀ Q : List D → Prop, (∀ acc', I r acc' → Q acc') → g d base fun s1 => τ s1 EF fun b s2 => if b = true then α s2 EF fun e _ => acc.length < sizeLine ∧ Q (acc ++ [e]) else Q acc) :
    ∀ {ds acc : List D}, I ds acc → dTurns g τ α base P ds acc
  | [], acc, h => hn acc h
  | d :: r, acc, h => hc d r acc h _ fun acc' h' => tu_of I hn hc h'
theorem hCons_cons {g : DG} {h : DGs} {d : D} {r : List D} {sl : Sl} {P : Sl → Prop} : hCons g h (d :: r) sl P ↔ g d sl fun sl1 => h r sl1 P := by
  unfold hCons
  constructor
  · rintro ⟨d', r', e, q⟩
    cases e
    exact q
  · exact fun q => ⟨d, r, rfl, q⟩
theorem hNil_nil {sl : Sl} {P : Sl → Prop} : hNil [] sl P ↔ P sl := by
  unfold hNil
  simp
theorem hTup_tup {n : Nat} {h : DGs} {ds : List D} {sl : Sl} {P : Sl → Prop} : hTup n h (.tup ds) sl P ↔ ds.length = n ∧ h ds sl P := by
  unfold hTup
  constructor
  · rintro ⟨ds', e, q⟩
    cases e
    exact q
  · exact fun q => ⟨ds, rfl, q⟩
/-! ### texts, places -/
def wd (l : List Nat) : Str := ⟨l.toArray⟩
theorem wd_cps (l : List Nat) : (wd l).cps.toList = l := rfl
theorem wd_len (l : List Nat) : (wd l).length = l.length := by
  show l.toArray.size = l.length
  simp
theorem wd_of (z : Str) : wd z.cps.toList = z := by
  cases z
  rfl
theorem wd_app (a b : List Nat) : wd a ++ wd b = wd (a ++ b) := by
  show (⟨a.toArray ++ b.toArray⟩ : Str) = ⟨(a ++ b).toArray⟩
  simp
theorem wd_inj {a b : List Nat} (h : wd a = wd b) : a = b := by
  have h2 : (wd a).cps.toList = (wd b).cps.toList := by rw [h]
  exact h2
theorem wd_nil : (Str.ofString "" : Str) = wd [] := by decide +kernel
theorem wd_one (c : Nat) : (⟨#[c]⟩ : Str) = wd [c] := rfl
abbrev abc : Str := Str.ofString "abcdefghijklmnopqrstuvwxyz"
theorem abc_wd : abc = wd ((List.range 26).map fun i => 97 + i) := by decide +kernel
theorem abc_len : abc.length = 26 := by decide +kernel
theorem atI_nat {α : Type} {xs : List α} {n : Nat} (h : n < xs.length) : L2.atI xs (n : Int) = some xs[n] := by
  unfold L2.atI ixN
  rw [if_pos (Int.natCast_nonneg n), if_pos (by omega)]
  simp [h]
theorem atI_mem {α : Type} {xs : List α} {r : Int} (h0 : 0 ≤ r) (h1 : r < xs.length) : ∃ f, L2.atI xs r = some f ∧ f ∈ xs := by
  obtain ⟨n, rfl⟩ := Int.eq_ofNat_of_zero_le h0
  have hn : n < xs.length := by omega
  exact ⟨_, atI_nat hn, List.getElem_mem hn⟩
theorem abc_at {r : Int} (h0 : 0 ≤ r) (h1 : r < 26) : L2.atI abc.cps.toList r = some (97 + r.toNat) := by
  obtain ⟨n, rfl⟩ := Int.eq_ofNat_of_zero_le h0
  have e : abc.cps.toList = (List.range 26).map fun i => 97 + i := by rw [abc_wd]; rfl
  have hn : n < abc.cps.toList.length := by rw [e]; simp; omega
  rw [atI_nat hn]
  simp [e]
theorem abc_mem {c : Nat} : c ∈ abc.cps.toList ↔ 97 ≤ c ∧ c ≤ 122 := by
  have e : abc.cps.toList = (List.range 26).map fun i => 97 + i := by rw [abc_wd]; rfl
  rw [e]
  simp only [List.mem_map, List.mem_range]
  constructor
  · rintro ⟨i, h, rfl⟩
    omega
  · intro h
    exact ⟨c - 97, by omega, by omega⟩
theorem log_small {n : Nat} (h : n < 4000) : n.log2 < 4000 := Nat.lt_of_le_of_lt (Nat.log2_le_self n) h
theorem plain_int {i : Int} : (D.int i).plain := ⟨rfl, by simp [D.dep]⟩
theorem plain_bl {i : Bool} : (D.bl i).plain := ⟨rfl, by simp [D.dep]⟩
theorem plain_non : (D.non).plain := ⟨rfl, by simp [D.dep]⟩
def validS (z : Str) : Bool := z.cps.toList.all fun c => decide (c < 1114112)
theorem plain_str {z : Str} (h : validS z = true) : (D.str z).plain := by
  refine ⟨?_, by simp [D.dep]⟩
  unfold D.py
  have e : z.cps.all (· < 0x110000) = true := by
    unfold validS at h
    simpa using h
  rw [if_pos e]
  rfl
theorem pys_strs : ∀ {ws : List Str}, (∀ z ∈ ws, validS z = true) → (D.pys (ws.map .str)).isSome = true ∧ D.deps (ws.map .str) ≤ 1
  | [], _ => ⟨rfl, by simp [D.deps]⟩
  | z :: r, h => by
    have h1 := (plain_str (h z List.mem_cons_self)).1
    obtain ⟨h2, h3⟩ := pys_strs (ws := r) fun w hw => h w (List.mem_cons_of_mem _ hw)
    obtain ⟨a, ha⟩ := Option.isSome_iff_exists.mp h1
    obtain ⟨b, hb⟩ := Option.isSome_iff_exists.mp h2
    refine ⟨?_, ?_⟩
    · rw [List.map_cons]
      unfold D.pys
      rw [ha, hb]
      rfl
    · rw [List.map_cons]
      simp [D.deps, D.dep]
      omega
theorem plain_lst {ds : List D} (h : (D.pys ds).isSome = true ∧ D.deps ds ≤ 60) : (D.lst ds).plain := by
  obtain ⟨b, hb⟩ := Option.isSome_iff_exists.mp h.1
  refine ⟨?_, ?_⟩
  · unfold D.py
    rw [hb]
    rfl
  · have := h.2
    unfold D.dep
    omega
theorem plain_tup {ds : List D} (h : (D.pys ds).isSome = true ∧ D.deps ds ≤ 60) : (D.tup ds).plain := by
  obtain ⟨b, hb⟩ := Option.isSome_iff_exists.mp h.1
  refine ⟨?_, ?_⟩
  · unfold D.py
    rw [hb]
    rfl
  · have := h.2
    unfold D.dep
    omega
theorem plain_strsL {ws : List Str} (h : ∀ z ∈ ws, validS z = true) : (D.lst (ws.map .str)).plain := plain_lst ⟨(pys_strs h).1, Nat.le_trans (pys_strs h).2 (by decide)⟩
theorem plain_strsT {ws : List Str} (h : ∀ z ∈ ws, validS z = true) : (D.tup (ws.map .str)).plain := plain_tup ⟨(pys_strs h).1, Nat.le_trans (pys_strs h).2 (by decide)⟩
theorem eqvs_strs : ∀ ws : List Str, D.eqvs (ws.map .str) (ws.map .str) = true
  | [] => rfl
  | z :: r => by
    rw [List.map_cons]
    unfold D.eqvs D.eqv
    rw [eqvs_strs r]
    simp
theorem log_lt {n : Nat} (k : Nat) (hk : 0 < k) (h : n < 2 ^ k) : n.log2 < k := by
  by_cases hn : n = 0
  · subst hn
    simpa using hk
  · exact (Nat.log2_lt hn).mpr h
theorem log_mid {n : Nat} (h : n < 1267650600228229401496703205376) : n.log2 < 4000 := Nat.lt_trans (log_lt 100 (by decide) h) (by decide)
theorem dq_int {i j : Int} : D.eqv (.int i) (.int j) = (i == j) := by unfold D.eqv; rfl
theorem dq_bl {i j : Bool} : D.eqv (.bl i) (.bl j) = (i == j) := by unfold D.eqv; rfl
theorem dq_bi {i : Bool} {j : Int} : D.eqv (.bl i) (.int j) = ((if i then 1 else 0) == j) := by unfold D.eqv; rfl
theorem dq_ib {i : Int} {j : Bool} : D.eqv (.int i) (.bl j) = (i == (if j then 1 else 0)) := by unfold D.eqv; rfl
theorem dq_str {i j : Str} : D.eqv (.str i) (.str j) = (i == j) := by unfold D.eqv; rfl
theorem dq_non : D.eqv .non .non = true := by unfold D.eqv; rfl
theorem dq_lst {i j : List D} : D.eqv (.lst i) (.lst j) = D.eqvs i j := by unfold D.eqv; rfl
theorem dq_tup {i j : List D} : D.eqv (.tup i) (.tup j) = D.eqvs i j := by unfold D.eqv; rfl
theorem dq_nil : D.eqvs [] [] = true := by unfold D.eqvs; rfl
theorem dq_cons {a b : D} {i j : List D} : D.eqvs (a :: i) (b :: j) = (D.eqv a b && D.eqvs i j) := by
  conv => lhs; unfold D.eqvs
theorem ite_any {c A B : Prop} {inst : Decidable c} (h1 : c → A) (h2 : ¬ c → B) : @ite Prop c inst A B := by
  cases inst with
  | isTrue h => exact h1 h
  | isFalse h => exact h2 h
theorem size_ge : 16777216 ≤ sizeLine := by rw [PySem.sizeLine_eq]; exact Nat.le_refl _
theorem divW {i j : Int} (h : 0 < j) (h2 : j < 4000) : CDivW i j := ⟨h, Nat.lt_trans (log_small (n := j.natAbs) (by omega)) (by decide)⟩
theorem mul64l {i j : Int} (h1 : 0 ≤ i) (h2 : i < 18446744073709551616) : CMul i j := .inl ⟨by omega, by omega⟩
theorem mul64r {i j : Int} (h1 : 0 ≤ j) (h2 : j < 18446744073709551616) : CMul i j := .inr ⟨by omega, by omega⟩
end Dx
namespace Ka
open PySem L2 Dx
/-! what each def promises -/
def labR (n : Nat) : List Nat := if h : n = 0 then [] else labR ((n - 1) / 26) ++ [97 + (n - 1) % 26]
termination_by n
decreasing_by omega
def lab (i : Nat) : Str := wd (labR (i + 1))
def okStr (z : Str) : Bool := decide (z.cps.toList.length ≤ 1000) && z.cps.toList.all fun c => decide (c < 1114112)
def isLab : D → Bool
  | .str z => decide (1 ≤ z.cps.toList.length) && decide (z.cps.toList.length ≤ 6) && z.cps.toList.all fun c => decide (97 ≤ c) && decide (c ≤ 122)
  | _ => false
def isWh : D → Int → Int → Bool
  | .int i, lo, hi => decide (lo ≤ i) && decide (i ≤ hi)
  | _, _, _ => false
def isSq : D → Bool
  | .lst _ => true
  | .tup _ => true
  | _ => false
def fresh (ws : List Str) (m : Nat) : List Str := (((List.range (m + ws.length)).map lab).filter fun z => !ws.contains z).take m
abbrev ph__law_hand : Phi := phHand
abbrev ph__law_mix : Phi := phMix
abbrev ph__law_draw : Phi := phDraw
def ph__law_one : Phi := fun ds P _ => ∃ d xs, ds = [d] ∧ asSeq d = some xs ∧ 1 ≤ xs.length ∧ xs.length ≤ 3000 ∧ ∀ x ∈ xs, P (.val x)
def ph__law_word : Phi := fun ds P _ => ∃ m : Nat, ds = [.int m] ∧ 1 ≤ m ∧ m ≤ 26 ∧ ∀ l : List Nat, 1 ≤ l.length → l.length ≤ m → (∀ c ∈ l, 97 ≤ c ∧ c ≤ 122) → P (.val (.str (wd l)))
def ph__law_index : Phi := fun ds P _ => ds = [] ∧ ∀ i : Nat, i < 321272406 → P (.val (.int i))
def ph_label_at : Phi := fun ds P _ => ∃ i : Nat, ds = [.int i] ∧ i < 2 ^ 50 ∧ P (.val (.str (lab i)))
def ph__law_label_at : Phi := ph_label_at
def ph__law_taken : Phi := fun ds P _ => ds = [] ∧ ∀ ws : List Str, ws.length ≤ 12 → (∀ z ∈ ws, isLab (.str z) = true) → P (.own (.lst (ws.map .str)))
def ph_fresh_labels : Phi := fun ds P _ => ∃ (d : D) (ws : List Str) (m : Nat), ds = [d, .int m] ∧ asSeq d = some (ws.map .str) ∧ ws.length ≤ 12 ∧ m ≤ 1000 ∧ (∀ z ∈ ws, isLab (.str z) = true) ∧ P (.val (.tup ((fresh ws m).map .str)))
def ph__law_odd : Phi := fun ds P _ => ds = [] ∧ ∀ d : D, d.isObj = false → (∀ z, d = .str z → okStr z = true) → P (.val d)
def ph_is_label : Phi := fun ds P _ => ∃ d, ds = [d] ∧ d.isObj = false ∧ (∀ z, d = .str z → okStr z = true) ∧ P (.val (.bl (isLab d)))
def ph__law_label : Phi := ph_is_label
def ph_is_whole : Phi := fun ds P _ => ∃ d lo hi, ds = [d, .int lo, .int hi] ∧ d.isObj = false ∧ P (.val (.bl (isWh d lo hi)))
def ph_is_sequence : Phi := fun ds P _ => ∃ d, ds = [d] ∧ d.isObj = false ∧ P (.val (.bl (isSq d)))
end Ka
namespace Ka
open PySem L2 Dx
def nm__law_hand : List Str := ["_law_script", "_law_total", "_law_k", "_law_cell"]
def dl__law_hand : DS := (dSeq (dAsg (dC (.int 0)) (hName 1))
  (dSeq (dFor (dEnum (dCons (dVar 0) dNil)) (hTup 2 (hCons (hName 2) (hCons (hName 3) hNil))) (dAsg (dOp oMod (dCl oInt (dCons (dOp oAdd (dOp oMul (dVar 1) (dC (.int 31))) (dOp oMul (dCl oInt (dCons (dVar 3) dNil)) (dOp oAdd (dVar 2) (dC (.int 7))))) dNil)) (dC (.int 2147483629))) (hName 1)))
  (dRetO (dLst (dCons (dComp (dItems asLst (dVar 0)) (hName 3) dYes (dCl oAbs (dCons (dCl oInt (dCons (dVar 3) dNil)) dNil)) [3]) (dCons (dC (.int 0)) (dCons (dC (.int 0)) (dCons (dVar 1) dNil))))))))
def nm__law_mix : List Str := ["_law_number", "_law_turn", "_law_once", "_law_twice"]
def dl__law_mix : DS := (dSeq (dAsg (dOp oMod (dCl oInt (dCons (dOp oAdd (dOp oAdd (dOp oMul (dVar 0) (dC (.int 48271))) (dOp oMul (dVar 1) (dC (.int 16807)))) (dC (.int 11))) dNil)) (dC (.int 2147483647))) (hName 2))
  (dSeq (dAsg (dOp oMod (dCl oInt (dCons (dOp oAdd (dOp oAdd (dOp oMul (dVar 2) (dVar 2)) (dOp oMul (dOp oFdiv (dVar 2) (dC (.int 127))) (dC (.int 40692)))) (dOp oMul (dVar 1) (dC (.int 69621)))) dNil)) (dC (.int 2147483399))) (hName 3))
  (dRet (dOp oFdiv (dOp oMod (dCl oInt (dCons (dOp oAdd (dOp oFdiv (dOp oMul (dVar 3) (dVar 3)) (dC (.int 1009))) (dVar 2)) dNil)) (dC (.int 2147483563))) (dC (.int 16))))))
def nm__law_draw : List Str := ["_law_hand_here", "_law_many", "_law_cell", "_law_rest"]
def nm__law_index : List Str := ["_law_hand_here", "_law_many", "_law_size", "_law_k"]
def dl__law_index : DS := (dSeq (dAsg (dC (.int 0)) (hName 1))
  (dSeq (dAsg (dC (.int 1)) (hName 2))
  (dSeq (dFor (dRange1 (dCons (dOp oAdd (dC (.int 1)) (dCallH 0 1 ph__law_draw (dCons (dC (.int 6)) dNil))) dNil)) (hName 3) (dSeq (dAsg (dOp oMul (dVar 2) (dC (.int 26))) (hName 2))
  (dAsg (dOp oAdd (dVar 1) (dVar 2)) (hName 1))))
  (dSeq (dCond (dTest (dOp oEq (dCallH 0 1 ph__law_draw (dCons (dC (.int 4)) dNil)) (dC (.int 0)))) (dRet (dOp oSub (dVar 1) (dC (.int 1)))) dNext)
  (dRet (dCallH 0 1 ph__law_draw (dCons (dVar 1) dNil)))))))
def nm_label_at : List Str := ["index", "word", "rest", "place"]
def dl_label_at : DS := (dSeq (dAsg (dC (.str "")) (hName 1))
  (dSeq (dAsg (dOp oAdd (dVar 0) (dC (.int 1))) (hName 2))
  (dSeq (dWhile (dTest (dOp oGt (dVar 2) (dC (.int 0)))) (dSeq (dAsg (dCl oDivmod (dCons (dOp oSub (dVar 2) (dC (.int 1))) (dCons (dC (.int 26)) dNil))) (hTup 2 (hCons (hName 2) (hCons (hName 3) hNil))))
  (dAsg (dOp oAdd (dOp oIx (dC (.str "abcdefghijklmnopqrstuvwxyz")) (dVar 3)) (dVar 1)) (hName 1))))
  (dRet (dVar 1)))))
def nm__law_word : List Str := ["_law_hand_here", "_law_most", "_law_word_here", "_law_k"]
def dl__law_word : DS := (dSeq (dAsg (dC (.str "")) (hName 2))
  (dSeq (dFor (dRange1 (dCons (dOp oAdd (dC (.int 1)) (dCallH 0 1 ph__law_draw (dCons (dVar 1) dNil))) dNil)) (hName 3) (dAsg (dOp oAdd (dVar 2) (dOp oIx (dC (.str "abcdefghijklmnopqrstuvwxyz")) (dCallH 0 1 ph__law_draw (dCons (dC (.int 26)) dNil)))) (hName 2)))
  (dRet (dVar 2))))
def nm__law_one : List Str := ["_law_hand_here", "_law_rows"]
def dl__law_one : DS := (dRet (dOp oIx (dVar 1) (dCallH 0 1 ph__law_draw (dCons (dCl oLen (dCons (dVar 1) dNil)) dNil))))
def nm__law_label_at : List Str := ["_law_index_here", "_law_size", "_law_many", "_law_word_here", "_law_k"]
def dl__law_label_at : DS := (dSeq (dAsg (dC (.int 26)) (hName 1))
  (dSeq (dAsg (dC (.int 1)) (hName 2))
  (dSeq (dWhile (dTest (dOp oGe (dVar 0) (dVar 1))) (dSeq (dAsg (dOp oSub (dVar 0) (dVar 1)) (hName 0))
  (dSeq (dAsg (dOp oMul (dVar 1) (dC (.int 26))) (hName 1))
  (dAsg (dOp oAdd (dVar 2) (dC (.int 1))) (hName 2)))))
  (dSeq (dAsg (dC (.str "")) (hName 3))
  (dSeq (dFor (dRange1 (dCons (dVar 2) dNil)) (hName 4) (dSeq (dAsg (dOp oAdd (dOp oIx (dC (.str "abcdefghijklmnopqrstuvwxyz")) (dOp oMod (dCl oInt (dCons (dVar 0) dNil)) (dC (.int 26)))) (dVar 3)) (hName 3))
  (dAsg (dOp oFdiv (dVar 0) (dC (.int 26))) (hName 0))))
  (dRet (dVar 3)))))))
def nm__law_taken : List Str := ["_law_hand_here", "_law_taken_here", "_law_k", "_law_way"]
def dl__law_taken : DS := (dSeq (dOwn 1 (dLst dNil))
  (dSeq (dFor (dRange1 (dCons (dCallH 0 1 ph__law_draw (dCons (dC (.int 13)) dNil)) dNil)) (hName 2) (dSeq (dAsg (dCallH 0 1 ph__law_draw (dCons (dC (.int 4)) dNil)) (hName 3))
  (dCond (dTest (dOp oEq (dVar 3) (dC (.int 0)))) (dAppend 1 (dCallH 0 1 ph__law_word (dCons (dC (.int 6)) dNil))) (dCond (dAnd (dTest (dOp oEq (dVar 3) (dC (.int 1)))) (dTest (dOpB oNe (.nm 1) (.ex (dLst dNil))))) (dAppend 1 (dCallH 0 1 ph__law_one (dCons (dListB 1) dNil))) (dAppend 1 (dCall 1 ph__law_label_at (dCons (dCallH 0 1 ph__law_draw (dCons (dC (.int 30)) dNil)) dNil)))))))
  (dRetOwn 1)))
def nm_fresh_labels : List Str := ["taken", "many", "barred", "name", "found", "index", "word"]
def dl_fresh_labels : DS := (dSeq (dOwn 2 (dC (.dic [] [])))
  (dSeq (dFor (dAltI (dItems asLst (dVar 0)) (dItems asTup (dVar 0))) (hName 3) (dPutK 2 (dC (.bl true)) (dVar 3)))
  (dSeq (dOwn 4 (dLst dNil))
  (dSeq (dAsg (dC (.int 0)) (hName 5))
  (dSeq (dWhile (dTest (dOp oLt (dClB oLen [.nm 4]) (dVar 1))) (dSeq (dAsg (dCall 1 ph_label_at (dCons (dVar 5) dNil)) (hName 6))
  (dSeq (dCond (dTest (dOpB (oIn true) (.ex (dVar 6)) (.nm 2))) (dAppend 4 (dVar 6)) dNext)
  (dAsg (dOp oAdd (dVar 5) (dC (.int 1))) (hName 5)))))
  (dRet (dCl oTuple (dCons (dVar 4) dNil))))))))
def nm__law_odd : List Str := ["_law_hand_here", "_law_word_here"]
def dl__law_odd : DS := (dSeq (dAsg (dCallH 0 1 ph__law_word (dCons (dC (.int 5)) dNil)) (hName 1))
  (dRet (dCallH 0 1 ph__law_one (dCons (dLst (dCons (dC .non) (dCons (dC (.int 3)) (dCons (dC (.bl true)) (dCons (dC (.str "")) (dCons (dUn oUpper (dVar 1)) (dCons (dOp oAdd (dVar 1) (dC (.str "-"))) (dCons (dOp oAdd (dVar 1) (dC (.str "abcdef"))) (dCons (dTup (dCons (dVar 1) dNil)) (dCons (dLst (dCons (dVar 1) dNil)) (dCons (dUn oNeg (dC (.int 1))) (dCons (dOp oAdd (dVar 1) (dC (.str " "))) (dCons (dVar 1) (dCons (dDisp1 (fun sl P => ∃ d, sl[1]? = some (.val d) ∧ P d) (fun sl P => ∃ d, sl[1]? = some (.val d) ∧ P d)) dNil)))))))))))))) dNil))))
def nm_is_label : List Str := ["thing", "letter"]
def dl_is_label : DS := (dSeq (dCond (dOr (dNot (dTest (dUn (oIsi "str") (dVar 0)))) (dNot (dTest (dChain oLe oLe (dC (.int 1)) (dCl oLen (dCons (dVar 0) dNil)) (dC (.int 6)))))) (dRet (dC (.bl false))) dNext)
  (dRet (dOp oEq (dComp (dItems asStr (dVar 0)) (hName 1) (dTest (dOp (oIn true) (dVar 1) (dC (.str "abcdefghijklmnopqrstuvwxyz")))) (dVar 1) [1]) (dLst dNil))))
def nm_is_whole : List Str := ["thing", "low", "high"]
def dl_is_whole : DS := (dRet (dAndV (dUn (oIsi "int") (dVar 0)) (dAndV (dNotV (dUn (oIsi "bool") (dVar 0))) (dChain oLe oLe (dVar 1) (dVar 0) (dVar 2)))))
def nm_is_sequence : List Str := ["thing"]
def dl_is_sequence : DS := (dRet (dUn (oIsi2 "list" "tuple") (dVar 0)))
def nm__law_label : List Str := ["_law_thing", "_law_letter"]
def dl__law_label : DS := (dSeq (dCond (dOr (dNot (dTest (dUn (oIsi "str") (dVar 0)))) (dNot (dTest (dChain oLe oLe (dC (.int 1)) (dCl oLen (dCons (dVar 0) dNil)) (dC (.int 6)))))) (dRet (dC (.bl false))) dNext)
  (dRet (dOp oEq (dComp (dItems asStr (dVar 0)) (hName 1) (dTest (dOp (oIn true) (dVar 1) (dC (.str "abcdefghijklmnopqrstuvwxyz")))) (dVar 1) [1]) (dLst dNil))))
def nm_law : List Str := ["_law_script", "_law_hand_here", "_law_index_here", "_law_word_here", "_law_taken_here", "_law_many", "_law_due", "_law_at", "_law_kept", "_law_told", "_law_k", "_law_odd_here", "_law_low", "_law_high", "_law_inside", "_law_thing"]
def dl_law : DS := (dSeq (dAsg (dCallH 1 0 ph__law_index dNil) (hName 2))
  (dSeq (dAsg (dCall 1 ph_label_at (dCons (dVar 2) dNil)) (hName 3))
  (dSeq (dCond (dOr (dNot (dTest (dUn (oIsi "str") (dVar 3)))) (dOr (dTest (dOp oNe (dVar 3) (dCall 1 ph__law_label_at (dCons (dVar 2) dNil)))) (dTest (dOp (oIs true) (dCall 1 ph_is_label (dCons (dVar 3) dNil)) (dC (.bl true)))))) (dRet (dC (.bl false))) dNext)
  (dSeq (dCond (dAnd (dTest (dOp oLt (dVar 2) (dC (.int 321272405)))) (dTest (dOp oNe (dCall 1 ph_label_at (dCons (dOp oAdd (dVar 2) (dC (.int 1))) dNil)) (dCall 1 ph__law_label_at (dCons (dOp oAdd (dVar 2) (dC (.int 1))) dNil))))) (dRet (dC (.bl false))) dNext)
  (dSeq (dCond (dAnd (dTest (dOp oGt (dVar 2) (dC (.int 0)))) (dTest (dOp oNe (dCall 1 ph_label_at (dCons (dOp oSub (dVar 2) (dC (.int 1))) dNil)) (dCall 1 ph__law_label_at (dCons (dOp oSub (dVar 2) (dC (.int 1))) dNil))))) (dRet (dC (.bl false))) dNext)
  (dSeq (dAsg (dCallH 1 0 ph__law_taken dNil) (hName 4))
  (dSeq (dAsg (dIf (dTest (dOp oEq (dCallH 1 1 ph__law_draw (dCons (dC (.int 32)) dNil)) (dC (.int 0)))) (dC (.int 1000)) (dCallH 1 1 ph__law_draw (dCons (dC (.int 41)) dNil))) (hName 5))
  (dSeq (dOwn 6 (dLst dNil))
  (dSeq (dFor (dRange1 (dCons (dOp oAdd (dVar 5) (dCl oLen (dCons (dVar 4) dNil))) dNil)) (hName 7) (dCond (dAnd (dTest (dOp oLt (dClB oLen [.nm 6]) (dVar 5))) (dTest (dOp (oIn true) (dCall 1 ph__law_label_at (dCons (dVar 7) dNil)) (dVar 4)))) (dAppend 6 (dCall 1 ph__law_label_at (dCons (dVar 7) dNil))) dNext))
  (dSeq (dAsg (dCl oList (dCons (dVar 4) dNil)) (hName 8))
  (dSeq (dAsg (dCall 2 ph_fresh_labels (dCons (dIf (dTest (dOp oEq (dCallH 1 1 ph__law_draw (dCons (dC (.int 2)) dNil)) (dC (.int 0)))) (dCl oTuple (dCons (dVar 4) dNil)) (dVar 4)) (dCons (dVar 5) dNil))) (hName 9))
  (dSeq (dCond (dOr (dNot (dTest (dUn (oIsi "tuple") (dVar 9)))) (dOr (dTest (dOp oNe (dVar 9) (dCl oTuple (dCons (dVar 6) dNil)))) (dTest (dOp oNe (dVar 4) (dVar 8))))) (dRet (dC (.bl false))) dNext)
  (dSeq (dFor (dRange1 (dCons (dC (.int 6)) dNil)) (hName 10) (dSeq (dAsg (dCallH 1 0 ph__law_odd dNil) (hName 11))
  (dCond (dTest (dOp oNe (dCl oRepr (dCons (dTup (dCons (dCall 1 ph_is_label (dCons (dVar 11) dNil)) (dCons (dCall 1 ph_is_sequence (dCons (dVar 11) dNil)) dNil))) dNil)) (dCl oRepr (dCons (dTup (dCons (dCall 1 ph__law_label (dCons (dVar 11) dNil)) (dCons (dUn (oIsi2 "list" "tuple") (dVar 11)) dNil))) dNil)))) (dRet (dC (.bl false))) dNext)))
  (dSeq (dAsg (dOp oSub (dCallH 1 1 ph__law_draw (dCons (dOp oPow (dC (.int 10)) (dC (.int 6))) dNil)) (dC (.int 500000))) (hName 12))
  (dSeq (dAsg (dOp oAdd (dVar 12) (dCallH 1 1 ph__law_draw (dCons (dOp oPow (dC (.int 10)) (dC (.int 30))) dNil))) (hName 13))
  (dSeq (dAsg (dOp oAdd (dVar 12) (dCallH 1 1 ph__law_draw (dCons (dOp oAdd (dOp oSub (dVar 13) (dVar 12)) (dC (.int 1))) dNil))) (hName 14))
  (dSeq (dFor (dItems asLst (dLst (dCons (dVar 12) (dCons (dVar 13) (dCons (dVar 14) dNil))))) (hName 15) (dCond (dTest (dOp (oIs true) (dCall 3 ph_is_whole (dCons (dVar 15) (dCons (dVar 12) (dCons (dVar 13) dNil)))) (dC (.bl true)))) (dRet (dC (.bl false))) dNext))
  (dSeq (dFor (dItems asLst (dLst (dCons (dOp oSub (dVar 12) (dC (.int 1))) (dCons (dOp oAdd (dVar 13) (dC (.int 1))) (dCons (dC .non) (dCons (dCl oStrI (dCons (dVar 14) dNil)) (dCons (dLst (dCons (dVar 14) dNil)) (dCons (dTup (dCons (dVar 14) dNil)) dNil)))))))) (hName 15) (dCond (dTest (dOp (oIs true) (dCall 3 ph_is_whole (dCons (dVar 15) (dCons (dVar 12) (dCons (dVar 13) dNil)))) (dC (.bl false)))) (dRet (dC (.bl false))) dNext))
  (dRet (dAndV (dOp (oIs false) (dCall 3 ph_is_whole (dCons (dC (.bl true)) (dCons (dC (.int 0)) (dCons (dC (.int 1)) dNil)))) (dC (.bl false))) (dAndV (dOp (oIs false) (dCall 3 ph_is_whole (dCons (dC (.bl false)) (dCons (dC (.int 0)) (dCons (dC (.int 1)) dNil)))) (dC (.bl false))) (dAndV (dOp (oIs false) (dCall 3 ph_is_whole (dCons (dC (.int 1)) (dCons (dC (.int 0)) (dCons (dC (.int 1)) dNil)))) (dC (.bl true))) (dOp (oIs false) (dCall 3 ph_is_whole (dCons (dVar 12) (dCons (dVar 12) (dCons (dVar 12) dNil)))) (dC (.bl true)))))))))))))))))))))))))
/-- what is left to show of the readings -/
structure Pure : Prop where
  p__law_hand : ∀ (ds : List D) (Q : Ret → Prop) (QE : D → Prop), ds.length = 1 → ph__law_hand ds Q QE → dl__law_hand (endsD Q QE) (startD nm__law_hand ds)
  p__law_mix : ∀ (ds : List D) (Q : Ret → Prop) (QE : D → Prop), ds.length = 2 → ph__law_mix ds Q QE → dl__law_mix (endsD Q QE) (startD nm__law_mix ds)
  p__law_index : ∀ (ds : List D) (Q : Ret → Prop) (QE : D → Prop), ds.length = 0 → ph__law_index ds Q QE → dl__law_index (endsD Q QE) (startH nm__law_index ds)
  p_label_at : ∀ (ds : List D) (Q : Ret → Prop) (QE : D → Prop), ds.length = 1 → ph_label_at ds Q QE → dl_label_at (endsD Q QE) (startD nm_label_at ds)
  p__law_word : ∀ (ds : List D) (Q : Ret → Prop) (QE : D → Prop), ds.length = 1 → ph__law_word ds Q QE → dl__law_word (endsD Q QE) (startH nm__law_word ds)
  p__law_one : ∀ (ds : List D) (Q : Ret → Prop) (QE : D → Prop), ds.length = 1 → ph__law_one ds Q QE → dl__law_one (endsD Q QE) (startH nm__law_one ds)
  p__law_label_at : ∀ (ds : List D) (Q : Ret → Prop) (QE : D → Prop), ds.length = 1 → ph__law_label_at ds Q QE → dl__law_label_at (endsD Q QE) (startD nm__law_label_at ds)
  p__law_taken : ∀ (ds : List D) (Q : Ret → Prop) (QE : D → Prop), ds.length = 0 → ph__law_taken ds Q QE → dl__law_taken (endsD Q QE) (startH nm__law_taken ds)
  p_fresh_labels : ∀ (ds : List D) (Q : Ret → Prop) (QE : D → Prop), ds.length = 2 → ph_fresh_labels ds Q QE → dl_fresh_labels (endsD Q QE) (startD nm_fresh_labels ds)
  p__law_odd : ∀ (ds : List D) (Q : Ret → Prop) (QE : D → Prop), ds.length = 0 → ph__law_odd ds Q QE → dl__law_odd (endsD Q QE) (startH nm__law_odd ds)
  p_is_label : ∀ (ds : List D) (Q : Ret → Prop) (QE : D → Prop), ds.length = 1 → ph_is_label ds Q QE → dl_is_label (endsD Q QE) (startD nm_is_label ds)
  p_is_whole : ∀ (ds : List D) (Q : Ret → Prop) (QE : D → Prop), ds.length = 3 → ph_is_whole ds Q QE → dl_is_whole (endsD Q QE) (startD nm_is_whole ds)
  p_is_sequence : ∀ (ds : List D) (Q : Ret → Prop) (QE : D → Prop), ds.length = 1 → ph_is_sequence ds Q QE → dl_is_sequence (endsD Q QE) (startD nm_is_sequence ds)
  p__law_label : ∀ (ds : List D) (Q : Ret → Prop) (QE : D → Prop), ds.length = 1 → ph__law_label ds Q QE → dl__law_label (endsD Q QE) (startD nm__law_label ds)
  p_law : ∀ ns : List Int, ns.length ≤ 63 → dl_law (endsD (fun r => r = .val (.bl true)) fun _ => False) (lawSl nm_law ns)
end Ka
namespace Ka
open PySem L2 Dx
def top (i : Nat) : Stmt := PySem.Challenge.pw_searchback_k02_whole_labels_in_order.main.body.getD i (.Pass ⟨0, 0, 0, 0⟩)
abbrev s__law_hand : Stmt := top 10
abbrev s__law_mix : Stmt := top 9
abbrev s__law_draw : Stmt := top 11
abbrev s__law_index : Stmt := top 17
abbrev s_label_at : Stmt := top 6
abbrev s__law_word : Stmt := top 13
abbrev s__law_one : Stmt := top 12
abbrev s__law_label_at : Stmt := top 16
abbrev s__law_taken : Stmt := top 18
abbrev s_fresh_labels : Stmt := top 7
abbrev s__law_odd : Stmt := top 15
abbrev s_is_label : Stmt := top 4
abbrev s_is_whole : Stmt := top 3
abbrev s_is_sequence : Stmt := top 5
abbrev s__law_label : Stmt := top 14
abbrev s_law : Stmt := top 19
structure Txt (K : Fg) (mg : Str → Option Value) : Prop where
  d__law_hand : DefAt K mg "_law_hand" s__law_hand ["_law_script"]
  d__law_mix : DefAt K mg "_law_mix" s__law_mix ["_law_number", "_law_turn"]
  d__law_draw : DefAt K mg "_law_draw" s__law_draw ["_law_hand_here", "_law_many"]
  d__law_index : DefAt K mg "_law_index" s__law_index ["_law_hand_here"]
  d_label_at : DefAt K mg "label_at" s_label_at ["index"]
  d__law_word : DefAt K mg "_law_word" s__law_word ["_law_hand_here", "_law_most"]
  d__law_one : DefAt K mg "_law_one" s__law_one ["_law_hand_here", "_law_rows"]
  d__law_label_at : DefAt K mg "_law_label_at" s__law_label_at ["_law_index_here"]
  d__law_taken : DefAt K mg "_law_taken" s__law_taken ["_law_hand_here"]
  d_fresh_labels : DefAt K mg "fresh_labels" s_fresh_labels ["taken", "many"]
  d__law_odd : DefAt K mg "_law_odd" s__law_odd ["_law_hand_here"]
  d_is_label : DefAt K mg "is_label" s_is_label ["thing"]
  d_is_whole : DefAt K mg "is_whole" s_is_whole ["thing", "low", "high"]
  d_is_sequence : DefAt K mg "is_sequence" s_is_sequence ["thing"]
  d__law_label : DefAt K mg "_law_label" s__law_label ["_law_thing"]
  z_abs : mg "abs" = none
  z_bool : mg "bool" = none
  z_divmod : mg "divmod" = none
  z_enumerate : mg "enumerate" = none
  z_int : mg "int" = none
  z_isinstance : mg "isinstance" = none
  z_len : mg "len" = none
  z_list : mg "list" = none
  z_range : mg "range" = none
  z_repr : mg "repr" = none
  z_str : mg "str" = none
  z_tuple : mg "tuple" = none
  c_LETTERS : ∃ t, mg "LETTERS" = some (.str "abcdefghijklmnopqrstuvwxyz" t)
  c_MOST_LETTERS : ∃ t, mg "MOST_LETTERS" = some (.int 6 t)
theorem sc__law_hand : FnScope nm__law_hand ["_law_script"] (defScope s__law_hand) := ⟨rfl, rfl, rfl, by decide +kernel, rfl, by decide +kernel, by decide +kernel⟩
theorem sc__law_mix : FnScope nm__law_mix ["_law_number", "_law_turn"] (defScope s__law_mix) := ⟨rfl, rfl, rfl, by decide +kernel, rfl, by decide +kernel, by decide +kernel⟩
theorem sc__law_draw : FnScope nm__law_draw ["_law_hand_here", "_law_many"] (defScope s__law_draw) := ⟨rfl, rfl, rfl, by decide +kernel, rfl, by decide +kernel, by decide +kernel⟩
theorem sc__law_index : FnScope nm__law_index ["_law_hand_here"] (defScope s__law_index) := ⟨rfl, rfl, rfl, by decide +kernel, rfl, by decide +kernel, by decide +kernel⟩
theorem sc_label_at : FnScope nm_label_at ["index"] (defScope s_label_at) := ⟨rfl, rfl, rfl, by decide +kernel, rfl, by decide +kernel, by decide +kernel⟩
theorem sc__law_word : FnScope nm__law_word ["_law_hand_here", "_law_most"] (defScope s__law_word) := ⟨rfl, rfl, rfl, by decide +kernel, rfl, by decide +kernel, by decide +kernel⟩
theorem sc__law_one : FnScope nm__law_one ["_law_hand_here", "_law_rows"] (defScope s__law_one) := ⟨rfl, rfl, rfl, by decide +kernel, rfl, by decide +kernel, by decide +kernel⟩
theorem sc__law_label_at : FnScope nm__law_label_at ["_law_index_here"] (defScope s__law_label_at) := ⟨rfl, rfl, rfl, by decide +kernel, rfl, by decide +kernel, by decide +kernel⟩
theorem sc__law_taken : FnScope nm__law_taken ["_law_hand_here"] (defScope s__law_taken) := ⟨rfl, rfl, rfl, by decide +kernel, rfl, by decide +kernel, by decide +kernel⟩
theorem sc_fresh_labels : FnScope nm_fresh_labels ["taken", "many"] (defScope s_fresh_labels) := ⟨rfl, rfl, rfl, by decide +kernel, rfl, by decide +kernel, by decide +kernel⟩
theorem sc__law_odd : FnScope nm__law_odd ["_law_hand_here"] (defScope s__law_odd) := ⟨rfl, rfl, rfl, by decide +kernel, rfl, by decide +kernel, by decide +kernel⟩
theorem sc_is_label : FnScope nm_is_label ["thing"] (defScope s_is_label) := ⟨rfl, rfl, rfl, by decide +kernel, rfl, by decide +kernel, by decide +kernel⟩
theorem sc_is_whole : FnScope nm_is_whole ["thing", "low", "high"] (defScope s_is_whole) := ⟨rfl, rfl, rfl, by decide +kernel, rfl, by decide +kernel, by decide +kernel⟩
theorem sc_is_sequence : FnScope nm_is_sequence ["thing"] (defScope s_is_sequence) := ⟨rfl, rfl, rfl, by decide +kernel, rfl, by decide +kernel, by decide +kernel⟩
theorem sc__law_label : FnScope nm__law_label ["_law_thing"] (defScope s__law_label) := ⟨rfl, rfl, rfl, by decide +kernel, rfl, by decide +kernel, by decide +kernel⟩
theorem sc_law : FnScope nm_law ["_law_script"] (defScope s_law) := ⟨rfl, rfl, rfl, by decide +kernel, rfl, by decide +kernel, by decide +kernel⟩
section
variable {P : Program} {w : World} {K : Fg} {mg : Str → Option Value} {base : Heap}
theorem q__law_hand (T : Txt K mg)  (f : Addr) : BodyD P w K mg base nm__law_hand "_law_hand" s__law_hand f 0 dl__law_hand := by
  intro cdv A outer s H E F hr
  have S := sc__law_hand
  exact (qss_cons (qs_set (ps_set (i := 1) S.nd (by rfl) (by first | exact .inl rfl | exact .inr rfl) qe_int.run))
      (qss_cons (qs_for (passes_of (by rfl)) (by rfl) (qi_enum (by rfl) T.z_enumerate (qa_cons (qe_var (pv 0)) qa_nil)) (qg_tup (by rfl) (qgs_cons (qg_name (pg_name S.nd (i := 2) (by rfl) (by first | exact .inl rfl | exact .inr rfl))) (qgs_cons (qg_name (pg_name S.nd (i := 3) (by rfl) (by first | exact .inl rfl | exact .inr rfl))) qgs_nil))) (qss_one (qs_set (ps_set (i := 1) S.nd (by rfl) (by first | exact .inl rfl | exact .inr rfl) (qe_op op_mod rf_mod (qe_callT call_int1 rf_int (by rfl) T.z_int bb_int (qa_cons (qe_op op_addD rf_add (qe_op op_mulD rf_mul (qe_var (pv 1)) qe_int) (qe_op op_mulD rf_mul (qe_callT call_int1 rf_int (by rfl) T.z_int bb_int (qa_cons (qe_var (pv 3)) qa_nil)) (qe_op op_addD rf_add (qe_var (pv 2)) qe_int))) qa_nil)) qe_int).run))))
      (qss_one (qs_retO (qn_lst (qa_cons (qe_comp (own := [("_law_cell", 3)]) (by rfl) S.nd (qi_list (qe_var (pv 0))) (show BlkOk nm__law_hand (defScope s__law_hand) _ [("_law_cell", 3)] from ⟨rfl, by decide +kernel, by decide +kernel, by decide +kernel, by decide +kernel⟩) ⟨(fun _ _ _ _ _ _ => (qgc_name (pg_name S.nd (i := 3) (by rfl) (by first | exact .inl rfl | exact .inr rfl)))), (fun _ _ _ _ _ _ => qts_nil), (fun _ _ _ _ _ _ => (qe_callB call_abs rf_abs (by rfl) T.z_abs bb_abs (qa_cons (qe_callT call_int1 rf_int (by rfl) T.z_int bb_int (qa_cons (qe_var (pv 3)) qa_nil)) qa_nil)))⟩) (qa_cons qe_int (qa_cons qe_int (qa_cons (qe_var (pv 1)) qa_nil)))))))))
theorem q__law_mix (T : Txt K mg)  (f : Addr) : BodyD P w K mg base nm__law_mix "_law_mix" s__law_mix f 0 dl__law_mix := by
  intro cdv A outer s H E F hr
  have S := sc__law_mix
  exact (qss_cons (qs_set (ps_set (i := 2) S.nd (by rfl) (by first | exact .inl rfl | exact .inr rfl) (qe_op op_mod rf_mod (qe_callT call_int1 rf_int (by rfl) T.z_int bb_int (qa_cons (qe_op op_addD rf_add (qe_op op_addD rf_add (qe_op op_mulD rf_mul (qe_var (pv 0)) qe_int) (qe_op op_mulD rf_mul (qe_var (pv 1)) qe_int)) qe_int) qa_nil)) qe_int).run))
      (qss_cons (qs_set (ps_set (i := 3) S.nd (by rfl) (by first | exact .inl rfl | exact .inr rfl) (qe_op op_mod rf_mod (qe_callT call_int1 rf_int (by rfl) T.z_int bb_int (qa_cons (qe_op op_addD rf_add (qe_op op_addD rf_add (qe_op op_mulD rf_mul (qe_var (pv 2)) (qe_var (pv 2))) (qe_op op_mulD rf_mul (qe_op op_fdivW rf_fdiv (qe_var (pv 2)) qe_int) qe_int)) (qe_op op_mulD rf_mul (qe_var (pv 1)) qe_int)) qa_nil)) qe_int).run))
      (qss_one (qs_ret (qe_op op_fdivW rf_fdiv (qe_op op_mod rf_mod (qe_callT call_int1 rf_int (by rfl) T.z_int bb_int (qa_cons (qe_op op_addD rf_add (qe_op op_fdivW rf_fdiv (qe_op op_mulD rf_mul (qe_var (pv 3)) (qe_var (pv 3))) qe_int) (qe_var (pv 2))) qa_nil)) qe_int) qe_int)))))
theorem ok__law_draw (T : Txt K mg) (o__law_mix : OkP P w K mg base 1 "_law_mix" 2 ph__law_mix) : OkH P w K mg base 2 "_law_draw" 1 ph__law_draw := by
  obtain ⟨f, fd, Fu, bi, hm⟩ := T.d__law_draw.ex
  obtain ⟨fM, fdM, psM, G, mM, kM, bM⟩ := o__law_mix
  have S := sc__law_draw
  exact draw_ok rfl Fu bi hm S fun cdv A outer s H E hr => by
    have hM := hr
    exact pss_cons (ps_if (pw_and (pt_cmpR op_eq (pe_ix ix_seq (pv 0) pe_int (fun _ _ => rfl)) pe_int (nomark _)) (pw_and1 (pt_cmpR op_lt (pe_ix ix_seq (pv 0) pe_int (fun _ _ => rfl)) (pe_callB call_len_seq (by rfl) T.z_len bb_len (pa_cons (pe_ix ix_seq (pv 0) pe_int (fun _ _ => rfl)) pa_nil)) (nomark _)))).pt (pss_cons (ps_set (i := 2) S.nd (by rfl) (by first | exact .inl rfl | exact .inr rfl) (pe_ix ix_seq (pe_ix ix_seq (pv 0) pe_int (fun _ _ => rfl)) (pe_ix ix_seq (pv 0) pe_int (fun _ _ => rfl)) (fun _ _ => rfl))) (pss_cons (ps_asg (pe_op op_add (pe_ix ix_seq (pv 0) pe_int (fun _ _ => rfl)) pe_int) (pg_sub (pv 0) pe_int set_list)) (pss_cons (ps_if (pt_cmpR op_lt (pv 2) (pe_op op_pow pe_int pe_int) (nomark _)) (pss_one (ps_ret (pe_op op_mod (pe_callTy call_int1 (by rfl) T.z_int bb_int (pa_cons (pe_callS G hM (by rfl) mM kM bM (fun σ => passAt (takes_of (by rfl) (by rfl) (by rfl) (by rfl)) σ) (pa_cons (pe_op op_mod (pe_callTy call_int1 (by rfl) T.z_int bb_int (pa_cons (pv 2) pa_nil)) pe_int) (pa_cons (pe_ix ix_seq (pv 0) pe_int (fun _ _ => rfl)) pa_nil))) pa_nil)) (pv 1)))) pss_nil) (pss_one (ps_asg (pv 2) (pg_sub (pv 0) pe_int set_list)))))) pss_nil) (pss_cons (ps_if (pt_cmpR op_gt (pe_ix ix_seq (pv 0) pe_int (fun _ _ => rfl)) pe_int (nomark _)) (pss_cons (ps_set (i := 3) S.nd (by rfl) (by first | exact .inl rfl | exact .inr rfl) (pe_ix ix_seq (pv 0) pe_int (fun _ _ => rfl))) (pss_cons (ps_asg (pe_op op_fdivW (pv 3) (pv 1)) (pg_sub (pv 0) pe_int set_list)) (pss_one (ps_ret (pe_op op_mod (pe_callTy call_int1 (by rfl) T.z_int bb_int (pa_cons (pv 3) pa_nil)) (pv 1)))))) pss_nil) (pss_cons (ps_asg (pe_op op_mod (pe_callTy call_int1 (by rfl) T.z_int bb_int (pa_cons (pe_op op_add (pe_ix ix_seq (pv 0) pe_int (fun _ _ => rfl)) pe_int) pa_nil)) pe_int) (pg_sub (pv 0) pe_int set_list)) (pss_one (ps_ret (pe_op op_mod (pe_callTy call_int1 (by rfl) T.z_int bb_int (pa_cons (pe_callS G hM (by rfl) mM kM bM (fun σ => passAt (takes_of (by rfl) (by rfl) (by rfl) (by rfl)) σ) (pa_cons (pe_ix ix_seq (pv 0) pe_int (fun _ _ => rfl)) (pa_cons (pe_ix ix_seq (pv 0) pe_int (fun _ _ => rfl)) pa_nil))) pa_nil)) (pv 1))))))
theorem q__law_index (T : Txt K mg) (o__law_draw : OkH P w K mg base 2 "_law_draw" 1 ph__law_draw) (f : Addr) : BodyD P w K mg base nm__law_index "_law_index" s__law_index f 2 dl__law_index := by
  intro cdv A outer s H E F hr
  have S := sc__law_index
  exact (qss_cons (qs_set (ps_set (i := 1) S.nd (by rfl) (by first | exact .inl rfl | exact .inr rfl) qe_int.run))
      (qss_cons (qs_set (ps_set (i := 2) S.nd (by rfl) (by first | exact .inl rfl | exact .inr rfl) qe_int.run))
      (qss_cons (qs_for (passes_of (by rfl)) (by rfl) (qi_range1 (by rfl) T.z_range (qa_cons (qe_op op_addD rf_add qe_int (qe_cH o__law_draw (hr.mono (by decide)) (by rfl) (takes_of (by rfl) (by rfl) (by rfl) (by rfl)) (pv 0) (qa_cons qe_int qa_nil))) qa_nil)) (qg_name (pg_name S.nd (i := 3) (by rfl) (by first | exact .inl rfl | exact .inr rfl))) (qss_cons (qs_set (ps_set (i := 2) S.nd (by rfl) (by first | exact .inl rfl | exact .inr rfl) (qe_op op_mulD rf_mul (qe_var (pv 2)) qe_int).run))
      (qss_one (qs_set (ps_set (i := 1) S.nd (by rfl) (by first | exact .inl rfl | exact .inr rfl) (qe_op op_addD rf_add (qe_var (pv 1)) (qe_var (pv 2))).run)))))
      (qss_cons (qs_if (qt_cmp (op_eqD hr.units) rf_eq (qe_cH o__law_draw (hr.mono (by decide)) (by rfl) (takes_of (by rfl) (by rfl) (by rfl) (by rfl)) (pv 0) (qa_cons qe_int qa_nil)) qe_int (nomark _)) (qss_one (qs_ret (qe_op op_sub rf_sub (qe_var (pv 1)) qe_int))) qss_nil)
      (qss_one (qs_ret (qe_cH o__law_draw (hr.mono (by decide)) (by rfl) (takes_of (by rfl) (by rfl) (by rfl) (by rfl)) (pv 0) (qa_cons (qe_var (pv 1)) qa_nil))))))))
theorem q_label_at (T : Txt K mg)  (f : Addr) : BodyD P w K mg base nm_label_at "label_at" s_label_at f 0 dl_label_at := by
  intro cdv A outer s H E F hr
  have S := sc_label_at
  exact (qss_cons (qs_set (ps_set (i := 1) S.nd (by rfl) (by first | exact .inl rfl | exact .inr rfl) qe_str.run))
      (qss_cons (qs_set (ps_set (i := 2) S.nd (by rfl) (by first | exact .inl rfl | exact .inr rfl) (qe_op op_addD rf_add (qe_var (pv 0)) qe_int).run))
      (qss_cons (qs_while (passes_of (by rfl)) (qt_cmp op_gt rf_gt (qe_var (pv 2)) qe_int (nomark _)) (qss_cons (qs_asg (ps_asg (qe_callB call_divmod rf_divmod (by rfl) T.z_divmod bb_divmod (qa_cons (qe_op op_sub rf_sub (qe_var (pv 2)) qe_int) (qa_cons qe_int qa_nil))).run (qg_tup (by rfl) (qgs_cons (qg_name (pg_name S.nd (i := 2) (by rfl) (by first | exact .inl rfl | exact .inr rfl))) (qgs_cons (qg_name (pg_name S.nd (i := 3) (by rfl) (by first | exact .inl rfl | exact .inr rfl))) qgs_nil))).run))
      (qss_one (qs_set (ps_set (i := 1) S.nd (by rfl) (by first | exact .inl rfl | exact .inr rfl) (qe_op op_addD rf_add (qe_ix (qe_gStr (by rfl) T.c_LETTERS) (qe_var (pv 3))) (qe_var (pv 1))).run)))))
      (qss_one (qs_ret (qe_var (pv 1)))))))
theorem q__law_word (T : Txt K mg) (o__law_draw : OkH P w K mg base 2 "_law_draw" 1 ph__law_draw) (f : Addr) : BodyD P w K mg base nm__law_word "_law_word" s__law_word f 2 dl__law_word := by
  intro cdv A outer s H E F hr
  have S := sc__law_word
  exact (qss_cons (qs_set (ps_set (i := 2) S.nd (by rfl) (by first | exact .inl rfl | exact .inr rfl) qe_str.run))
      (qss_cons (qs_for (passes_of (by rfl)) (by rfl) (qi_range1 (by rfl) T.z_range (qa_cons (qe_op op_addD rf_add qe_int (qe_cH o__law_draw (hr.mono (by decide)) (by rfl) (takes_of (by rfl) (by rfl) (by rfl) (by rfl)) (pv 0) (qa_cons (qe_var (pv 1)) qa_nil))) qa_nil)) (qg_name (pg_name S.nd (i := 3) (by rfl) (by first | exact .inl rfl | exact .inr rfl))) (qss_one (qs_set (ps_set (i := 2) S.nd (by rfl) (by first | exact .inl rfl | exact .inr rfl) (qe_op op_addD rf_add (qe_var (pv 2)) (qe_ix qe_str (qe_cH o__law_draw (hr.mono (by decide)) (by rfl) (takes_of (by rfl) (by rfl) (by rfl) (by rfl)) (pv 0) (qa_cons qe_int qa_nil)))).run))))
      (qss_one (qs_ret (qe_var (pv 2))))))
theorem q__law_one (T : Txt K mg) (o__law_draw : OkH P w K mg base 2 "_law_draw" 1 ph__law_draw) (f : Addr) : BodyD P w K mg base nm__law_one "_law_one" s__law_one f 2 dl__law_one := by
  intro cdv A outer s H E F hr
  have S := sc__law_one
  exact (qss_one (qs_ret (qe_ix (qe_var (pv 1)) (qe_cH o__law_draw (hr.mono (by decide)) (by rfl) (takes_of (by rfl) (by rfl) (by rfl) (by rfl)) (pv 0) (qa_cons (qe_callB Dx.call_lenD rf_len (by rfl) T.z_len bb_len (qa_cons (qe_var (pv 1)) qa_nil)) qa_nil)))))
theorem q__law_label_at (T : Txt K mg)  (f : Addr) : BodyD P w K mg base nm__law_label_at "_law_label_at" s__law_label_at f 0 dl__law_label_at := by
  intro cdv A outer s H E F hr
  have S := sc__law_label_at
  exact (qss_cons (qs_set (ps_set (i := 1) S.nd (by rfl) (by first | exact .inl rfl | exact .inr rfl) qe_int.run))
      (qss_cons (qs_set (ps_set (i := 2) S.nd (by rfl) (by first | exact .inl rfl | exact .inr rfl) qe_int.run))
      (qss_cons (qs_while (passes_of (by rfl)) (qt_cmp op_ge rf_ge (qe_var (pv 0)) (qe_var (pv 1)) (nomark _)) (qss_cons (qs_set (ps_set (i := 0) S.nd (by rfl) (by first | exact .inl rfl | exact .inr rfl) (qe_op op_sub rf_sub (qe_var (pv 0)) (qe_var (pv 1))).run))
      (qss_cons (qs_set (ps_set (i := 1) S.nd (by rfl) (by first | exact .inl rfl | exact .inr rfl) (qe_op op_mulD rf_mul (qe_var (pv 1)) qe_int).run))
      (qss_one (qs_set (ps_set (i := 2) S.nd (by rfl) (by first | exact .inl rfl | exact .inr rfl) (qe_op op_addD rf_add (qe_var (pv 2)) qe_int).run))))))
      (qss_cons (qs_set (ps_set (i := 3) S.nd (by rfl) (by first | exact .inl rfl | exact .inr rfl) qe_str.run))
      (qss_cons (qs_for (passes_of (by rfl)) (by rfl) (qi_range1 (by rfl) T.z_range (qa_cons (qe_var (pv 2)) qa_nil)) (qg_name (pg_name S.nd (i := 4) (by rfl) (by first | exact .inl rfl | exact .inr rfl))) (qss_cons (qs_set (ps_set (i := 3) S.nd (by rfl) (by first | exact .inl rfl | exact .inr rfl) (qe_op op_addD rf_add (qe_ix qe_str (qe_op op_mod rf_mod (qe_callT call_int1 rf_int (by rfl) T.z_int bb_int (qa_cons (qe_var (pv 0)) qa_nil)) qe_int)) (qe_var (pv 3))).run))
      (qss_one (qs_set (ps_set (i := 0) S.nd (by rfl) (by first | exact .inl rfl | exact .inr rfl) (qe_op op_fdivW rf_fdiv (qe_var (pv 0)) qe_int).run)))))
      (qss_one (qs_ret (qe_var (pv 3)))))))))
theorem q__law_taken (T : Txt K mg) (o__law_draw : OkH P w K mg base 2 "_law_draw" 1 ph__law_draw) (o__law_word : OkH P w K mg base 3 "_law_word" 1 ph__law_word) (o__law_one : OkH P w K mg base 3 "_law_one" 1 ph__law_one) (o__law_label_at : OkP P w K mg base 1 "_law_label_at" 1 ph__law_label_at) (f : Addr) : BodyD P w K mg base nm__law_taken "_law_taken" s__law_taken f 3 dl__law_taken := by
  intro cdv A outer s H E F hr
  have S := sc__law_taken
  exact (qss_cons (qs_own (ps_set (i := 1) S.nd (by rfl) (by first | exact .inl rfl | exact .inr rfl) (qn_lst qa_nil).run))
      (qss_cons (qs_for (passes_of (by rfl)) (by rfl) (qi_range1 (by rfl) T.z_range (qa_cons (qe_cH o__law_draw (hr.mono (by decide)) (by rfl) (takes_of (by rfl) (by rfl) (by rfl) (by rfl)) (pv 0) (qa_cons qe_int qa_nil)) qa_nil)) (qg_name (pg_name S.nd (i := 2) (by rfl) (by first | exact .inl rfl | exact .inr rfl))) (qss_cons (qs_set (ps_set (i := 3) S.nd (by rfl) (by first | exact .inl rfl | exact .inr rfl) (qe_cH o__law_draw (hr.mono (by decide)) (by rfl) (takes_of (by rfl) (by rfl) (by rfl) (by rfl)) (pv 0) (qa_cons qe_int qa_nil)).run))
      (qss_one (qs_if (qt_cmp (op_eqD hr.units) rf_eq (qe_var (pv 3)) qe_int (nomark _)) (qss_one (qs_append (ps_expr (pe_bm PySem.F.plainAttrs_list PySem.F.slot_list_append PySem.F.type_list_append mt_append (pv 1) (pa_cons (qe_cH o__law_word (hr.mono (by decide)) (by rfl) (takes_of (by rfl) (by rfl) (by rfl) (by rfl)) (pv 0) (qa_cons qe_int qa_nil)).run pa_nil))))) (qss_one (qs_if (qw_and (qt_cmp (op_eqD hr.units) rf_eq (qe_var (pv 3)) qe_int (nomark _)) (qw_and1 (qt_cmpB (op_neD hr.units) rf_ne (qb_nm (pv 1)) (qb_ex (qe_lst qa_nil)) (nomark _)))).qt (qss_one (qs_append (ps_expr (pe_bm PySem.F.plainAttrs_list PySem.F.slot_list_append PySem.F.type_list_append mt_append (pv 1) (pa_cons (qe_cH o__law_one (hr.mono (by decide)) (by rfl) (takes_of (by rfl) (by rfl) (by rfl) (by rfl)) (pv 0) (qa_cons (qe_listB (by rfl) T.z_list bb_list (pv 1)) qa_nil)).run pa_nil))))) (qss_one (qs_append (ps_expr (pe_bm PySem.F.plainAttrs_list PySem.F.slot_list_append PySem.F.type_list_append mt_append (pv 1) (pa_cons (qe_cP o__law_label_at (hr.mono (by decide)) (by rfl) (takes_of (by rfl) (by rfl) (by rfl) (by rfl)) (qa_cons (qe_cH o__law_draw (hr.mono (by decide)) (by rfl) (takes_of (by rfl) (by rfl) (by rfl) (by rfl)) (pv 0) (qa_cons qe_int qa_nil)) qa_nil)).run pa_nil)))))))))))
      (qss_one (qs_retOwn (pv 1)))))
theorem q_fresh_labels (T : Txt K mg) (o_label_at : OkP P w K mg base 1 "label_at" 1 ph_label_at) (f : Addr) : BodyD P w K mg base nm_fresh_labels "fresh_labels" s_fresh_labels f 1 dl_fresh_labels := by
  intro cdv A outer s H E F hr
  have S := sc_fresh_labels
  exact (qss_cons (qs_own (ps_set (i := 2) S.nd (by rfl) (by first | exact .inl rfl | exact .inr rfl) qn_dict.run))
      (qss_cons (qs_for (passes_of (by rfl)) (by rfl) (qi_alt (qi_list (qe_var (pv 0))) (qi_tup (qe_var (pv 0)))) (qg_name (pg_name S.nd (i := 3) (by rfl) (by first | exact .inl rfl | exact .inr rfl))) (qss_one (qs_putK (ps_dput (hu_of hr) (pv 2) (qe_var (pv 3)).run qe_bl.run (by rfl)))))
      (qss_cons (qs_own (ps_set (i := 4) S.nd (by rfl) (by first | exact .inl rfl | exact .inr rfl) (qn_lst qa_nil).run))
      (qss_cons (qs_set (ps_set (i := 5) S.nd (by rfl) (by first | exact .inl rfl | exact .inr rfl) qe_int.run))
      (qss_cons (qs_while (passes_of (by rfl)) (qt_cmp op_lt rf_lt (qe_callBB Dx.call_lenD rf_len (by rfl) T.z_len bb_len (qbs_cons (qb_nm (pv 4)) qbs_nil)) (qe_var (pv 1)) (nomark _)) (qss_cons (qs_set (ps_set (i := 6) S.nd (by rfl) (by first | exact .inl rfl | exact .inr rfl) (qe_cP o_label_at (hr.mono (by decide)) (by rfl) (takes_of (by rfl) (by rfl) (by rfl) (by rfl)) (qa_cons (qe_var (pv 5)) qa_nil)).run))
      (qss_cons (qs_if (qt_cmpB (op_notInD (hu_of hr)) rf_in (qb_ex (qe_var (pv 6))) (qb_nm (pv 2)) (by rfl)) (qss_one (qs_append (ps_expr (pe_bm PySem.F.plainAttrs_list PySem.F.slot_list_append PySem.F.type_list_append mt_append (pv 4) (pa_cons (qe_var (pv 6)).run pa_nil))))) qss_nil)
      (qss_one (qs_set (ps_set (i := 5) S.nd (by rfl) (by first | exact .inl rfl | exact .inr rfl) (qe_op op_addD rf_add (qe_var (pv 5)) qe_int).run))))))
      (qss_one (qs_ret (qe_callT call_tuple_of rf_tuple (by rfl) T.z_tuple bb_tuple (qa_cons (qe_var (pv 4)) qa_nil)))))))))
theorem q__law_odd (T : Txt K mg) (o__law_word : OkH P w K mg base 3 "_law_word" 1 ph__law_word) (o__law_one : OkH P w K mg base 3 "_law_one" 1 ph__law_one) (f : Addr) : BodyD P w K mg base nm__law_odd "_law_odd" s__law_odd f 3 dl__law_odd := by
  intro cdv A outer s H E F hr
  have S := sc__law_odd
  exact (qss_cons (qs_set (ps_set (i := 1) S.nd (by rfl) (by first | exact .inl rfl | exact .inr rfl) (qe_cH o__law_word (hr.mono (by decide)) (by rfl) (takes_of (by rfl) (by rfl) (by rfl) (by rfl)) (pv 0) (qa_cons qe_int qa_nil)).run))
      (qss_one (qs_ret (qe_cH o__law_one (hr.mono (by decide)) (by rfl) (takes_of (by rfl) (by rfl) (by rfl) (by rfl)) (pv 0) (qa_cons (qe_lst (qa_cons qe_non (qa_cons qe_int (qa_cons qe_bl (qa_cons qe_str (qa_cons (qe_upper (qe_var (pv 1))) (qa_cons (qe_op op_addD rf_add (qe_var (pv 1)) qe_str) (qa_cons (qe_op op_addD rf_add (qe_var (pv 1)) qe_str) (qa_cons (qe_tup (qa_cons (qe_var (pv 1)) qa_nil)) (qa_cons (qe_lst (qa_cons (qe_var (pv 1)) qa_nil)) (qa_cons (qe_un un_neg rf_neg qe_int) (qa_cons (qe_op op_addD rf_add (qe_var (pv 1)) qe_str) (qa_cons (qe_var (pv 1)) (qa_cons (qe_disp1 (qv_var (pv 1)) (qv_var (pv 1))) qa_nil)))))))))))))) qa_nil)))))
theorem q_is_label (T : Txt K mg)  (f : Addr) : BodyD P w K mg base nm_is_label "is_label" s_is_label f 0 dl_is_label := by
  intro cdv A outer s H E F hr
  have S := sc_is_label
  exact (qss_cons (qs_if (qw_or (qt_not (qt_val (qe_isi (T' := "str") (by rfl) T.z_isinstance bb_isinstance (by rfl) T.z_str bb_str (by decide) (qe_var (pv 0))))) (qw_or1 (qt_not (qt_chain op_le rf_le op_le rf_le qe_int (qe_callB Dx.call_lenD rf_len (by rfl) T.z_len bb_len (qa_cons (qe_var (pv 0)) qa_nil)) (qe_gInt (by rfl) T.c_MOST_LETTERS))))).qt (qss_one (qs_ret qe_bl)) qss_nil)
      (qss_one (qs_ret (qe_cmp (op_eqD hr.units) rf_eq (qe_comp (own := [("letter", 1)]) (by rfl) S.nd (qi_str (qe_var (pv 0))) (show BlkOk nm_is_label (defScope s_is_label) _ [("letter", 1)] from ⟨rfl, by decide +kernel, by decide +kernel, by decide +kernel, by decide +kernel⟩) ⟨(fun _ _ _ _ _ _ => (qgc_name (pg_name S.nd (i := 1) (by rfl) (by first | exact .inl rfl | exact .inr rfl)))), (fun _ _ _ _ _ _ => (qts_one (qt_cmp (op_notInD (hu_of hr)) rf_in (qe_var (pv 1)) (qe_gStr (by rfl) T.c_LETTERS) (by rfl)))), (fun _ _ _ _ _ _ => (qe_var (pv 1)))⟩) (qe_lst qa_nil) (nomark _)))))
theorem q_is_whole (T : Txt K mg)  (f : Addr) : BodyD P w K mg base nm_is_whole "is_whole" s_is_whole f 0 dl_is_whole := by
  intro cdv A outer s H E F hr
  have S := sc_is_whole
  exact (qss_one (qs_ret (qe_and (qe_isi (T' := "int") (by rfl) T.z_isinstance bb_isinstance (by rfl) T.z_int bb_int (by decide) (qe_var (pv 0))) (qe_and (qe_not (qe_isi (T' := "bool") (by rfl) T.z_isinstance bb_isinstance (by rfl) T.z_bool bb_bool (by decide) (qe_var (pv 0)))) (qe_one (qe_chain op_le rf_le op_le rf_le (qe_var (pv 1)) (qe_var (pv 0)) (qe_var (pv 2))))))))
theorem q_is_sequence (T : Txt K mg)  (f : Addr) : BodyD P w K mg base nm_is_sequence "is_sequence" s_is_sequence f 0 dl_is_sequence := by
  intro cdv A outer s H E F hr
  have S := sc_is_sequence
  exact (qss_one (qs_ret (qe_isi2 (T' := "list") (U' := "tuple") (by rfl) T.z_isinstance bb_isinstance (by rfl) T.z_list bb_list (by decide) (by rfl) T.z_tuple bb_tuple (by decide) (qe_var (pv 0)))))
theorem q__law_label (T : Txt K mg)  (f : Addr) : BodyD P w K mg base nm__law_label "_law_label" s__law_label f 0 dl__law_label := by
  intro cdv A outer s H E F hr
  have S := sc__law_label
  exact (qss_cons (qs_if (qw_or (qt_not (qt_val (qe_isi (T' := "str") (by rfl) T.z_isinstance bb_isinstance (by rfl) T.z_str bb_str (by decide) (qe_var (pv 0))))) (qw_or1 (qt_not (qt_chain op_le rf_le op_le rf_le qe_int (qe_callB Dx.call_lenD rf_len (by rfl) T.z_len bb_len (qa_cons (qe_var (pv 0)) qa_nil)) qe_int)))).qt (qss_one (qs_ret qe_bl)) qss_nil)
      (qss_one (qs_ret (qe_cmp (op_eqD hr.units) rf_eq (qe_comp (own := [("_law_letter", 1)]) (by rfl) S.nd (qi_str (qe_var (pv 0))) (show BlkOk nm__law_label (defScope s__law_label) _ [("_law_letter", 1)] from ⟨rfl, by decide +kernel, by decide +kernel, by decide +kernel, by decide +kernel⟩) ⟨(fun _ _ _ _ _ _ => (qgc_name (pg_name S.nd (i := 1) (by rfl) (by first | exact .inl rfl | exact .inr rfl)))), (fun _ _ _ _ _ _ => (qts_one (qt_cmp (op_notInD (hu_of hr)) rf_in (qe_var (pv 1)) qe_str (by rfl)))), (fun _ _ _ _ _ _ => (qe_var (pv 1)))⟩) (qe_lst qa_nil) (nomark _)))))
theorem q_law (T : Txt K mg) (o__law_hand : OkP P w K mg base 1 "_law_hand" 1 ph__law_hand) (o__law_index : OkH P w K mg base 3 "_law_index" 0 ph__law_index) (o_label_at : OkP P w K mg base 1 "label_at" 1 ph_label_at) (o__law_taken : OkH P w K mg base 4 "_law_taken" 0 ph__law_taken) (o_fresh_labels : OkP P w K mg base 2 "fresh_labels" 2 ph_fresh_labels) (o__law_draw : OkH P w K mg base 2 "_law_draw" 1 ph__law_draw) (o__law_odd : OkH P w K mg base 4 "_law_odd" 0 ph__law_odd) (o__law_label_at : OkP P w K mg base 1 "_law_label_at" 1 ph__law_label_at) (o_is_label : OkP P w K mg base 1 "is_label" 1 ph_is_label) (o_is_whole : OkP P w K mg base 1 "is_whole" 3 ph_is_whole) (o_is_sequence : OkP P w K mg base 1 "is_sequence" 1 ph_is_sequence) (o__law_label : OkP P w K mg base 1 "_law_label" 1 ph__law_label) (cdv : Value) (st0 : Shared) (H : Hp) (f : Addr) (E : XK) (F : Fx) : QSs (cxOf (L2.CX P w) P w K mg base nm_law "law" (defScope s_law) f cdv callerA [] st0 H E) F (WOut E) (defBody s_law).tail dl_law := by
  have hr : Room 60 (callerA.deeper (PyProof.Rows.envOfC "law" (defScope s_law) st0.heap.objs.size f cdv)) := (show Room 61 callerA from ⟨rfl, by decide, by decide⟩).deeper _
  have S := sc_law
  exact (qss_cons (qs_set (ps_set (i := 2) S.nd (by rfl) (by first | exact .inl rfl | exact .inr rfl) (qe_cH o__law_index (hr.mono (by decide)) (by rfl) (takes_of (by rfl) (by rfl) (by rfl) (by rfl)) (pv 1) qa_nil).run))
      (qss_cons (qs_set (ps_set (i := 3) S.nd (by rfl) (by first | exact .inl rfl | exact .inr rfl) (qe_cP o_label_at (hr.mono (by decide)) (by rfl) (takes_of (by rfl) (by rfl) (by rfl) (by rfl)) (qa_cons (qe_var (pv 2)) qa_nil)).run))
      (qss_cons (qs_if (qw_or (qt_not (qt_val (qe_isi (T' := "str") (by rfl) T.z_isinstance bb_isinstance (by rfl) T.z_str bb_str (by decide) (qe_var (pv 3))))) (qw_or (qt_cmp (op_neD hr.units) rf_ne (qe_var (pv 3)) (qe_cP o__law_label_at (hr.mono (by decide)) (by rfl) (takes_of (by rfl) (by rfl) (by rfl) (by rfl)) (qa_cons (qe_var (pv 2)) qa_nil)) (nomark _)) (qw_or1 (qt_cmp op_isNotD rf_is (qe_cP o_is_label (hr.mono (by decide)) (by rfl) (takes_of (by rfl) (by rfl) (by rfl) (by rfl)) (qa_cons (qe_var (pv 3)) qa_nil)) qe_bl (nomark _))))).qt (qss_one (qs_ret qe_bl)) qss_nil)
      (qss_cons (qs_if (qw_and (qt_cmp op_lt rf_lt (qe_var (pv 2)) qe_int (nomark _)) (qw_and1 (qt_cmp (op_neD hr.units) rf_ne (qe_cP o_label_at (hr.mono (by decide)) (by rfl) (takes_of (by rfl) (by rfl) (by rfl) (by rfl)) (qa_cons (qe_op op_addD rf_add (qe_var (pv 2)) qe_int) qa_nil)) (qe_cP o__law_label_at (hr.mono (by decide)) (by rfl) (takes_of (by rfl) (by rfl) (by rfl) (by rfl)) (qa_cons (qe_op op_addD rf_add (qe_var (pv 2)) qe_int) qa_nil)) (nomark _)))).qt (qss_one (qs_ret qe_bl)) qss_nil)
      (qss_cons (qs_if (qw_and (qt_cmp op_gt rf_gt (qe_var (pv 2)) qe_int (nomark _)) (qw_and1 (qt_cmp (op_neD hr.units) rf_ne (qe_cP o_label_at (hr.mono (by decide)) (by rfl) (takes_of (by rfl) (by rfl) (by rfl) (by rfl)) (qa_cons (qe_op op_sub rf_sub (qe_var (pv 2)) qe_int) qa_nil)) (qe_cP o__law_label_at (hr.mono (by decide)) (by rfl) (takes_of (by rfl) (by rfl) (by rfl) (by rfl)) (qa_cons (qe_op op_sub rf_sub (qe_var (pv 2)) qe_int) qa_nil)) (nomark _)))).qt (qss_one (qs_ret qe_bl)) qss_nil)
      (qss_cons (qs_set (ps_set (i := 4) S.nd (by rfl) (by first | exact .inl rfl | exact .inr rfl) (qe_cH o__law_taken (hr.mono (by decide)) (by rfl) (takes_of (by rfl) (by rfl) (by rfl) (by rfl)) (pv 1) qa_nil).run))
      (qss_cons (qs_set (ps_set (i := 5) S.nd (by rfl) (by first | exact .inl rfl | exact .inr rfl) (qe_ifExp (qt_cmp (op_eqD hr.units) rf_eq (qe_cH o__law_draw (hr.mono (by decide)) (by rfl) (takes_of (by rfl) (by rfl) (by rfl) (by rfl)) (pv 1) (qa_cons qe_int qa_nil)) qe_int (nomark _)) qe_int (qe_cH o__law_draw (hr.mono (by decide)) (by rfl) (takes_of (by rfl) (by rfl) (by rfl) (by rfl)) (pv 1) (qa_cons qe_int qa_nil))).run))
      (qss_cons (qs_own (ps_set (i := 6) S.nd (by rfl) (by first | exact .inl rfl | exact .inr rfl) (qn_lst qa_nil).run))
      (qss_cons (qs_for (passes_of (by rfl)) (by rfl) (qi_range1 (by rfl) T.z_range (qa_cons (qe_op op_addD rf_add (qe_var (pv 5)) (qe_callB Dx.call_lenD rf_len (by rfl) T.z_len bb_len (qa_cons (qe_var (pv 4)) qa_nil))) qa_nil)) (qg_name (pg_name S.nd (i := 7) (by rfl) (by first | exact .inl rfl | exact .inr rfl))) (qss_one (qs_if (qw_and (qt_cmp op_lt rf_lt (qe_callBB Dx.call_lenD rf_len (by rfl) T.z_len bb_len (qbs_cons (qb_nm (pv 6)) qbs_nil)) (qe_var (pv 5)) (nomark _)) (qw_and1 (qt_cmp (op_notInD (hu_of hr)) rf_in (qe_cP o__law_label_at (hr.mono (by decide)) (by rfl) (takes_of (by rfl) (by rfl) (by rfl) (by rfl)) (qa_cons (qe_var (pv 7)) qa_nil)) (qe_var (pv 4)) (by rfl)))).qt (qss_one (qs_append (ps_expr (pe_bm PySem.F.plainAttrs_list PySem.F.slot_list_append PySem.F.type_list_append mt_append (pv 6) (pa_cons (qe_cP o__law_label_at (hr.mono (by decide)) (by rfl) (takes_of (by rfl) (by rfl) (by rfl) (by rfl)) (qa_cons (qe_var (pv 7)) qa_nil)).run pa_nil))))) qss_nil)))
      (qss_cons (qs_set (ps_set (i := 8) S.nd (by rfl) (by first | exact .inl rfl | exact .inr rfl) (qe_callT call_list_of rf_list (by rfl) T.z_list bb_list (qa_cons (qe_var (pv 4)) qa_nil)).run))
      (qss_cons (qs_set (ps_set (i := 9) S.nd (by rfl) (by first | exact .inl rfl | exact .inr rfl) (qe_cP o_fresh_labels (hr.mono (by decide)) (by rfl) (takes_of (by rfl) (by rfl) (by rfl) (by rfl)) (qa_cons (qe_ifExp (qt_cmp (op_eqD hr.units) rf_eq (qe_cH o__law_draw (hr.mono (by decide)) (by rfl) (takes_of (by rfl) (by rfl) (by rfl) (by rfl)) (pv 1) (qa_cons qe_int qa_nil)) qe_int (nomark _)) (qe_callT call_tuple_of rf_tuple (by rfl) T.z_tuple bb_tuple (qa_cons (qe_var (pv 4)) qa_nil)) (qe_var (pv 4))) (qa_cons (qe_var (pv 5)) qa_nil))).run))
      (qss_cons (qs_if (qw_or (qt_not (qt_val (qe_isi (T' := "tuple") (by rfl) T.z_isinstance bb_isinstance (by rfl) T.z_tuple bb_tuple (by decide) (qe_var (pv 9))))) (qw_or (qt_cmp (op_neD hr.units) rf_ne (qe_var (pv 9)) (qe_callT call_tuple_of rf_tuple (by rfl) T.z_tuple bb_tuple (qa_cons (qe_var (pv 6)) qa_nil)) (nomark _)) (qw_or1 (qt_cmp (op_neD hr.units) rf_ne (qe_var (pv 4)) (qe_var (pv 8)) (nomark _))))).qt (qss_one (qs_ret qe_bl)) qss_nil)
      (qss_cons (qs_for (passes_of (by rfl)) (by rfl) (qi_range1 (by rfl) T.z_range (qa_cons qe_int qa_nil)) (qg_name (pg_name S.nd (i := 10) (by rfl) (by first | exact .inl rfl | exact .inr rfl))) (qss_cons (qs_set (ps_set (i := 11) S.nd (by rfl) (by first | exact .inl rfl | exact .inr rfl) (qe_cH o__law_odd (hr.mono (by decide)) (by rfl) (takes_of (by rfl) (by rfl) (by rfl) (by rfl)) (pv 1) qa_nil).run))
      (qss_one (qs_if (qt_cmp (op_neD hr.units) rf_ne (qe_callB (call_reprD (by rfl) (room200 hr)) rf_repr (by rfl) T.z_repr bb_repr (qa_cons (qe_tup (qa_cons (qe_cP o_is_label (hr.mono (by decide)) (by rfl) (takes_of (by rfl) (by rfl) (by rfl) (by rfl)) (qa_cons (qe_var (pv 11)) qa_nil)) (qa_cons (qe_cP o_is_sequence (hr.mono (by decide)) (by rfl) (takes_of (by rfl) (by rfl) (by rfl) (by rfl)) (qa_cons (qe_var (pv 11)) qa_nil)) qa_nil))) qa_nil)) (qe_callB (call_reprD (by rfl) (room200 hr)) rf_repr (by rfl) T.z_repr bb_repr (qa_cons (qe_tup (qa_cons (qe_cP o__law_label (hr.mono (by decide)) (by rfl) (takes_of (by rfl) (by rfl) (by rfl) (by rfl)) (qa_cons (qe_var (pv 11)) qa_nil)) (qa_cons (qe_isi2 (T' := "list") (U' := "tuple") (by rfl) T.z_isinstance bb_isinstance (by rfl) T.z_list bb_list (by decide) (by rfl) T.z_tuple bb_tuple (by decide) (qe_var (pv 11))) qa_nil))) qa_nil)) (nomark _)) (qss_one (qs_ret qe_bl)) qss_nil))))
      (qss_cons (qs_set (ps_set (i := 12) S.nd (by rfl) (by first | exact .inl rfl | exact .inr rfl) (qe_op op_sub rf_sub (qe_cH o__law_draw (hr.mono (by decide)) (by rfl) (takes_of (by rfl) (by rfl) (by rfl) (by rfl)) (pv 1) (qa_cons (qe_op op_pow rf_pow qe_int qe_int) qa_nil)) qe_int).run))
      (qss_cons (qs_set (ps_set (i := 13) S.nd (by rfl) (by first | exact .inl rfl | exact .inr rfl) (qe_op op_addD rf_add (qe_var (pv 12)) (qe_cH o__law_draw (hr.mono (by decide)) (by rfl) (takes_of (by rfl) (by rfl) (by rfl) (by rfl)) (pv 1) (qa_cons (qe_op op_pow rf_pow qe_int qe_int) qa_nil))).run))
      (qss_cons (qs_set (ps_set (i := 14) S.nd (by rfl) (by first | exact .inl rfl | exact .inr rfl) (qe_op op_addD rf_add (qe_var (pv 12)) (qe_cH o__law_draw (hr.mono (by decide)) (by rfl) (takes_of (by rfl) (by rfl) (by rfl) (by rfl)) (pv 1) (qa_cons (qe_op op_addD rf_add (qe_op op_sub rf_sub (qe_var (pv 13)) (qe_var (pv 12))) qe_int) qa_nil))).run))
      (qss_cons (qs_for (passes_of (by rfl)) (by rfl) (qi_list (qe_lst (qa_cons (qe_var (pv 12)) (qa_cons (qe_var (pv 13)) (qa_cons (qe_var (pv 14)) qa_nil))))) (qg_name (pg_name S.nd (i := 15) (by rfl) (by first | exact .inl rfl | exact .inr rfl))) (qss_one (qs_if (qt_cmp op_isNotD rf_is (qe_cP o_is_whole (hr.mono (by decide)) (by rfl) (takes_of (by rfl) (by rfl) (by rfl) (by rfl)) (qa_cons (qe_var (pv 15)) (qa_cons (qe_var (pv 12)) (qa_cons (qe_var (pv 13)) qa_nil)))) qe_bl (nomark _)) (qss_one (qs_ret qe_bl)) qss_nil)))
      (qss_cons (qs_for (passes_of (by rfl)) (by rfl) (qi_list (qe_lst (qa_cons (qe_op op_sub rf_sub (qe_var (pv 12)) qe_int) (qa_cons (qe_op op_addD rf_add (qe_var (pv 13)) qe_int) (qa_cons qe_non (qa_cons (qe_callT call_str_int rf_strI (by rfl) T.z_str bb_str (qa_cons (qe_var (pv 14)) qa_nil)) (qa_cons (qe_lst (qa_cons (qe_var (pv 14)) qa_nil)) (qa_cons (qe_tup (qa_cons (qe_var (pv 14)) qa_nil)) qa_nil)))))))) (qg_name (pg_name S.nd (i := 15) (by rfl) (by first | exact .inl rfl | exact .inr rfl))) (qss_one (qs_if (qt_cmp op_isNotD rf_is (qe_cP o_is_whole (hr.mono (by decide)) (by rfl) (takes_of (by rfl) (by rfl) (by rfl) (by rfl)) (qa_cons (qe_var (pv 15)) (qa_cons (qe_var (pv 12)) (qa_cons (qe_var (pv 13)) qa_nil)))) qe_bl (nomark _)) (qss_one (qs_ret qe_bl)) qss_nil)))
      (qss_one (qs_ret (qe_and (qe_cmp op_isD rf_is (qe_cP o_is_whole (hr.mono (by decide)) (by rfl) (takes_of (by rfl) (by rfl) (by rfl) (by rfl)) (qa_cons qe_bl (qa_cons qe_int (qa_cons qe_int qa_nil)))) qe_bl (nomark _)) (qe_and (qe_cmp op_isD rf_is (qe_cP o_is_whole (hr.mono (by decide)) (by rfl) (takes_of (by rfl) (by rfl) (by rfl) (by rfl)) (qa_cons qe_bl (qa_cons qe_int (qa_cons qe_int qa_nil)))) qe_bl (nomark _)) (qe_and (qe_cmp op_isD rf_is (qe_cP o_is_whole (hr.mono (by decide)) (by rfl) (takes_of (by rfl) (by rfl) (by rfl) (by rfl)) (qa_cons qe_int (qa_cons qe_int (qa_cons qe_int qa_nil)))) qe_bl (nomark _)) (qe_one (qe_cmp op_isD rf_is (qe_cP o_is_whole (hr.mono (by decide)) (by rfl) (takes_of (by rfl) (by rfl) (by rfl) (by rfl)) (qa_cons (qe_var (pv 12)) (qa_cons (qe_var (pv 12)) (qa_cons (qe_var (pv 12)) qa_nil)))) qe_bl (nomark _))))))))))))))))))))))))))
theorem q_law0 (o__law_hand : OkP P w K mg base 1 "_law_hand" 1 ph__law_hand) (cdv : Value) (st0 : Shared) (H : Hp) (f : Addr) (E : XK) (F : Fx) : QS (cxOf (L2.CX P w) P w K mg base nm_law "law" (defScope s_law) f cdv callerA [] st0 H E) F (WOut E) ((defBody s_law).headD (.Pass ⟨0, 0, 0, 0⟩)) dHand := by
  have hr : Room 60 (callerA.deeper (PyProof.Rows.envOfC "law" (defScope s_law) st0.heap.objs.size f cdv)) := (show Room 61 callerA from ⟨rfl, by decide, by decide⟩).deeper _
  have S := sc_law
  exact (qs_own (ps_set (i := 1) S.nd (by rfl) (by first | exact .inl rfl | exact .inr rfl) (qn_cP o__law_hand (hr.mono (by decide)) (by rfl) (takes_of (by rfl) (by rfl) (by rfl) (by rfl)) (qa_cons (qe_var (pv 0)) qa_nil)).run))
end
end Ka
namespace Ka
open PySem L2 Dx
theorem all_mk (U : Pure) {l : PySem.W.OpenLaw} {w : World} {K : Fg} {h : Heap} {mg : Str → Option Value} {fa : Addr} (X : K.In h) (G : h.Ns mainGlobals mg) (hfa : mg "law" = some (.ref fa))
    {f0 : Addr} {od0 an0 : Option Addr} {sl0 : Array (Option Value)} {oc0 kV0 dc0 pm0 cv0 ct0 : Value}
    {f1 : Addr} {od1 an1 : Option Addr} {sl1 : Array (Option Value)} {oc1 kV1 dc1 pm1 cv1 ct1 : Value}
    {f2 : Addr} {od2 an2 : Option Addr} {sl2 : Array (Option Value)} {oc2 kV2 dc2 pm2 cv2 ct2 : Value}
    {f3 : Addr} {od3 an3 : Option Addr} {sl3 : Array (Option Value)} {oc3 kV3 dc3 pm3 cv3 ct3 : Value}
    {f4 : Addr} {od4 an4 : Option Addr} {sl4 : Array (Option Value)} {oc4 kV4 dc4 pm4 cv4 ct4 : Value}
    {f5 : Addr} {od5 an5 : Option Addr} {sl5 : Array (Option Value)} {oc5 kV5 dc5 pm5 cv5 ct5 : Value}
    {f6 : Addr} {od6 an6 : Option Addr} {sl6 : Array (Option Value)} {oc6 kV6 dc6 pm6 cv6 ct6 : Value}
    {f7 : Addr} {od7 an7 : Option Addr} {sl7 : Array (Option Value)} {oc7 kV7 dc7 pm7 cv7 ct7 : Value}
    {f8 : Addr} {od8 an8 : Option Addr} {sl8 : Array (Option Value)} {oc8 kV8 dc8 pm8 cv8 ct8 : Value}
    {f9 : Addr} {od9 an9 : Option Addr} {sl9 : Array (Option Value)} {oc9 kV9 dc9 pm9 cv9 ct9 : Value}
    {f10 : Addr} {od10 an10 : Option Addr} {sl10 : Array (Option Value)} {oc10 kV10 dc10 pm10 cv10 ct10 : Value}
    {f11 : Addr} {od11 an11 : Option Addr} {sl11 : Array (Option Value)} {oc11 kV11 dc11 pm11 cv11 ct11 : Value}
    {f12 : Addr} {od12 an12 : Option Addr} {sl12 : Array (Option Value)} {oc12 kV12 dc12 pm12 cv12 ct12 : Value}
    {f13 : Addr} {od13 an13 : Option Addr} {sl13 : Array (Option Value)} {oc13 kV13 dc13 pm13 cv13 ct13 : Value}
    {f14 : Addr} {od14 an14 : Option Addr} {sl14 : Array (Option Value)} {oc14 kV14 dc14 pm14 cv14 ct14 : Value}
    {f15 : Addr} {od15 an15 : Option Addr} {sl15 : Array (Option Value)} {oc15 kV15 dc15 pm15 cv15 ct15 : Value}
    {tk_LETTERS : Tok}
    {tk_MOST_LETTERS : Tok}
    (a0 : PySem.W.nsIn K mainGlobals "_law_hand" = some (some (.ref f0))) (l0 : K.lookup f0 = some ⟨oc0, od0, .func (PySem.W.fnOf "_law_hand" "_law_hand" (defArgs s__law_hand) (defBody s__law_hand) (defScope s__law_hand) .none kV0 dc0 pm0 an0 cv0 ct0), sl0⟩) (c0 : PySem.W.codeIn K cv0 "_law_hand" = true) (k0 : PySem.W.keepIn K (.ref f0) = true)
    (a1 : PySem.W.nsIn K mainGlobals "_law_mix" = some (some (.ref f1))) (l1 : K.lookup f1 = some ⟨oc1, od1, .func (PySem.W.fnOf "_law_mix" "_law_mix" (defArgs s__law_mix) (defBody s__law_mix) (defScope s__law_mix) .none kV1 dc1 pm1 an1 cv1 ct1), sl1⟩) (c1 : PySem.W.codeIn K cv1 "_law_mix" = true) (k1 : PySem.W.keepIn K (.ref f1) = true)
    (a2 : PySem.W.nsIn K mainGlobals "_law_draw" = some (some (.ref f2))) (l2 : K.lookup f2 = some ⟨oc2, od2, .func (PySem.W.fnOf "_law_draw" "_law_draw" (defArgs s__law_draw) (defBody s__law_draw) (defScope s__law_draw) .none kV2 dc2 pm2 an2 cv2 ct2), sl2⟩) (c2 : PySem.W.codeIn K cv2 "_law_draw" = true) (k2 : PySem.W.keepIn K (.ref f2) = true)
    (a3 : PySem.W.nsIn K mainGlobals "_law_index" = some (some (.ref f3))) (l3 : K.lookup f3 = some ⟨oc3, od3, .func (PySem.W.fnOf "_law_index" "_law_index" (defArgs s__law_index) (defBody s__law_index) (defScope s__law_index) .none kV3 dc3 pm3 an3 cv3 ct3), sl3⟩) (c3 : PySem.W.codeIn K cv3 "_law_index" = true) (k3 : PySem.W.keepIn K (.ref f3) = true)
    (a4 : PySem.W.nsIn K mainGlobals "label_at" = some (some (.ref f4))) (l4 : K.lookup f4 = some ⟨oc4, od4, .func (PySem.W.fnOf "label_at" "label_at" (defArgs s_label_at) (defBody s_label_at) (defScope s_label_at) .none kV4 dc4 pm4 an4 cv4 ct4), sl4⟩) (c4 : PySem.W.codeIn K cv4 "label_at" = true) (k4 : PySem.W.keepIn K (.ref f4) = true)
    (a5 : PySem.W.nsIn K mainGlobals "_law_word" = some (some (.ref f5))) (l5 : K.lookup f5 = some ⟨oc5, od5, .func (PySem.W.fnOf "_law_word" "_law_word" (defArgs s__law_word) (defBody s__law_word) (defScope s__law_word) .none kV5 dc5 pm5 an5 cv5 ct5), sl5⟩) (c5 : PySem.W.codeIn K cv5 "_law_word" = true) (k5 : PySem.W.keepIn K (.ref f5) = true)
    (a6 : PySem.W.nsIn K mainGlobals "_law_one" = some (some (.ref f6))) (l6 : K.lookup f6 = some ⟨oc6, od6, .func (PySem.W.fnOf "_law_one" "_law_one" (defArgs s__law_one) (defBody s__law_one) (defScope s__law_one) .none kV6 dc6 pm6 an6 cv6 ct6), sl6⟩) (c6 : PySem.W.codeIn K cv6 "_law_one" = true) (k6 : PySem.W.keepIn K (.ref f6) = true)
    (a7 : PySem.W.nsIn K mainGlobals "_law_label_at" = some (some (.ref f7))) (l7 : K.lookup f7 = some ⟨oc7, od7, .func (PySem.W.fnOf "_law_label_at" "_law_label_at" (defArgs s__law_label_at) (defBody s__law_label_at) (defScope s__law_label_at) .none kV7 dc7 pm7 an7 cv7 ct7), sl7⟩) (c7 : PySem.W.codeIn K cv7 "_law_label_at" = true) (k7 : PySem.W.keepIn K (.ref f7) = true)
    (a8 : PySem.W.nsIn K mainGlobals "_law_taken" = some (some (.ref f8))) (l8 : K.lookup f8 = some ⟨oc8, od8, .func (PySem.W.fnOf "_law_taken" "_law_taken" (defArgs s__law_taken) (defBody s__law_taken) (defScope s__law_taken) .none kV8 dc8 pm8 an8 cv8 ct8), sl8⟩) (c8 : PySem.W.codeIn K cv8 "_law_taken" = true) (k8 : PySem.W.keepIn K (.ref f8) = true)
    (a9 : PySem.W.nsIn K mainGlobals "fresh_labels" = some (some (.ref f9))) (l9 : K.lookup f9 = some ⟨oc9, od9, .func (PySem.W.fnOf "fresh_labels" "fresh_labels" (defArgs s_fresh_labels) (defBody s_fresh_labels) (defScope s_fresh_labels) .none kV9 dc9 pm9 an9 cv9 ct9), sl9⟩) (c9 : PySem.W.codeIn K cv9 "fresh_labels" = true) (k9 : PySem.W.keepIn K (.ref f9) = true)
    (a10 : PySem.W.nsIn K mainGlobals "_law_odd" = some (some (.ref f10))) (l10 : K.lookup f10 = some ⟨oc10, od10, .func (PySem.W.fnOf "_law_odd" "_law_odd" (defArgs s__law_odd) (defBody s__law_odd) (defScope s__law_odd) .none kV10 dc10 pm10 an10 cv10 ct10), sl10⟩) (c10 : PySem.W.codeIn K cv10 "_law_odd" = true) (k10 : PySem.W.keepIn K (.ref f10) = true)
    (a11 : PySem.W.nsIn K mainGlobals "is_label" = some (some (.ref f11))) (l11 : K.lookup f11 = some ⟨oc11, od11, .func (PySem.W.fnOf "is_label" "is_label" (defArgs s_is_label) (defBody s_is_label) (defScope s_is_label) .none kV11 dc11 pm11 an11 cv11 ct11), sl11⟩) (c11 : PySem.W.codeIn K cv11 "is_label" = true) (k11 : PySem.W.keepIn K (.ref f11) = true)
    (a12 : PySem.W.nsIn K mainGlobals "is_whole" = some (some (.ref f12))) (l12 : K.lookup f12 = some ⟨oc12, od12, .func (PySem.W.fnOf "is_whole" "is_whole" (defArgs s_is_whole) (defBody s_is_whole) (defScope s_is_whole) .none kV12 dc12 pm12 an12 cv12 ct12), sl12⟩) (c12 : PySem.W.codeIn K cv12 "is_whole" = true) (k12 : PySem.W.keepIn K (.ref f12) = true)
    (a13 : PySem.W.nsIn K mainGlobals "is_sequence" = some (some (.ref f13))) (l13 : K.lookup f13 = some ⟨oc13, od13, .func (PySem.W.fnOf "is_sequence" "is_sequence" (defArgs s_is_sequence) (defBody s_is_sequence) (defScope s_is_sequence) .none kV13 dc13 pm13 an13 cv13 ct13), sl13⟩) (c13 : PySem.W.codeIn K cv13 "is_sequence" = true) (k13 : PySem.W.keepIn K (.ref f13) = true)
    (a14 : PySem.W.nsIn K mainGlobals "_law_label" = some (some (.ref f14))) (l14 : K.lookup f14 = some ⟨oc14, od14, .func (PySem.W.fnOf "_law_label" "_law_label" (defArgs s__law_label) (defBody s__law_label) (defScope s__law_label) .none kV14 dc14 pm14 an14 cv14 ct14), sl14⟩) (c14 : PySem.W.codeIn K cv14 "_law_label" = true) (k14 : PySem.W.keepIn K (.ref f14) = true)
    (a15 : PySem.W.nsIn K mainGlobals "law" = some (some (.ref f15))) (l15 : K.lookup f15 = some ⟨oc15, od15, .func (PySem.W.fnOf "law" "law" (defArgs s_law) (defBody s_law) (defScope s_law) .none kV15 dc15 pm15 an15 cv15 ct15), sl15⟩) (c15 : PySem.W.codeIn K cv15 "law" = true) (k15 : PySem.W.keepIn K (.ref f15) = true)
    (z_abs : PySem.W.nsIn K mainGlobals "abs" = some none)
    (z_bool : PySem.W.nsIn K mainGlobals "bool" = some none)
    (z_divmod : PySem.W.nsIn K mainGlobals "divmod" = some none)
    (z_enumerate : PySem.W.nsIn K mainGlobals "enumerate" = some none)
    (z_int : PySem.W.nsIn K mainGlobals "int" = some none)
    (z_isinstance : PySem.W.nsIn K mainGlobals "isinstance" = some none)
    (z_len : PySem.W.nsIn K mainGlobals "len" = some none)
    (z_list : PySem.W.nsIn K mainGlobals "list" = some none)
    (z_range : PySem.W.nsIn K mainGlobals "range" = some none)
    (z_repr : PySem.W.nsIn K mainGlobals "repr" = some none)
    (z_str : PySem.W.nsIn K mainGlobals "str" = some none)
    (z_tuple : PySem.W.nsIn K mainGlobals "tuple" = some none)
    (e_LETTERS : PySem.W.nsIn K mainGlobals "LETTERS" = some (some (.str "abcdefghijklmnopqrstuvwxyz" tk_LETTERS)))
    (e_MOST_LETTERS : PySem.W.nsIn K mainGlobals "MOST_LETTERS" = some (some (.int 6 tk_MOST_LETTERS))) :
    ∃ fd : FuncData, (∀ (s : Shared) (v : Value), BindsTo s fd ⟨[v], []⟩ [("_law_script", v)]) ∧ ∀ base : Heap, K.In base → base.Ns mainGlobals mg → LawAt l.prog w K mg base fa fd "_law_script" (spLaw K) := by
  have ee := hfa.symm.trans (PySem.W.mg_of X G a15)
  cases ee
  have T : Txt K mg := ⟨⟨⟨_, _, fun_mk (st := s__law_hand) l0 c0 k0, (fun_mk (st := s__law_hand) l0 c0 k0).binds (fun _ _ _ _ _ _ us hl => match us, hl with | [_], _ => rfl), PySem.W.mg_of X G a0⟩⟩,
    ⟨⟨_, _, fun_mk (st := s__law_mix) l1 c1 k1, (fun_mk (st := s__law_mix) l1 c1 k1).binds (fun _ _ _ _ _ _ us hl => match us, hl with | [_, _], _ => rfl), PySem.W.mg_of X G a1⟩⟩,
    ⟨⟨_, _, fun_mk (st := s__law_draw) l2 c2 k2, (fun_mk (st := s__law_draw) l2 c2 k2).binds (fun _ _ _ _ _ _ us hl => match us, hl with | [_, _], _ => rfl), PySem.W.mg_of X G a2⟩⟩,
    ⟨⟨_, _, fun_mk (st := s__law_index) l3 c3 k3, (fun_mk (st := s__law_index) l3 c3 k3).binds (fun _ _ _ _ _ _ us hl => match us, hl with | [_], _ => rfl), PySem.W.mg_of X G a3⟩⟩,
    ⟨⟨_, _, fun_mk (st := s_label_at) l4 c4 k4, (fun_mk (st := s_label_at) l4 c4 k4).binds (fun _ _ _ _ _ _ us hl => match us, hl with | [_], _ => rfl), PySem.W.mg_of X G a4⟩⟩,
    ⟨⟨_, _, fun_mk (st := s__law_word) l5 c5 k5, (fun_mk (st := s__law_word) l5 c5 k5).binds (fun _ _ _ _ _ _ us hl => match us, hl with | [_, _], _ => rfl), PySem.W.mg_of X G a5⟩⟩,
    ⟨⟨_, _, fun_mk (st := s__law_one) l6 c6 k6, (fun_mk (st := s__law_one) l6 c6 k6).binds (fun _ _ _ _ _ _ us hl => match us, hl with | [_, _], _ => rfl), PySem.W.mg_of X G a6⟩⟩,
    ⟨⟨_, _, fun_mk (st := s__law_label_at) l7 c7 k7, (fun_mk (st := s__law_label_at) l7 c7 k7).binds (fun _ _ _ _ _ _ us hl => match us, hl with | [_], _ => rfl), PySem.W.mg_of X G a7⟩⟩,
    ⟨⟨_, _, fun_mk (st := s__law_taken) l8 c8 k8, (fun_mk (st := s__law_taken) l8 c8 k8).binds (fun _ _ _ _ _ _ us hl => match us, hl with | [_], _ => rfl), PySem.W.mg_of X G a8⟩⟩,
    ⟨⟨_, _, fun_mk (st := s_fresh_labels) l9 c9 k9, (fun_mk (st := s_fresh_labels) l9 c9 k9).binds (fun _ _ _ _ _ _ us hl => match us, hl with | [_, _], _ => rfl), PySem.W.mg_of X G a9⟩⟩,
    ⟨⟨_, _, fun_mk (st := s__law_odd) l10 c10 k10, (fun_mk (st := s__law_odd) l10 c10 k10).binds (fun _ _ _ _ _ _ us hl => match us, hl with | [_], _ => rfl), PySem.W.mg_of X G a10⟩⟩,
    ⟨⟨_, _, fun_mk (st := s_is_label) l11 c11 k11, (fun_mk (st := s_is_label) l11 c11 k11).binds (fun _ _ _ _ _ _ us hl => match us, hl with | [_], _ => rfl), PySem.W.mg_of X G a11⟩⟩,
    ⟨⟨_, _, fun_mk (st := s_is_whole) l12 c12 k12, (fun_mk (st := s_is_whole) l12 c12 k12).binds (fun _ _ _ _ _ _ us hl => match us, hl with | [_, _, _], _ => rfl), PySem.W.mg_of X G a12⟩⟩,
    ⟨⟨_, _, fun_mk (st := s_is_sequence) l13 c13 k13, (fun_mk (st := s_is_sequence) l13 c13 k13).binds (fun _ _ _ _ _ _ us hl => match us, hl with | [_], _ => rfl), PySem.W.mg_of X G a13⟩⟩,
    ⟨⟨_, _, fun_mk (st := s__law_label) l14 c14 k14, (fun_mk (st := s__law_label) l14 c14 k14).binds (fun _ _ _ _ _ _ us hl => match us, hl with | [_], _ => rfl), PySem.W.mg_of X G a14⟩⟩,
    PySem.W.mg_none_of X G z_abs,
    PySem.W.mg_none_of X G z_bool,
    PySem.W.mg_none_of X G z_divmod,
    PySem.W.mg_none_of X G z_enumerate,
    PySem.W.mg_none_of X G z_int,
    PySem.W.mg_none_of X G z_isinstance,
    PySem.W.mg_none_of X G z_len,
    PySem.W.mg_none_of X G z_list,
    PySem.W.mg_none_of X G z_range,
    PySem.W.mg_none_of X G z_repr,
    PySem.W.mg_none_of X G z_str,
    PySem.W.mg_none_of X G z_tuple,
    ⟨_, PySem.W.mg_of X G e_LETTERS⟩,
    ⟨_, PySem.W.mg_of X G e_MOST_LETTERS⟩⟩
  refine ⟨PySem.W.fnOf "law" "law" (defArgs s_law) (defBody s_law) (defScope s_law) .none kV15 dc15 pm15 an15 cv15 ct15, fun s v => .of_eq rfl, fun base _ _ => ?_⟩
  have o__law_hand : OkP l.prog w K mg base 1 "_law_hand" 1 ph__law_hand := okP_of T.d__law_hand sc__law_hand rfl (q__law_hand T ) U.p__law_hand
  have o__law_mix : OkP l.prog w K mg base 1 "_law_mix" 2 ph__law_mix := okP_of T.d__law_mix sc__law_mix rfl (q__law_mix T ) U.p__law_mix
  have o__law_draw : OkH l.prog w K mg base 2 "_law_draw" 1 ph__law_draw := ok__law_draw T o__law_mix
  have o__law_index : OkH l.prog w K mg base 3 "_law_index" 0 ph__law_index := okH_of T.d__law_index sc__law_index rfl (q__law_index T o__law_draw) U.p__law_index
  have o_label_at : OkP l.prog w K mg base 1 "label_at" 1 ph_label_at := okP_of T.d_label_at sc_label_at rfl (q_label_at T ) U.p_label_at
  have o__law_word : OkH l.prog w K mg base 3 "_law_word" 1 ph__law_word := okH_of T.d__law_word sc__law_word rfl (q__law_word T o__law_draw) U.p__law_word
  have o__law_one : OkH l.prog w K mg base 3 "_law_one" 1 ph__law_one := okH_of T.d__law_one sc__law_one rfl (q__law_one T o__law_draw) U.p__law_one
  have o__law_label_at : OkP l.prog w K mg base 1 "_law_label_at" 1 ph__law_label_at := okP_of T.d__law_label_at sc__law_label_at rfl (q__law_label_at T ) U.p__law_label_at
  have o__law_taken : OkH l.prog w K mg base 4 "_law_taken" 0 ph__law_taken := okH_of T.d__law_taken sc__law_taken rfl (q__law_taken T o__law_draw o__law_word o__law_one o__law_label_at) U.p__law_taken
  have o_fresh_labels : OkP l.prog w K mg base 2 "fresh_labels" 2 ph_fresh_labels := okP_of T.d_fresh_labels sc_fresh_labels rfl (q_fresh_labels T o_label_at) U.p_fresh_labels
  have o__law_odd : OkH l.prog w K mg base 4 "_law_odd" 0 ph__law_odd := okH_of T.d__law_odd sc__law_odd rfl (q__law_odd T o__law_word o__law_one) U.p__law_odd
  have o_is_label : OkP l.prog w K mg base 1 "is_label" 1 ph_is_label := okP_of T.d_is_label sc_is_label rfl (q_is_label T ) U.p_is_label
  have o_is_whole : OkP l.prog w K mg base 1 "is_whole" 3 ph_is_whole := okP_of T.d_is_whole sc_is_whole rfl (q_is_whole T ) U.p_is_whole
  have o_is_sequence : OkP l.prog w K mg base 1 "is_sequence" 1 ph_is_sequence := okP_of T.d_is_sequence sc_is_sequence rfl (q_is_sequence T ) U.p_is_sequence
  have o__law_label : OkP l.prog w K mg base 1 "_law_label" 1 ph__law_label := okP_of T.d__law_label sc__law_label rfl (q__law_label T ) U.p__law_label
  exact law_hand (fun_mk (st := s_law) l15 c15 k15) sc_law (by decide) (s1 := (defBody s_law).headD (.Pass ⟨0, 0, 0, 0⟩)) (rest := (defBody s_law).tail) rfl (fun cdv st0 H E F => q_law0 o__law_hand cdv st0 H _ E F) (fun cdv st0 H E F => q_law T o__law_hand o__law_index o_label_at o__law_taken o_fresh_labels o__law_draw o__law_odd o__law_label_at o_is_label o_is_whole o_is_sequence o__law_label cdv st0 H _ E F) U.p_law
theorem walk (U : Pure) {l : PySem.W.OpenLaw} {q : Program} {loose : List Str} {XP : (Str → Option Value) → Heap → Prop} {YP : World → Heap → Prop} {d : DefRec} {K : Params → Fg} (hn : l.most = some 63) (hdf : d.params.defaults = [])
    (hY : ∀ (w : World) (h : Heap), YP w h → (K w.params).In h)
    (Fo : ∀ (w : World) (mg : Str → Option Value) (fa : Addr) (h : Heap), (K w.params).In h → h.Ns mainGlobals mg → mg d.name = some (.ref fa) →
      ∃ fd : FuncData, (∀ (s : Shared) (u : Value), BindsTo s fd ⟨[u], []⟩ [("_law_script", u)]) ∧ ∀ base : Heap, (K w.params).In base → base.Ns mainGlobals mg → LawAt l.prog w (K w.params) mg base fa fd "_law_script" (spLaw (K w.params))) :
    PySem.W.WalkO q loose XP YP l.row.toRowW d [] (fun f vs => PySem.call f vs) :=
  walk_here (sp := spLaw) (x := "_law_script") hn (by decide) hdf hY Fo fun _ _ a ns hl hS => ⟨a, ns, rfl, hl, hS, fun _ => rfl⟩
end Ka
namespace Ka
open PySem L2 Dx
theorem p_is_sequence (ds : List D) (Q : Ret → Prop) (QE : D → Prop) (hl : ds.length = 1) (h : ph_is_sequence ds Q QE) : dl_is_sequence (endsD Q QE) (startD nm_is_sequence ds) := by
  obtain ⟨d, rfl, hd, h⟩ := h
  show d.isObj = false ∧ Q (.val (.bl (subTy d.ty "list" || subTy d.ty "tuple")))
  refine ⟨hd, ?_⟩
  cases d <;> first | (cases hd; done) | exact h
theorem p_is_whole (ds : List D) (Q : Ret → Prop) (QE : D → Prop) (hl : ds.length = 3) (h : ph_is_whole ds Q QE) : dl_is_whole (endsD Q QE) (startD nm_is_whole ds) := by
  obtain ⟨d, lo, hi, rfl, hd, h⟩ := h
  cases d <;> first | (cases hd; done) | (simp [dl_is_whole, startD, nm_is_whole, dAsg, dOwn, dC, dVar, dOp, dUn, dCl, dClB, dOpB, dBs, dCons, dNil, dTup, dLst, dIf, dAnd, dOr, dNot, dAndV, dOrV, dNotV, dTest, dChain, dCond, dRet, dRetO, dRetN, dRetOwn, dNext, dDrop, dCall, dCallN, dCallB, dCallH, dCallHN, hName, hTup_tup, hCons_cons, hNil_nil, dItems, dRange1, dRange2, dEnum, dAltI, dAppend, dPopAt, dPop, dSetIx, dPutK, dIxB, dListB, dSl, dPart, dNoPart, dDisp1, dFor, dComp, dYes, oAdd, oSub, oMod, oFdiv, oPow, oLt, oLe, oGt, oGe, oMul, oNeg, oI, oI0, oEq, oNe, oIn, oIs, oIx, oLen, oInt, oI1, oAbs, oI2, oDivmod, oList, oTuple, oUpper, oIsi, oIsi2, Sl.own, peek, isLst, lstOf, isDic, keysOf, valsOf, D.flat, D.isObj, D.ty, subTy, D.isN, dq_int, dq_bl, dq_bi, dq_ib, dq_str, dq_non, dq_lst, dq_tup, dq_nil, dq_cons, asLst, asTup, asStr, asSeq, Ret.d, endsD, Slot.hid, unsets, phDraw, plain_int, plain_bl, plain_non, List.getElem?_cons_zero, List.getElem?_cons_succ, List.set_cons_zero, List.set_cons_succ]; done) | skip
  all_goals simp [dl_is_whole, startD, nm_is_whole, dAsg, dOwn, dC, dVar, dOp, dUn, dCl, dClB, dOpB, dBs, dCons, dNil, dTup, dLst, dIf, dAnd, dOr, dNot, dAndV, dOrV, dNotV, dTest, dChain, dCond, dRet, dRetO, dRetN, dRetOwn, dNext, dDrop, dCall, dCallN, dCallB, dCallH, dCallHN, hName, hTup_tup, hCons_cons, hNil_nil, dItems, dRange1, dRange2, dEnum, dAltI, dAppend, dPopAt, dPop, dSetIx, dPutK, dIxB, dListB, dSl, dPart, dNoPart, dDisp1, dFor, dComp, dYes, oAdd, oSub, oMod, oFdiv, oPow, oLt, oLe, oGt, oGe, oMul, oNeg, oI, oI0, oEq, oNe, oIn, oIs, oIx, oLen, oInt, oI1, oAbs, oI2, oDivmod, oList, oTuple, oUpper, oIsi, oIsi2, Sl.own, peek, isLst, lstOf, isDic, keysOf, valsOf, D.flat, D.isObj, D.ty, subTy, D.isN, dq_int, dq_bl, dq_bi, dq_ib, dq_str, dq_non, dq_lst, dq_tup, dq_nil, dq_cons, asLst, asTup, asStr, asSeq, Ret.d, endsD, Slot.hid, unsets, phDraw, plain_int, plain_bl, plain_non, List.getElem?_cons_zero, List.getElem?_cons_succ, List.set_cons_zero, List.set_cons_succ]
  all_goals try exact h
  rename_i i
  unfold isWh at h
  by_cases hc : lo ≤ i
  · rw [if_pos hc]; simpa [hc] using h
  · rw [if_neg hc]; simpa [hc] using h
theorem p__law_mix (ds : List D) (Q : Ret → Prop) (QE : D → Prop) (hl : ds.length = 2) (h : phMix ds Q QE) : dl__law_mix (endsD Q QE) (startD nm__law_mix ds) := by
  obtain ⟨a, b, rfl, a0, a1, b0, b1, h⟩ := h
  simp [dl__law_mix, startD, nm__law_mix, dSeq, dAsg, dOwn, dC, dVar, dOp, dUn, dCl, dClB, dOpB, dBs, dCons, dNil, dTup, dLst, dIf, dAnd, dOr, dNot, dAndV, dOrV, dNotV, dTest, dChain, dCond, dRet, dRetO, dRetN, dRetOwn, dNext, dDrop, dCall, dCallN, dCallB, dCallH, dCallHN, hName, hTup_tup, hCons_cons, hNil_nil, dItems, dRange1, dRange2, dEnum, dAltI, dAppend, dPopAt, dPop, dSetIx, dPutK, dIxB, dListB, dSl, dPart, dNoPart, dDisp1, dFor, dComp, dYes, oAdd, oSub, oMod, oFdiv, oPow, oLt, oLe, oGt, oGe, oMul, oNeg, oI, oI0, oEq, oNe, oIn, oIs, oIx, oLen, oInt, oI1, oAbs, oI2, oDivmod, oList, oTuple, oUpper, oIsi, oIsi2, Sl.own, peek, isLst, lstOf, isDic, keysOf, valsOf, D.flat, D.isObj, D.ty, subTy, D.isN, dq_int, dq_bl, dq_bi, dq_ib, dq_str, dq_non, dq_lst, dq_tup, dq_nil, dq_cons, asLst, asTup, asStr, asSeq, Ret.d, endsD, Slot.hid, unsets, phDraw, plain_int, plain_bl, plain_non, List.getElem?_cons_zero, List.getElem?_cons_succ, List.set_cons_zero, List.set_cons_succ]
  have p0 : 0 ≤ (a * 48271 + b * 16807 + 11) % 2147483647 := Int.emod_nonneg _ (by decide)
  have p1 : (a * 48271 + b * 16807 + 11) % 2147483647 < 2147483647 := Int.emod_lt_of_pos _ (by decide)
  generalize (a * 48271 + b * 16807 + 11) % 2147483647 = p at *
  have q0 : 0 ≤ (p * p + p / 127 * 40692 + b * 69621) % 2147483399 := Int.emod_nonneg _ (by decide)
  have q1 : (p * p + p / 127 * 40692 + b * 69621) % 2147483399 < 2147483399 := Int.emod_lt_of_pos _ (by decide)
  generalize (p * p + p / 127 * 40692 + b * 69621) % 2147483399 = q at *
  exact ⟨mul64r (by decide) (by decide), mul64r (by decide) (by decide), mul64l p0 (by omega), divW (by decide) (by decide), mul64r (by decide) (by decide), mul64r (by decide) (by decide), mul64l q0 (by omega), divW (by decide) (by decide), divW (by decide) (by decide),
    h _ (Int.ediv_nonneg (Int.emod_nonneg _ (by decide)) (by decide))⟩
theorem p__law_one (ds : List D) (Q : Ret → Prop) (QE : D → Prop) (hl : ds.length = 1) (h : ph__law_one ds Q QE) : dl__law_one (endsD Q QE) (startH nm__law_one ds) := by
  obtain ⟨d, xs, rfl, hd, l1, l2, h⟩ := h
  have go : 0 < xs.length ∧ xs.length.log2 < 4000 ∧ ∀ r : Int, 0 ≤ r → r < xs.length → ∃ f, L2.atI xs r = some f ∧ Q (.val f) := ⟨by omega, log_small (n := xs.length) (by omega), fun r r0 r1 => let ⟨f, e, m⟩ := atI_mem r0 r1; ⟨f, e, h f m⟩⟩
  cases d <;> first | (cases hd; done) | skip
  all_goals obtain rfl : _ = xs := Option.some.inj hd
  all_goals simp [dl__law_one, startH, nm__law_one, dSeq, dAsg, dOwn, dC, dVar, dOp, dUn, dCl, dClB, dOpB, dBs, dCons, dNil, dTup, dLst, dIf, dAnd, dOr, dNot, dAndV, dOrV, dNotV, dTest, dChain, dCond, dRet, dRetO, dRetN, dRetOwn, dNext, dDrop, dCall, dCallN, dCallB, dCallH, dCallHN, hName, hTup_tup, hCons_cons, hNil_nil, dItems, dRange1, dRange2, dEnum, dAltI, dAppend, dPopAt, dPop, dSetIx, dPutK, dIxB, dListB, dSl, dPart, dNoPart, dDisp1, dFor, dComp, dYes, oAdd, oSub, oMod, oFdiv, oPow, oLt, oLe, oGt, oGe, oMul, oNeg, oI, oI0, oEq, oNe, oIn, oIs, oIx, oLen, oInt, oI1, oAbs, oI2, oDivmod, oList, oTuple, oUpper, oIsi, oIsi2, Sl.own, peek, isLst, lstOf, isDic, keysOf, valsOf, D.flat, D.isObj, D.ty, subTy, D.isN, dq_int, dq_bl, dq_bi, dq_ib, dq_str, dq_non, dq_lst, dq_tup, dq_nil, dq_cons, asLst, asTup, asStr, asSeq, Ret.d, endsD, Slot.hid, unsets, phDraw, plain_int, plain_bl, plain_non, List.getElem?_cons_zero, List.getElem?_cons_succ, List.set_cons_zero, List.set_cons_succ]
  all_goals exact go
theorem p__law_word (ds : List D) (Q : Ret → Prop) (QE : D → Prop) (hl : ds.length = 1) (h : ph__law_word ds Q QE) : dl__law_word (endsD Q QE) (startH nm__law_word ds) := by
  obtain ⟨m, rfl, m1, m2, h⟩ := h
  simp [dl__law_word, startH, nm__law_word, dSeq, dAsg, dOwn, dC, dVar, dOp, dUn, dCl, dClB, dOpB, dBs, dCons, dNil, dTup, dLst, dIf, dAnd, dOr, dNot, dAndV, dOrV, dNotV, dTest, dChain, dCond, dRet, dRetO, dRetN, dRetOwn, dNext, dDrop, dCall, dCallN, dCallB, dCallH, dCallHN, hName, hTup_tup, hCons_cons, hNil_nil, dItems, dRange1, dRange2, dEnum, dAltI, dAppend, dPopAt, dPop, dSetIx, dPutK, dIxB, dListB, dSl, dPart, dNoPart, dDisp1, dFor, dComp, dYes, oAdd, oSub, oMod, oFdiv, oPow, oLt, oLe, oGt, oGe, oMul, oNeg, oI, oI0, oEq, oNe, oIn, oIs, oIx, oLen, oInt, oI1, oAbs, oI2, oDivmod, oList, oTuple, oUpper, oIsi, oIsi2, Sl.own, peek, isLst, lstOf, isDic, keysOf, valsOf, D.flat, D.isObj, D.ty, subTy, D.isN, dq_int, dq_bl, dq_bi, dq_ib, dq_str, dq_non, dq_lst, dq_tup, dq_nil, dq_cons, asLst, asTup, asStr, asSeq, Ret.d, endsD, Slot.hid, unsets, phDraw, plain_int, plain_bl, plain_non, List.getElem?_cons_zero, List.getElem?_cons_succ, List.set_cons_zero, List.set_cons_succ]
  refine ⟨by omega, log_small (by omega), fun r r0 r1 => ⟨by omega, by omega, ?_⟩⟩
  refine fo_of (fun ds s => ∃ (l : List Nat) (x : Slot), s = [.hand, .val (.int m), .val (.str (wd l)), x] ∧ l.length + ds.length = (1 + r).toNat ∧ ∀ c ∈ l, 97 ≤ c ∧ c ≤ 122) ?_ ?_ ⟨[], .un, by rw [← wd_nil], by simp [rangeD], by simp⟩
  · rintro s ⟨l, x, rfl, hl, hc⟩
    simp [dAsg, dOwn, dC, dVar, dOp, dUn, dCl, dClB, dOpB, dBs, dCons, dNil, dTup, dLst, dIf, dAnd, dOr, dNot, dAndV, dOrV, dNotV, dTest, dChain, dCond, dRet, dRetO, dRetN, dRetOwn, dNext, dDrop, dCall, dCallN, dCallB, dCallH, dCallHN, hName, hTup_tup, hCons_cons, hNil_nil, dItems, dRange1, dRange2, dEnum, dAltI, dAppend, dPopAt, dPop, dSetIx, dPutK, dIxB, dListB, dSl, dPart, dNoPart, dDisp1, dFor, dComp, dYes, oAdd, oSub, oMod, oFdiv, oPow, oLt, oLe, oGt, oGe, oMul, oNeg, oI, oI0, oEq, oNe, oIn, oIs, oIx, oLen, oInt, oI1, oAbs, oI2, oDivmod, oList, oTuple, oUpper, oIsi, oIsi2, Sl.own, peek, isLst, lstOf, isDic, keysOf, valsOf, D.flat, D.isObj, D.ty, subTy, D.isN, dq_int, dq_bl, dq_bi, dq_ib, dq_str, dq_non, dq_lst, dq_tup, dq_nil, dq_cons, asLst, asTup, asStr, asSeq, Ret.d, endsD, Slot.hid, unsets, phDraw, plain_int, plain_bl, plain_non, List.getElem?_cons_zero, List.getElem?_cons_succ, List.set_cons_zero, List.set_cons_succ]
    rw [List.length_nil] at hl
    exact h l (by omega) (by omega) hc
  · rintro d ds s ⟨l, x, rfl, hl, hc⟩ k hk
    simp [dAsg, dOwn, dC, dVar, dOp, dUn, dCl, dClB, dOpB, dBs, dCons, dNil, dTup, dLst, dIf, dAnd, dOr, dNot, dAndV, dOrV, dNotV, dTest, dChain, dCond, dRet, dRetO, dRetN, dRetOwn, dNext, dDrop, dCall, dCallN, dCallB, dCallH, dCallHN, hName, hTup_tup, hCons_cons, hNil_nil, dItems, dRange1, dRange2, dEnum, dAltI, dAppend, dPopAt, dPop, dSetIx, dPutK, dIxB, dListB, dSl, dPart, dNoPart, dDisp1, dFor, dComp, dYes, oAdd, oSub, oMod, oFdiv, oPow, oLt, oLe, oGt, oGe, oMul, oNeg, oI, oI0, oEq, oNe, oIn, oIs, oIx, oLen, oInt, oI1, oAbs, oI2, oDivmod, oList, oTuple, oUpper, oIsi, oIsi2, Sl.own, peek, isLst, lstOf, isDic, keysOf, valsOf, D.flat, D.isObj, D.ty, subTy, D.isN, dq_int, dq_bl, dq_bi, dq_ib, dq_str, dq_non, dq_lst, dq_tup, dq_nil, dq_cons, asLst, asTup, asStr, asSeq, Ret.d, endsD, Slot.hid, unsets, phDraw, plain_int, plain_bl, plain_non, List.getElem?_cons_zero, List.getElem?_cons_succ, List.set_cons_zero, List.set_cons_succ]
    rw [List.length_cons] at hl
    refine ⟨log_small (by decide), fun r r0 r1 => ⟨Nat.le_trans (by rw [abc_len]; decide) size_ge, _, abc_at r0 r1, ?_, ?_⟩⟩
    · rw [wd_len, wd_one, wd_len]
      exact Nat.le_trans (by simp; omega) size_ge
    · rw [wd_one, wd_app]
      refine hk _ ⟨_, _, rfl, by simp; omega, fun c hc' => ?_⟩
      rcases List.mem_append.mp hc' with z | z
      · exact hc c z
      · rw [List.mem_singleton.mp z]; omega
theorem p__law_hand (ds : List D) (Q : Ret → Prop) (QE : D → Prop) (hl : ds.length = 1) (h : phHand ds Q QE) : dl__law_hand (endsD Q QE) (startD nm__law_hand ds) := by
  obtain ⟨ns, rfl, l63, h⟩ := h
  simp [dl__law_hand, startD, nm__law_hand, dSeq, dAsg, dOwn, dC, dVar, dOp, dUn, dCl, dClB, dOpB, dBs, dCons, dNil, dTup, dLst, dIf, dAnd, dOr, dNot, dAndV, dOrV, dNotV, dTest, dChain, dCond, dRet, dRetO, dRetN, dRetOwn, dNext, dDrop, dCall, dCallN, dCallB, dCallH, dCallHN, hName, hTup_tup, hCons_cons, hNil_nil, dItems, dRange1, dRange2, dEnum, dAltI, dAppend, dPopAt, dPop, dSetIx, dPutK, dIxB, dListB, dSl, dPart, dNoPart, dDisp1, dFor, dComp, dYes, oAdd, oSub, oMod, oFdiv, oPow, oLt, oLe, oGt, oGe, oMul, oNeg, oI, oI0, oEq, oNe, oIn, oIs, oIx, oLen, oInt, oI1, oAbs, oI2, oDivmod, oList, oTuple, oUpper, oIsi, oIsi2, Sl.own, peek, isLst, lstOf, isDic, keysOf, valsOf, D.flat, D.isObj, D.ty, subTy, D.isN, dq_int, dq_bl, dq_bi, dq_ib, dq_str, dq_non, dq_lst, dq_tup, dq_nil, dq_cons, asLst, asTup, asStr, asSeq, Ret.d, endsD, Slot.hid, unsets, phDraw, plain_int, plain_bl, plain_non, List.getElem?_cons_zero, List.getElem?_cons_succ, List.set_cons_zero, List.set_cons_succ]
  refine fo_of (fun ds s => ∃ (t : Int) (x y : Slot), s = [.val (.scr ns), .val (.int t), x, y] ∧ 0 ≤ t ∧ t < 2147483629 ∧ ∀ d ∈ ds, ∃ (k : Nat) (c : Int), d = .tup [.int k, .int c] ∧ k < 63) ?_ ?_ ⟨0, .un, .un, rfl, by decide, by decide, fun d hd => ?_⟩
  · rintro s ⟨t, x, y, rfl, t0, t1, _⟩
    simp [dAsg, dOwn, dC, dVar, dOp, dUn, dCl, dClB, dOpB, dBs, dCons, dNil, dTup, dLst, dIf, dAnd, dOr, dNot, dAndV, dOrV, dNotV, dTest, dChain, dCond, dRet, dRetO, dRetN, dRetOwn, dNext, dDrop, dCall, dCallN, dCallB, dCallH, dCallHN, hName, hTup_tup, hCons_cons, hNil_nil, dItems, dRange1, dRange2, dEnum, dAltI, dAppend, dPopAt, dPop, dSetIx, dPutK, dIxB, dListB, dSl, dPart, dNoPart, dDisp1, dFor, dComp, dYes, oAdd, oSub, oMod, oFdiv, oPow, oLt, oLe, oGt, oGe, oMul, oNeg, oI, oI0, oEq, oNe, oIn, oIs, oIx, oLen, oInt, oI1, oAbs, oI2, oDivmod, oList, oTuple, oUpper, oIsi, oIsi2, Sl.own, peek, isLst, lstOf, isDic, keysOf, valsOf, D.flat, D.isObj, D.ty, subTy, D.isN, dq_int, dq_bl, dq_bi, dq_ib, dq_str, dq_non, dq_lst, dq_tup, dq_nil, dq_cons, asLst, asTup, asStr, asSeq, Ret.d, endsD, Slot.hid, unsets, phDraw, plain_int, plain_bl, plain_non, List.getElem?_cons_zero, List.getElem?_cons_succ, List.set_cons_zero, List.set_cons_succ]
    refine tu_of (fun ds acc => ∃ ms rs : List Int, acc = ms.map (fun n => .int (n.natAbs : Int)) ∧ ds = rs.map .int ∧ ms ++ rs = ns) ?_ ?_ ⟨[], ns, rfl, rfl, rfl⟩
    · rintro acc ⟨ms, rs, rfl, hr, e⟩
      have : rs = [] := by cases rs with | nil => rfl | cons _ _ => cases hr
      subst this
      rw [List.append_nil] at e
      subst e
      exact ⟨Nat.le_trans (by decide) size_ge, h t t0 t1⟩
    · rintro d r acc ⟨ms, rs, rfl, hr, e⟩ Q' hQ
      cases rs with
      | nil => cases hr
      | cons c rs =>
        cases hr
        simp [dAsg, dOwn, dC, dVar, dOp, dUn, dCl, dClB, dOpB, dBs, dCons, dNil, dTup, dLst, dIf, dAnd, dOr, dNot, dAndV, dOrV, dNotV, dTest, dChain, dCond, dRet, dRetO, dRetN, dRetOwn, dNext, dDrop, dCall, dCallN, dCallB, dCallH, dCallHN, hName, hTup_tup, hCons_cons, hNil_nil, dItems, dRange1, dRange2, dEnum, dAltI, dAppend, dPopAt, dPop, dSetIx, dPutK, dIxB, dListB, dSl, dPart, dNoPart, dDisp1, dFor, dComp, dYes, oAdd, oSub, oMod, oFdiv, oPow, oLt, oLe, oGt, oGe, oMul, oNeg, oI, oI0, oEq, oNe, oIn, oIs, oIx, oLen, oInt, oI1, oAbs, oI2, oDivmod, oList, oTuple, oUpper, oIsi, oIsi2, Sl.own, peek, isLst, lstOf, isDic, keysOf, valsOf, D.flat, D.isObj, D.ty, subTy, D.isN, dq_int, dq_bl, dq_bi, dq_ib, dq_str, dq_non, dq_lst, dq_tup, dq_nil, dq_cons, asLst, asTup, asStr, asSeq, Ret.d, endsD, Slot.hid, unsets, phDraw, plain_int, plain_bl, plain_non, List.getElem?_cons_zero, List.getElem?_cons_succ, List.set_cons_zero, List.set_cons_succ]
        have hl2 : ms.length + (rs.length + 1) = ns.length := by rw [← e]; simp
        refine ⟨Nat.lt_of_lt_of_le (by omega) size_ge, hQ _ ⟨ms ++ [c], rs, ?_, rfl, by simpa using e⟩⟩
        rw [List.map_append]
        have ec : (if c < 0 then -c else c) = (c.natAbs : Int) := by split <;> omega
        rw [List.map_cons, List.map_nil, ec]
  · rintro d ds s ⟨t, x, y, rfl, t0, t1, hd⟩ k hk
    obtain ⟨i, c, rfl, i63⟩ := hd d List.mem_cons_self
    simp [dAsg, dOwn, dC, dVar, dOp, dUn, dCl, dClB, dOpB, dBs, dCons, dNil, dTup, dLst, dIf, dAnd, dOr, dNot, dAndV, dOrV, dNotV, dTest, dChain, dCond, dRet, dRetO, dRetN, dRetOwn, dNext, dDrop, dCall, dCallN, dCallB, dCallH, dCallHN, hName, hTup_tup, hCons_cons, hNil_nil, dItems, dRange1, dRange2, dEnum, dAltI, dAppend, dPopAt, dPop, dSetIx, dPutK, dIxB, dListB, dSl, dPart, dNoPart, dDisp1, dFor, dComp, dYes, oAdd, oSub, oMod, oFdiv, oPow, oLt, oLe, oGt, oGe, oMul, oNeg, oI, oI0, oEq, oNe, oIn, oIs, oIx, oLen, oInt, oI1, oAbs, oI2, oDivmod, oList, oTuple, oUpper, oIsi, oIsi2, Sl.own, peek, isLst, lstOf, isDic, keysOf, valsOf, D.flat, D.isObj, D.ty, subTy, D.isN, dq_int, dq_bl, dq_bi, dq_ib, dq_str, dq_non, dq_lst, dq_tup, dq_nil, dq_cons, asLst, asTup, asStr, asSeq, Ret.d, endsD, Slot.hid, unsets, phDraw, plain_int, plain_bl, plain_non, List.getElem?_cons_zero, List.getElem?_cons_succ, List.set_cons_zero, List.set_cons_succ]
    refine ⟨mul64r (by decide) (by decide), mul64r (by omega) (by omega), hk _ ⟨_, _, _, rfl, Int.emod_nonneg _ (by decide), Int.emod_lt_of_pos _ (by decide), fun d' hd' => hd d' (List.mem_cons_of_mem _ hd')⟩⟩
  · obtain ⟨j, hj, e⟩ := List.getElem_of_mem hd
    have e2 : (Dx.numbered 0 (ns.map D.int))[j]? = some d := by rw [← e]; exact List.getElem?_eq_getElem hj
    rw [numbered_at] at e2
    obtain ⟨d', h1, h2⟩ := Option.map_eq_some_iff.mp e2
    rw [List.getElem?_map] at h1
    obtain ⟨c, h3, h4⟩ := Option.map_eq_some_iff.mp h1
    subst h4
    have hj2 := (List.getElem?_eq_some_iff.mp h3).1
    exact ⟨0 + j, c, h2.symm, by omega⟩
def mny : Nat → Nat
  | 0 => 0
  | k + 1 => mny k + 26 ^ (k + 1)
theorem mny_le {k : Nat} (h : k ≤ 6) : mny k ≤ 321272406 := by
  have : k = 0 ∨ k = 1 ∨ k = 2 ∨ k = 3 ∨ k = 4 ∨ k = 5 ∨ k = 6 := by omega
  rcases this with rfl | rfl | rfl | rfl | rfl | rfl | rfl <;> decide
theorem mny_pos {k : Nat} (h : 1 ≤ k) : 26 ≤ mny k := by
  cases k with
  | zero => omega
  | succ k =>
    unfold mny
    have : 26 ^ 1 ≤ 26 ^ (k + 1) := Nat.pow_le_pow_right (by decide) (by omega)
    omega
theorem p__law_index (ds : List D) (Q : Ret → Prop) (QE : D → Prop) (hl : ds.length = 0) (h : ph__law_index ds Q QE) : dl__law_index (endsD Q QE) (startH nm__law_index ds) := by
  obtain ⟨rfl, h⟩ := h
  simp [dl__law_index, startH, nm__law_index, dSeq, dAsg, dOwn, dC, dVar, dOp, dUn, dCl, dClB, dOpB, dBs, dCons, dNil, dTup, dLst, dIf, dAnd, dOr, dNot, dAndV, dOrV, dNotV, dTest, dChain, dCond, dRet, dRetO, dRetN, dRetOwn, dNext, dDrop, dCall, dCallN, dCallB, dCallH, dCallHN, hName, hTup_tup, hCons_cons, hNil_nil, dItems, dRange1, dRange2, dEnum, dAltI, dAppend, dPopAt, dPop, dSetIx, dPutK, dIxB, dListB, dSl, dPart, dNoPart, dDisp1, dFor, dComp, dYes, oAdd, oSub, oMod, oFdiv, oPow, oLt, oLe, oGt, oGe, oMul, oNeg, oI, oI0, oEq, oNe, oIn, oIs, oIx, oLen, oInt, oI1, oAbs, oI2, oDivmod, oList, oTuple, oUpper, oIsi, oIsi2, Sl.own, peek, isLst, lstOf, isDic, keysOf, valsOf, D.flat, D.isObj, D.ty, subTy, D.isN, dq_int, dq_bl, dq_bi, dq_ib, dq_str, dq_non, dq_lst, dq_tup, dq_nil, dq_cons, asLst, asTup, asStr, asSeq, Ret.d, endsD, Slot.hid, unsets, phDraw, plain_int, plain_bl, plain_non, List.getElem?_cons_zero, List.getElem?_cons_succ, List.set_cons_zero, List.set_cons_succ]
  refine ⟨log_small (by decide), fun r r0 r1 => ⟨by omega, by omega, ?_⟩⟩
  refine fo_of (fun ds s => ∃ (j : Nat) (x : Slot), s = [.hand, .val (.int (mny j : Nat)), .val (.int (26 ^ j : Nat)), x] ∧ j + ds.length = (1 + r).toNat) ?_ ?_ ⟨0, .un, rfl, by simp [rangeD]⟩
  · rintro s ⟨j, x, rfl, hj⟩
    rw [List.length_nil] at hj
    have h1 := mny_pos (k := j) (by omega)
    have h2 := mny_le (k := j) (by omega)
    dsimp only
    refine seq_step fun k hk => ?_
    simp [dAsg, dOwn, dC, dVar, dOp, dUn, dCl, dClB, dOpB, dBs, dCons, dNil, dTup, dLst, dIf, dAnd, dOr, dNot, dAndV, dOrV, dNotV, dTest, dChain, dCond, dRet, dRetO, dRetN, dRetOwn, dNext, dDrop, dCall, dCallN, dCallB, dCallH, dCallHN, hName, hTup_tup, hCons_cons, hNil_nil, dItems, dRange1, dRange2, dEnum, dAltI, dAppend, dPopAt, dPop, dSetIx, dPutK, dIxB, dListB, dSl, dPart, dNoPart, dDisp1, dFor, dComp, dYes, oAdd, oSub, oMod, oFdiv, oPow, oLt, oLe, oGt, oGe, oMul, oNeg, oI, oI0, oEq, oNe, oIn, oIs, oIx, oLen, oInt, oI1, oAbs, oI2, oDivmod, oList, oTuple, oUpper, oIsi, oIsi2, Sl.own, peek, isLst, lstOf, isDic, keysOf, valsOf, D.flat, D.isObj, D.ty, subTy, D.isN, dq_int, dq_bl, dq_bi, dq_ib, dq_str, dq_non, dq_lst, dq_tup, dq_nil, dq_cons, asLst, asTup, asStr, asSeq, Ret.d, endsD, Slot.hid, unsets, phDraw, plain_int, plain_bl, plain_non, List.getElem?_cons_zero, List.getElem?_cons_succ, List.set_cons_zero, List.set_cons_succ]
    refine ⟨log_small (by decide), ?_⟩
    intro r' s0 s1
    by_cases hr : r' = 0
    · rw [if_pos hr]
      have e : ((mny j : Nat) : Int) - 1 = ((mny j - 1 : Nat) : Int) := by omega
      rw [e]
      exact h _ (by omega)
    · rw [if_neg hr]
      refine hk _ ?_
      simp [dAsg, dOwn, dC, dVar, dOp, dUn, dCl, dClB, dOpB, dBs, dCons, dNil, dTup, dLst, dIf, dAnd, dOr, dNot, dAndV, dOrV, dNotV, dTest, dChain, dCond, dRet, dRetO, dRetN, dRetOwn, dNext, dDrop, dCall, dCallN, dCallB, dCallH, dCallHN, hName, hTup_tup, hCons_cons, hNil_nil, dItems, dRange1, dRange2, dEnum, dAltI, dAppend, dPopAt, dPop, dSetIx, dPutK, dIxB, dListB, dSl, dPart, dNoPart, dDisp1, dFor, dComp, dYes, oAdd, oSub, oMod, oFdiv, oPow, oLt, oLe, oGt, oGe, oMul, oNeg, oI, oI0, oEq, oNe, oIn, oIs, oIx, oLen, oInt, oI1, oAbs, oI2, oDivmod, oList, oTuple, oUpper, oIsi, oIsi2, Sl.own, peek, isLst, lstOf, isDic, keysOf, valsOf, D.flat, D.isObj, D.ty, subTy, D.isN, dq_int, dq_bl, dq_bi, dq_ib, dq_str, dq_non, dq_lst, dq_tup, dq_nil, dq_cons, asLst, asTup, asStr, asSeq, Ret.d, endsD, Slot.hid, unsets, phDraw, plain_int, plain_bl, plain_non, List.getElem?_cons_zero, List.getElem?_cons_succ, List.set_cons_zero, List.set_cons_succ]
      refine ⟨by omega, log_mid (by omega), fun i i0 i1 => ?_⟩
      obtain ⟨n, rfl⟩ := Int.eq_ofNat_of_zero_le i0
      exact h n (by omega)
  · rintro d ds s ⟨j, x, rfl, hj⟩ k hk
    rw [List.length_cons] at hj
    simp [dSeq, dAsg, dOwn, dC, dVar, dOp, dUn, dCl, dClB, dOpB, dBs, dCons, dNil, dTup, dLst, dIf, dAnd, dOr, dNot, dAndV, dOrV, dNotV, dTest, dChain, dCond, dRet, dRetO, dRetN, dRetOwn, dNext, dDrop, dCall, dCallN, dCallB, dCallH, dCallHN, hName, hTup_tup, hCons_cons, hNil_nil, dItems, dRange1, dRange2, dEnum, dAltI, dAppend, dPopAt, dPop, dSetIx, dPutK, dIxB, dListB, dSl, dPart, dNoPart, dDisp1, dFor, dComp, dYes, oAdd, oSub, oMod, oFdiv, oPow, oLt, oLe, oGt, oGe, oMul, oNeg, oI, oI0, oEq, oNe, oIn, oIs, oIx, oLen, oInt, oI1, oAbs, oI2, oDivmod, oList, oTuple, oUpper, oIsi, oIsi2, Sl.own, peek, isLst, lstOf, isDic, keysOf, valsOf, D.flat, D.isObj, D.ty, subTy, D.isN, dq_int, dq_bl, dq_bi, dq_ib, dq_str, dq_non, dq_lst, dq_tup, dq_nil, dq_cons, asLst, asTup, asStr, asSeq, Ret.d, endsD, Slot.hid, unsets, phDraw, plain_int, plain_bl, plain_non, List.getElem?_cons_zero, List.getElem?_cons_succ, List.set_cons_zero, List.set_cons_succ]
    refine ⟨mul64r (by decide) (by decide), ?_⟩
    have e1 : ((26 : Int) ^ j * 26) = ((26 ^ (j + 1) : Nat) : Int) := by rw [Nat.pow_succ]; simp
    have e2 : ((mny j : Nat) : Int) + (26 : Int) ^ j * 26 = ((mny (j + 1) : Nat) : Int) := by
      rw [e1]
      unfold mny
      simp
      cases j <;> simp [mny]
    rw [e2, e1]
    exact hk _ ⟨j + 1, _, rfl, by omega⟩
end Ka
namespace Ka
open PySem L2 Dx
theorem labR_pos {n : Nat} (h : 0 < n) : labR n = labR ((n - 1) / 26) ++ [97 + (n - 1) % 26] := by
  rw [labR, dif_neg (by omega)]
theorem labR_zero : labR 0 = [] := by rw [labR, dif_pos rfl]
theorem labR_len (n : Nat) : 2 ^ (labR n).length ≤ n + 1 := by
  induction n using Nat.strongRecOn with
  | _ n ih =>
    by_cases h : 0 < n
    · rw [labR_pos h]
      have := ih ((n - 1) / 26) (by omega)
      rw [List.length_append, List.length_singleton, Nat.pow_succ]
      omega
    · have : n = 0 := by omega
      subst this
      rw [labR_zero]
      decide
theorem labR_short {n : Nat} (h : n < 2 ^ 51) : (labR n).length ≤ 51 := by
  have h1 := labR_len n
  have h2 : 2 ^ (labR n).length ≤ 2 ^ 51 := by omega
  exact (Nat.pow_le_pow_iff_right (by decide)).mp h2
theorem p_label_at (ds : List D) (Q : Ret → Prop) (QE : D → Prop) (hl : ds.length = 1) (h : ph_label_at ds Q QE) : dl_label_at (endsD Q QE) (startD nm_label_at ds) := by
  obtain ⟨i, rfl, i0, h⟩ := h
  simp [dl_label_at, startD, nm_label_at, dSeq, dAsg, dOwn, dC, dVar, dOp, dUn, dCl, dClB, dOpB, dBs, dCons, dNil, dTup, dLst, dIf, dAnd, dOr, dNot, dAndV, dOrV, dNotV, dTest, dChain, dCond, dRet, dRetO, dRetN, dRetOwn, dNext, dDrop, dCall, dCallN, dCallB, dCallH, dCallHN, hName, hTup_tup, hCons_cons, hNil_nil, dItems, dRange1, dRange2, dEnum, dAltI, dAppend, dPopAt, dPop, dSetIx, dPutK, dIxB, dListB, dSl, dPart, dNoPart, dDisp1, dFor, dComp, dYes, oAdd, oSub, oMod, oFdiv, oPow, oLt, oLe, oGt, oGe, oMul, oNeg, oI, oI0, oEq, oNe, oIn, oIs, oIx, oLen, oInt, oI1, oAbs, oI2, oDivmod, oList, oTuple, oUpper, oIsi, oIsi2, Sl.own, peek, isLst, lstOf, isDic, keysOf, valsOf, D.flat, D.isObj, D.ty, subTy, D.isN, dq_int, dq_bl, dq_bi, dq_ib, dq_str, dq_non, dq_lst, dq_tup, dq_nil, dq_cons, asLst, asTup, asStr, asSeq, Ret.d, endsD, Slot.hid, unsets, phDraw, plain_int, plain_bl, plain_non, List.getElem?_cons_zero, List.getElem?_cons_succ, List.set_cons_zero, List.set_cons_succ]
  have sh := labR_short (n := i + 1) (by omega)
  refine wh_of (fun n s => ∃ (l : List Nat) (x : Slot), s = [.val (.int i), .val (.str (wd l)), .val (.int (n : Nat)), x] ∧ labR n ++ l = labR (i + 1)) ?_ (n := i + 1) ⟨[], .un, by rw [← wd_nil]; rfl, by simp⟩
  rintro n s ⟨l, x, rfl, e⟩ k hk
  simp [dAsg, dOwn, dC, dVar, dOp, dUn, dCl, dClB, dOpB, dBs, dCons, dNil, dTup, dLst, dIf, dAnd, dOr, dNot, dAndV, dOrV, dNotV, dTest, dChain, dCond, dRet, dRetO, dRetN, dRetOwn, dNext, dDrop, dCall, dCallN, dCallB, dCallH, dCallHN, hName, hTup_tup, hCons_cons, hNil_nil, dItems, dRange1, dRange2, dEnum, dAltI, dAppend, dPopAt, dPop, dSetIx, dPutK, dIxB, dListB, dSl, dPart, dNoPart, dDisp1, dFor, dComp, dYes, oAdd, oSub, oMod, oFdiv, oPow, oLt, oLe, oGt, oGe, oMul, oNeg, oI, oI0, oEq, oNe, oIn, oIs, oIx, oLen, oInt, oI1, oAbs, oI2, oDivmod, oList, oTuple, oUpper, oIsi, oIsi2, Sl.own, peek, isLst, lstOf, isDic, keysOf, valsOf, D.flat, D.isObj, D.ty, subTy, D.isN, dq_int, dq_bl, dq_bi, dq_ib, dq_str, dq_non, dq_lst, dq_tup, dq_nil, dq_cons, asLst, asTup, asStr, asSeq, Ret.d, endsD, Slot.hid, unsets, phDraw, plain_int, plain_bl, plain_non, List.getElem?_cons_zero, List.getElem?_cons_succ, List.set_cons_zero, List.set_cons_succ]
  have ll : l.length ≤ 51 := by
    have := congrArg List.length e
    rw [List.length_append] at this
    omega
  by_cases hn : 0 < n
  · rw [if_pos hn, labR_pos hn] at *
    simp [dSeq, dAsg, dOwn, dC, dVar, dOp, dUn, dCl, dClB, dOpB, dBs, dCons, dNil, dTup, dLst, dIf, dAnd, dOr, dNot, dAndV, dOrV, dNotV, dTest, dChain, dCond, dRet, dRetO, dRetN, dRetOwn, dNext, dDrop, dCall, dCallN, dCallB, dCallH, dCallHN, hName, hTup_tup, hCons_cons, hNil_nil, dItems, dRange1, dRange2, dEnum, dAltI, dAppend, dPopAt, dPop, dSetIx, dPutK, dIxB, dListB, dSl, dPart, dNoPart, dDisp1, dFor, dComp, dYes, oAdd, oSub, oMod, oFdiv, oPow, oLt, oLe, oGt, oGe, oMul, oNeg, oI, oI0, oEq, oNe, oIn, oIs, oIx, oLen, oInt, oI1, oAbs, oI2, oDivmod, oList, oTuple, oUpper, oIsi, oIsi2, Sl.own, peek, isLst, lstOf, isDic, keysOf, valsOf, D.flat, D.isObj, D.ty, subTy, D.isN, dq_int, dq_bl, dq_bi, dq_ib, dq_str, dq_non, dq_lst, dq_tup, dq_nil, dq_cons, asLst, asTup, asStr, asSeq, Ret.d, endsD, Slot.hid, unsets, phDraw, plain_int, plain_bl, plain_non, List.getElem?_cons_zero, List.getElem?_cons_succ, List.set_cons_zero, List.set_cons_succ]
    have e1 : ((n : Int) - 1) / 26 = ((((n - 1) / 26 : Nat)) : Int) := by omega
    have e2 : ((n : Int) - 1) % 26 = ((((n - 1) % 26 : Nat)) : Int) := by omega
    rw [e1, e2]
    refine ⟨⟨by decide, by decide⟩, Nat.le_trans (by rw [abc_len]; decide) size_ge, _, abc_at (Int.natCast_nonneg _) (by omega), ?_, ?_⟩
    · rw [wd_one, wd_len, wd_len]
      exact Nat.le_trans (by simp; omega) size_ge
    · rw [wd_one, wd_app]
      refine hk ((n - 1) / 26) _ (by omega) ⟨_, _, rfl, ?_⟩
      rw [Int.toNat_natCast, ← e, List.append_assoc]
  · have : n = 0 := by omega
    subst this
    rw [if_neg hn]
    rw [labR_zero, List.nil_append] at e
    rw [e]
    exact h
/-- so many signs -/
def fixd : Nat → Nat → List Nat
  | 0, _ => []
  | m + 1, i => fixd m (i / 26) ++ [97 + i % 26]
def tm : Nat → Nat
  | 0 => 0
  | m + 1 => tm m + 26 ^ m
theorem tm_next (m : Nat) : tm (m + 1) = 26 * tm m + 1 := by
  induction m with
  | zero => rfl
  | succ m ih =>
    have e1 : tm (m + 1 + 1) = tm (m + 1) + 26 ^ (m + 1) := rfl
    have e2 : tm (m + 1) = tm m + 26 ^ m := rfl
    rw [e1, ih, Nat.pow_succ]
    omega
theorem labR_fixd : ∀ (m i : Nat), i < 26 ^ m → labR (i + tm m) = fixd m i
  | 0, i, h => by
    have : i = 0 := by simpa using h
    subst this
    exact labR_zero
  | m + 1, i, h => by
    rw [tm_next, labR_pos (by omega), fixd]
    have e : (i + (26 * tm m + 1) - 1) / 26 = i / 26 + tm m := by omega
    have e2 : (i + (26 * tm m + 1) - 1) % 26 = i % 26 := by omega
    rw [e, e2, labR_fixd m (i / 26) (by rw [Nat.pow_succ] at h; omega)]
theorem tm_big : ∀ m, 2 ^ m ≤ 2 * tm m + 1
  | 0 => by decide
  | m + 1 => by
    rw [tm_next, Nat.pow_succ]
    have := tm_big m
    omega
theorem p__law_label_at (ds : List D) (Q : Ret → Prop) (QE : D → Prop) (hl : ds.length = 1) (h : ph__law_label_at ds Q QE) : dl__law_label_at (endsD Q QE) (startD nm__law_label_at ds) := by
  obtain ⟨i0, rfl, hi, h⟩ := h
  simp [dl__law_label_at, startD, nm__law_label_at, dSeq, dAsg, dOwn, dC, dVar, dOp, dUn, dCl, dClB, dOpB, dBs, dCons, dNil, dTup, dLst, dIf, dAnd, dOr, dNot, dAndV, dOrV, dNotV, dTest, dChain, dCond, dRet, dRetO, dRetN, dRetOwn, dNext, dDrop, dCall, dCallN, dCallB, dCallH, dCallHN, hName, hTup_tup, hCons_cons, hNil_nil, dItems, dRange1, dRange2, dEnum, dAltI, dAppend, dPopAt, dPop, dSetIx, dPutK, dIxB, dListB, dSl, dPart, dNoPart, dDisp1, dFor, dComp, dYes, oAdd, oSub, oMod, oFdiv, oPow, oLt, oLe, oGt, oGe, oMul, oNeg, oI, oI0, oEq, oNe, oIn, oIs, oIx, oLen, oInt, oI1, oAbs, oI2, oDivmod, oList, oTuple, oUpper, oIsi, oIsi2, Sl.own, peek, isLst, lstOf, isDic, keysOf, valsOf, D.flat, D.isObj, D.ty, subTy, D.isN, dq_int, dq_bl, dq_bi, dq_ib, dq_str, dq_non, dq_lst, dq_tup, dq_nil, dq_cons, asLst, asTup, asStr, asSeq, Ret.d, endsD, Slot.hid, unsets, phDraw, plain_int, plain_bl, plain_non, List.getElem?_cons_zero, List.getElem?_cons_succ, List.set_cons_zero, List.set_cons_succ]
  refine wh_of (fun n s => ∃ m : Nat, 1 ≤ m ∧ s = [.val (.int n), .val (.int (26 ^ m : Nat)), .val (.int (m : Nat)), .un, .un] ∧ n + tm m = i0 + 1) ?_ (n := i0) ⟨1, by decide, rfl, rfl⟩
  rintro n s ⟨m, m1, rfl, e⟩ k hk
  have mb : m ≤ 52 := by
    have := tm_big m
    have h2 : 2 ^ m ≤ 2 ^ 52 := by omega
    exact (Nat.pow_le_pow_iff_right (by decide)).mp h2
  simp [dAsg, dOwn, dC, dVar, dOp, dUn, dCl, dClB, dOpB, dBs, dCons, dNil, dTup, dLst, dIf, dAnd, dOr, dNot, dAndV, dOrV, dNotV, dTest, dChain, dCond, dRet, dRetO, dRetN, dRetOwn, dNext, dDrop, dCall, dCallN, dCallB, dCallH, dCallHN, hName, hTup_tup, hCons_cons, hNil_nil, dItems, dRange1, dRange2, dEnum, dAltI, dAppend, dPopAt, dPop, dSetIx, dPutK, dIxB, dListB, dSl, dPart, dNoPart, dDisp1, dFor, dComp, dYes, oAdd, oSub, oMod, oFdiv, oPow, oLt, oLe, oGt, oGe, oMul, oNeg, oI, oI0, oEq, oNe, oIn, oIs, oIx, oLen, oInt, oI1, oAbs, oI2, oDivmod, oList, oTuple, oUpper, oIsi, oIsi2, Sl.own, peek, isLst, lstOf, isDic, keysOf, valsOf, D.flat, D.isObj, D.ty, subTy, D.isN, dq_int, dq_bl, dq_bi, dq_ib, dq_str, dq_non, dq_lst, dq_tup, dq_nil, dq_cons, asLst, asTup, asStr, asSeq, Ret.d, endsD, Slot.hid, unsets, phDraw, plain_int, plain_bl, plain_non, List.getElem?_cons_zero, List.getElem?_cons_succ, List.set_cons_zero, List.set_cons_succ]
  have ec : ((26 : Int) ^ m) = ((26 ^ m : Nat) : Int) := by simp
  rw [ec]
  by_cases hn : ((26 ^ m : Nat) : Int) ≤ (n : Int)
  · rw [if_pos hn]
    simp [dSeq, dAsg, dOwn, dC, dVar, dOp, dUn, dCl, dClB, dOpB, dBs, dCons, dNil, dTup, dLst, dIf, dAnd, dOr, dNot, dAndV, dOrV, dNotV, dTest, dChain, dCond, dRet, dRetO, dRetN, dRetOwn, dNext, dDrop, dCall, dCallN, dCallB, dCallH, dCallHN, hName, hTup_tup, hCons_cons, hNil_nil, dItems, dRange1, dRange2, dEnum, dAltI, dAppend, dPopAt, dPop, dSetIx, dPutK, dIxB, dListB, dSl, dPart, dNoPart, dDisp1, dFor, dComp, dYes, oAdd, oSub, oMod, oFdiv, oPow, oLt, oLe, oGt, oGe, oMul, oNeg, oI, oI0, oEq, oNe, oIn, oIs, oIx, oLen, oInt, oI1, oAbs, oI2, oDivmod, oList, oTuple, oUpper, oIsi, oIsi2, Sl.own, peek, isLst, lstOf, isDic, keysOf, valsOf, D.flat, D.isObj, D.ty, subTy, D.isN, dq_int, dq_bl, dq_bi, dq_ib, dq_str, dq_non, dq_lst, dq_tup, dq_nil, dq_cons, asLst, asTup, asStr, asSeq, Ret.d, endsD, Slot.hid, unsets, phDraw, plain_int, plain_bl, plain_non, List.getElem?_cons_zero, List.getElem?_cons_succ, List.set_cons_zero, List.set_cons_succ]
    refine ⟨mul64r (by decide) (by decide), ?_⟩
    have hn' : 26 ^ m ≤ n := by exact_mod_cast hn
    have e1 : (n : Int) - (26 : Int) ^ m = ((n - 26 ^ m : Nat) : Int) := by rw [ec]; omega
    have e2 : (26 : Int) ^ m * 26 = ((26 ^ (m + 1) : Nat) : Int) := by rw [Nat.pow_succ]; simp
    have e3 : ((m : Nat) : Int) + 1 = ((m + 1 : Nat) : Int) := by omega
    rw [e1, e2, e3]
    have p : 0 < 26 ^ m := Nat.pow_pos (by decide)
    exact hk _ _ (by omega) ⟨m + 1, by omega, rfl, by show n - 26 ^ m + (tm m + 26 ^ m) = i0 + 1; omega⟩
  · rw [if_neg hn]
    have hn' : n < 26 ^ m := by
      have : ¬ 26 ^ m ≤ n := fun z => hn (by exact_mod_cast z)
      omega
    have ef := labR_fixd m n hn'
    rw [e] at ef
    simp [dSeq, dAsg, dOwn, dC, dVar, dOp, dUn, dCl, dClB, dOpB, dBs, dCons, dNil, dTup, dLst, dIf, dAnd, dOr, dNot, dAndV, dOrV, dNotV, dTest, dChain, dCond, dRet, dRetO, dRetN, dRetOwn, dNext, dDrop, dCall, dCallN, dCallB, dCallH, dCallHN, hName, hTup_tup, hCons_cons, hNil_nil, dItems, dRange1, dRange2, dEnum, dAltI, dAppend, dPopAt, dPop, dSetIx, dPutK, dIxB, dListB, dSl, dPart, dNoPart, dDisp1, dFor, dComp, dYes, oAdd, oSub, oMod, oFdiv, oPow, oLt, oLe, oGt, oGe, oMul, oNeg, oI, oI0, oEq, oNe, oIn, oIs, oIx, oLen, oInt, oI1, oAbs, oI2, oDivmod, oList, oTuple, oUpper, oIsi, oIsi2, Sl.own, peek, isLst, lstOf, isDic, keysOf, valsOf, D.flat, D.isObj, D.ty, subTy, D.isN, dq_int, dq_bl, dq_bi, dq_ib, dq_str, dq_non, dq_lst, dq_tup, dq_nil, dq_cons, asLst, asTup, asStr, asSeq, Ret.d, endsD, Slot.hid, unsets, phDraw, plain_int, plain_bl, plain_non, List.getElem?_cons_zero, List.getElem?_cons_succ, List.set_cons_zero, List.set_cons_succ]
    refine ⟨by omega, ?_⟩
    refine fo_of (fun ds s => ∃ (j : Nat) (l : List Nat) (y x : Slot), s = [.val (.int j), y, .val (.int (m : Nat)), .val (.str (wd l)), x] ∧ fixd ds.length j ++ l = fixd m n ∧ l.length + ds.length = m) ?_ ?_ ⟨n, [], _, .un, by rw [← wd_nil], by simp [rangeD], by simp [rangeD]⟩
    · rintro s ⟨j, l, y, x, rfl, e1, _⟩
      simp [dAsg, dOwn, dC, dVar, dOp, dUn, dCl, dClB, dOpB, dBs, dCons, dNil, dTup, dLst, dIf, dAnd, dOr, dNot, dAndV, dOrV, dNotV, dTest, dChain, dCond, dRet, dRetO, dRetN, dRetOwn, dNext, dDrop, dCall, dCallN, dCallB, dCallH, dCallHN, hName, hTup_tup, hCons_cons, hNil_nil, dItems, dRange1, dRange2, dEnum, dAltI, dAppend, dPopAt, dPop, dSetIx, dPutK, dIxB, dListB, dSl, dPart, dNoPart, dDisp1, dFor, dComp, dYes, oAdd, oSub, oMod, oFdiv, oPow, oLt, oLe, oGt, oGe, oMul, oNeg, oI, oI0, oEq, oNe, oIn, oIs, oIx, oLen, oInt, oI1, oAbs, oI2, oDivmod, oList, oTuple, oUpper, oIsi, oIsi2, Sl.own, peek, isLst, lstOf, isDic, keysOf, valsOf, D.flat, D.isObj, D.ty, subTy, D.isN, dq_int, dq_bl, dq_bi, dq_ib, dq_str, dq_non, dq_lst, dq_tup, dq_nil, dq_cons, asLst, asTup, asStr, asSeq, Ret.d, endsD, Slot.hid, unsets, phDraw, plain_int, plain_bl, plain_non, List.getElem?_cons_zero, List.getElem?_cons_succ, List.set_cons_zero, List.set_cons_succ]
      rw [List.length_nil] at e1
      have e2 : l = labR (i0 + 1) := by rw [ef]; exact e1
      rw [e2]
      exact h
    · rintro d ds s ⟨j, l, y, x, rfl, e1, e2⟩ k2 hk2
      rw [List.length_cons] at e1 e2
      simp [dSeq, dAsg, dOwn, dC, dVar, dOp, dUn, dCl, dClB, dOpB, dBs, dCons, dNil, dTup, dLst, dIf, dAnd, dOr, dNot, dAndV, dOrV, dNotV, dTest, dChain, dCond, dRet, dRetO, dRetN, dRetOwn, dNext, dDrop, dCall, dCallN, dCallB, dCallH, dCallHN, hName, hTup_tup, hCons_cons, hNil_nil, dItems, dRange1, dRange2, dEnum, dAltI, dAppend, dPopAt, dPop, dSetIx, dPutK, dIxB, dListB, dSl, dPart, dNoPart, dDisp1, dFor, dComp, dYes, oAdd, oSub, oMod, oFdiv, oPow, oLt, oLe, oGt, oGe, oMul, oNeg, oI, oI0, oEq, oNe, oIn, oIs, oIx, oLen, oInt, oI1, oAbs, oI2, oDivmod, oList, oTuple, oUpper, oIsi, oIsi2, Sl.own, peek, isLst, lstOf, isDic, keysOf, valsOf, D.flat, D.isObj, D.ty, subTy, D.isN, dq_int, dq_bl, dq_bi, dq_ib, dq_str, dq_non, dq_lst, dq_tup, dq_nil, dq_cons, asLst, asTup, asStr, asSeq, Ret.d, endsD, Slot.hid, unsets, phDraw, plain_int, plain_bl, plain_non, List.getElem?_cons_zero, List.getElem?_cons_succ, List.set_cons_zero, List.set_cons_succ]
      have e3 : (j : Int) % 26 = ((j % 26 : Nat) : Int) := by omega
      have e4 : (j : Int) / 26 = ((j / 26 : Nat) : Int) := by omega
      rw [e3, e4]
      refine ⟨Nat.le_trans (by rw [abc_len]; decide) size_ge, _, abc_at (Int.natCast_nonneg _) (by omega), ?_, divW (by decide) (by decide), ?_⟩
      · rw [wd_one, wd_len, wd_len]
        exact Nat.le_trans (by simp; omega) size_ge
      · rw [wd_one, wd_app]
        exact hk2 _ ⟨_, _, _, _, rfl, by rw [← e1, fixd, List.append_assoc, Int.toNat_natCast], by simp; omega⟩
end Ka
namespace Ka
open PySem L2 Dx
theorem lab_let (n : Nat) : ∀ c ∈ labR n, 97 ≤ c ∧ c ≤ 122 := by
  induction n using Nat.strongRecOn with
  | _ n ih =>
    intro c hc
    by_cases h : 0 < n
    · rw [labR_pos h] at hc
      rcases List.mem_append.mp hc with z | z
      · exact ih _ (by omega) c z
      · rw [List.mem_singleton.mp z]; omega
    · have : n = 0 := by omega
      subst this
      rw [labR_zero] at hc
      cases hc
theorem lab_len : ∀ (m n : Nat), n < tm (m + 1) → (labR n).length ≤ m
  | 0, n, h => by
    have : n = 0 := by
      have e : tm (0 + 1) = 1 := rfl
      omega
    subst this
    rw [labR_zero]
    exact Nat.le_refl _
  | m + 1, n, h => by
    by_cases h0 : 0 < n
    · rw [tm_next] at h
      rw [labR_pos h0, List.length_append, List.length_singleton]
      have := lab_len m ((n - 1) / 26) (by omega)
      omega
    · have : n = 0 := by omega
      subst this
      rw [labR_zero]
      exact Nat.zero_le _
theorem isLab_wd {l : List Nat} (h1 : 1 ≤ l.length) (h2 : l.length ≤ 6) (h3 : ∀ c ∈ l, 97 ≤ c ∧ c ≤ 122) : isLab (.str (wd l)) = true := by
  show (decide (1 ≤ l.length) && decide (l.length ≤ 6) && l.all fun c => decide (97 ≤ c) && decide (c ≤ 122)) = true
  simp only [Bool.and_eq_true, decide_eq_true_eq, List.all_eq_true]
  exact ⟨⟨h1, h2⟩, fun c hc => h3 c hc⟩
theorem isLab_lab {i : Nat} (h : i < 321272406) : isLab (.str (lab i)) = true := by
  refine isLab_wd ?_ (lab_len 6 (i + 1) (by have e : tm (6 + 1) = 321272407 := by decide
                                            omega)) (lab_let _)
  rw [labR_pos (by omega), List.length_append, List.length_singleton]
  omega
theorem lab_valid {z : Str} (h : isLab (.str z) = true) : validS z = true := by
  unfold isLab at h
  unfold validS
  simp only [Bool.and_eq_true, decide_eq_true_eq, List.all_eq_true] at h ⊢
  intro c hc
  have := h.2 c hc
  omega
abbrev isLet (c : Nat) : Bool := decide (97 ≤ c) && decide (c ≤ 122)
abbrev sg (c : Nat) : Str := ⟨#[c]⟩
theorem eqvs_nil : ∀ ws : List Str, D.eqvs (ws.map .str) [] = ws.isEmpty
  | [] => rfl
  | _ :: _ => rfl
theorem bad_nil : ∀ l : List Nat, ((l.filter fun c => !isLet c).map sg).isEmpty = l.all isLet
  | [] => rfl
  | c :: r => by
    rw [List.filter_cons, List.all_cons]
    cases isLet c with
    | true => simpa using bad_nil r
    | false => rfl
theorem p_is_label (ds : List D) (Q : Ret → Prop) (QE : D → Prop) (hl : ds.length = 1) (h : ph_is_label ds Q QE) : dl_is_label (endsD Q QE) (startD nm_is_label ds) := by
  obtain ⟨d, rfl, hd, hz, h⟩ := h
  cases d <;> first | (cases hd; done) | skip
  case str z =>
    obtain ⟨hz1, hz2⟩ : z.cps.toList.length ≤ 1000 ∧ validS z = true := by
      have := hz z rfl
      unfold okStr at this
      rw [Bool.and_eq_true] at this
      exact ⟨of_decide_eq_true this.1, this.2⟩
    have ez : z.length = z.cps.toList.length := by
      show z.cps.size = _
      simp
    have eL : isLab (.str z) = (decide (1 ≤ z.cps.toList.length) && decide (z.cps.toList.length ≤ 6) && z.cps.toList.all isLet) := rfl
    rw [eL, ← ez] at h
    simp [dl_is_label, startD, nm_is_label, dSeq, dAsg, dOwn, dC, dVar, dOp, dUn, dCl, dClB, dOpB, dBs, dCons, dNil, dTup, dLst, dIf, dAnd, dOr, dNot, dAndV, dOrV, dNotV, dTest, dChain, dCond, dRet, dRetO, dRetN, dRetOwn, dNext, dDrop, dCall, dCallN, dCallB, dCallH, dCallHN, hName, hTup_tup, hCons_cons, hNil_nil, dItems, dRange1, dRange2, dEnum, dAltI, dAppend, dPopAt, dPop, dSetIx, dPutK, dIxB, dListB, dSl, dPart, dNoPart, dDisp1, dFor, dComp, dYes, oAdd, oSub, oMod, oFdiv, oPow, oLt, oLe, oGt, oGe, oMul, oNeg, oI, oI0, oEq, oNe, oIn, oIs, oIx, oLen, oInt, oI1, oAbs, oI2, oDivmod, oList, oTuple, oUpper, oIsi, oIsi2, Sl.own, peek, isLst, lstOf, isDic, keysOf, valsOf, D.flat, D.isObj, D.ty, subTy, D.isN, dq_int, dq_bl, dq_bi, dq_ib, dq_str, dq_non, dq_lst, dq_tup, dq_nil, dq_cons, asLst, asTup, asStr, asSeq, Ret.d, endsD, Slot.hid, unsets, phDraw, plain_int, plain_bl, plain_non, List.getElem?_cons_zero, List.getElem?_cons_succ, List.set_cons_zero, List.set_cons_succ]
    refine ⟨by rw [ez]; exact Nat.le_trans (by omega) size_ge, ?_⟩
    by_cases h1 : (1 : Int) ≤ (z.length : Int)
    · rw [if_pos h1]
      by_cases h2 : (z.length : Int) ≤ 6
      · rw [if_pos h2]
        have b1 : decide (1 ≤ z.length) = true := decide_eq_true (by omega)
        have b2 : decide (z.length ≤ 6) = true := decide_eq_true (by omega)
        rw [b1, b2, Bool.true_and, Bool.true_and] at h
        refine tu_of (fun ds acc => ∃ pre post : List Nat, ds = post.map (fun c => D.str (sg c)) ∧ pre ++ post = z.cps.toList ∧ acc = ((pre.filter fun c => !isLet c).map sg).map .str) ?_ ?_ ⟨[], _, rfl, rfl, rfl⟩
        · rintro acc ⟨pre, post, e1, e2, rfl⟩
          have : post = [] := by cases post with | nil => rfl | cons _ _ => cases e1
          subst this
          rw [List.append_nil] at e2
          refine ⟨plain_strsL fun w hw => ?_, plain_strsL (ws := []) (by simp), ?_⟩
          · obtain ⟨c, hc, rfl⟩ := List.mem_map.mp hw
            have hc2 := (List.mem_filter.mp hc).1
            rw [e2] at hc2
            unfold validS at hz2
            have := List.all_eq_true.mp hz2 c hc2
            simpa [validS] using this
          · rw [eqvs_nil, bad_nil, e2]
            exact h
        · rintro d r acc ⟨pre, post, e1, e2, rfl⟩ Q' hQ
          cases post with
          | nil => cases e1
          | cons c post =>
            cases e1
            have el : pre.length ≤ 1000 := by
              have := congrArg List.length e2
              rw [List.length_append] at this
              omega
            have ea : (((pre.filter fun c => !isLet c).map sg).map D.str).length < sizeLine := by
              rw [List.length_map, List.length_map]
              exact Nat.lt_of_le_of_lt (List.length_filter_le _ _) (Nat.lt_of_lt_of_le (by omega) size_ge)
            have e3 : (pre ++ [c]) ++ post = z.cps.toList := by rw [← e2]; simp
            have q1 := fun hb : isLet c = true => hQ (((pre.filter fun c => !isLet c).map sg).map D.str) ⟨pre ++ [c], post, rfl, e3, by rw [List.filter_append, List.filter_cons, hb]; simp⟩
            have q2 := fun hb : isLet c = false => hQ (((pre.filter fun c => !isLet c).map sg).map D.str ++ [D.str (sg c)]) ⟨pre ++ [c], post, rfl, e3, by rw [List.filter_append, List.filter_cons, hb]; simp⟩
            generalize ((pre.filter fun c => !isLet c).map sg).map D.str = acc at *
            simp [dAsg, dOwn, dC, dVar, dOp, dUn, dCl, dClB, dOpB, dBs, dCons, dNil, dTup, dLst, dIf, dAnd, dOr, dNot, dAndV, dOrV, dNotV, dTest, dChain, dCond, dRet, dRetO, dRetN, dRetOwn, dNext, dDrop, dCall, dCallN, dCallB, dCallH, dCallHN, hName, hTup_tup, hCons_cons, hNil_nil, dItems, dRange1, dRange2, dEnum, dAltI, dAppend, dPopAt, dPop, dSetIx, dPutK, dIxB, dListB, dSl, dPart, dNoPart, dDisp1, dFor, dComp, dYes, oAdd, oSub, oMod, oFdiv, oPow, oLt, oLe, oGt, oGe, oMul, oNeg, oI, oI0, oEq, oNe, oIn, oIs, oIx, oLen, oInt, oI1, oAbs, oI2, oDivmod, oList, oTuple, oUpper, oIsi, oIsi2, Sl.own, peek, isLst, lstOf, isDic, keysOf, valsOf, D.flat, D.isObj, D.ty, subTy, D.isN, dq_int, dq_bl, dq_bi, dq_ib, dq_str, dq_non, dq_lst, dq_tup, dq_nil, dq_cons, asLst, asTup, asStr, asSeq, Ret.d, endsD, Slot.hid, unsets, phDraw, plain_int, plain_bl, plain_non, List.getElem?_cons_zero, List.getElem?_cons_succ, List.set_cons_zero, List.set_cons_succ]
            have em : c ∈ (Str.ofString "abcdefghijklmnopqrstuvwxyz").cps ↔ isLet c = true := by
              rw [Array.mem_def]
              refine abc_mem.trans ?_
              simp
            rw [em]
            cases hb : isLet c with
            | true => exact .inl ⟨rfl, q1 hb⟩
            | false => exact .inr ⟨by simp, ea, q2 hb⟩
      · rw [if_neg h2]
        have b2 : decide (z.length ≤ 6) = false := decide_eq_false (by omega)
        rw [b2] at h
        simpa using h
    · rw [if_neg h1]
      have b1 : decide (1 ≤ z.length) = false := decide_eq_false (by omega)
      rw [b1] at h
      simpa using h
  all_goals simp [dl_is_label, startD, nm_is_label, dSeq, dAsg, dOwn, dC, dVar, dOp, dUn, dCl, dClB, dOpB, dBs, dCons, dNil, dTup, dLst, dIf, dAnd, dOr, dNot, dAndV, dOrV, dNotV, dTest, dChain, dCond, dRet, dRetO, dRetN, dRetOwn, dNext, dDrop, dCall, dCallN, dCallB, dCallH, dCallHN, hName, hTup_tup, hCons_cons, hNil_nil, dItems, dRange1, dRange2, dEnum, dAltI, dAppend, dPopAt, dPop, dSetIx, dPutK, dIxB, dListB, dSl, dPart, dNoPart, dDisp1, dFor, dComp, dYes, oAdd, oSub, oMod, oFdiv, oPow, oLt, oLe, oGt, oGe, oMul, oNeg, oI, oI0, oEq, oNe, oIn, oIs, oIx, oLen, oInt, oI1, oAbs, oI2, oDivmod, oList, oTuple, oUpper, oIsi, oIsi2, Sl.own, peek, isLst, lstOf, isDic, keysOf, valsOf, D.flat, D.isObj, D.ty, subTy, D.isN, dq_int, dq_bl, dq_bi, dq_ib, dq_str, dq_non, dq_lst, dq_tup, dq_nil, dq_cons, asLst, asTup, asStr, asSeq, Ret.d, endsD, Slot.hid, unsets, phDraw, plain_int, plain_bl, plain_non, List.getElem?_cons_zero, List.getElem?_cons_succ, List.set_cons_zero, List.set_cons_succ]
  all_goals exact h
theorem p__law_label (ds : List D) (Q : Ret → Prop) (QE : D → Prop) (hl : ds.length = 1) (h : ph__law_label ds Q QE) : dl__law_label (endsD Q QE) (startD nm__law_label ds) := p_is_label ds Q QE hl h
end Ka
namespace Ka
open PySem L2 Dx
theorem ok_of {l : List Nat} (h1 : l.length ≤ 1000) (h2 : ∀ c ∈ l, c < 1114112) : okStr (wd l) = true := by
  show (decide (l.length ≤ 1000) && l.all fun c => decide (c < 1114112)) = true
  simp only [Bool.and_eq_true, decide_eq_true_eq, List.all_eq_true]
  exact ⟨h1, h2⟩
theorem upper_wd {l : List Nat} (h : ∀ c ∈ l, 97 ≤ c ∧ c ≤ 122) : Txt.upper (wd l) = wd (l.map PyProof.Rows.up1) := by
  rw [PyProof.Rows.upper_ascii (x := wd l) (fun c hc => by have := h c hc; omega)]
  show (⟨l.toArray.map PyProof.Rows.up1⟩ : Str) = ⟨(l.map PyProof.Rows.up1).toArray⟩
  simp
theorem p__law_odd (ds : List D) (Q : Ret → Prop) (QE : D → Prop) (hl : ds.length = 0) (h : ph__law_odd ds Q QE) : dl__law_odd (endsD Q QE) (startH nm__law_odd ds) := by
  obtain ⟨rfl, h⟩ := h
  simp [dl__law_odd, startH, nm__law_odd, dSeq, dAsg, dOwn, dC, dVar, dOp, dUn, dCl, dClB, dOpB, dBs, dCons, dNil, dTup, dLst, dIf, dAnd, dOr, dNot, dAndV, dOrV, dNotV, dTest, dChain, dCond, dRet, dRetO, dRetN, dRetOwn, dNext, dDrop, dCall, dCallN, dCallB, dCallH, dCallHN, hName, hTup_tup, hCons_cons, hNil_nil, dItems, dRange1, dRange2, dEnum, dAltI, dAppend, dPopAt, dPop, dSetIx, dPutK, dIxB, dListB, dSl, dPart, dNoPart, dDisp1, dFor, dComp, dYes, oAdd, oSub, oMod, oFdiv, oPow, oLt, oLe, oGt, oGe, oMul, oNeg, oI, oI0, oEq, oNe, oIn, oIs, oIx, oLen, oInt, oI1, oAbs, oI2, oDivmod, oList, oTuple, oUpper, oIsi, oIsi2, Sl.own, peek, isLst, lstOf, isDic, keysOf, valsOf, D.flat, D.isObj, D.ty, subTy, D.isN, dq_int, dq_bl, dq_bi, dq_ib, dq_str, dq_non, dq_lst, dq_tup, dq_nil, dq_cons, asLst, asTup, asStr, asSeq, Ret.d, endsD, Slot.hid, unsets, phDraw, plain_int, plain_bl, plain_non, List.getElem?_cons_zero, List.getElem?_cons_succ, List.set_cons_zero, List.set_cons_succ, ph__law_word]
  refine ⟨5, rfl, by decide, by decide, fun l l1 l5 hc => ?_⟩
  have c1 : (Str.ofString "-" : Str) = wd [45] := by decide +kernel
  have c2 : (Str.ofString "abcdef" : Str) = wd [97, 98, 99, 100, 101, 102] := by decide +kernel
  have c3 : (Str.ofString " " : Str) = wd [32] := by decide +kernel
  rw [c1, c2, c3, wd_nil, upper_wd hc]
  simp only [wd_app, wd_len]
  have sz := size_ge
  refine ⟨by omega, by simp; omega, by simp; omega, by omega, by simp; omega, .inr (wd l), rfl, by omega, ?_⟩
  refine ⟨_, _, rfl, rfl, by simp, by simp, fun x hx => ?_⟩
  have ns : ∀ d : D, d.isObj = false → (∀ z, d ≠ .str z) → Q (.val d) := fun d h1 h2 => h d h1 fun z e => (h2 z e).elim
  have st : ∀ m : List Nat, m.length ≤ 1000 → (∀ c ∈ m, c < 1114112) → Q (.val (.str (wd m))) := fun m h1 h2 => h _ rfl fun z e => by cases e; exact ok_of h1 h2
  have lt : ∀ c ∈ l, c < 1114112 := fun c z => by have := hc c z; omega
  simp only [List.mem_cons, List.not_mem_nil, or_false] at hx
  rcases hx with rfl | rfl | rfl | rfl | rfl | rfl | rfl | rfl | rfl | rfl | rfl | rfl | rfl
  · exact ns _ rfl (fun z e => nomatch e)
  · exact ns _ rfl (fun z e => nomatch e)
  · exact ns _ rfl (fun z e => nomatch e)
  · exact st [] (by decide) (by simp)
  · refine st _ (by simp; omega) fun c hc' => ?_
    obtain ⟨a, ha, rfl⟩ := List.mem_map.mp hc'
    have := hc a ha
    unfold PyProof.Rows.up1
    split <;> omega
  · refine st _ (by simp; omega) fun c hc' => ?_
    rcases List.mem_append.mp hc' with z | z
    · exact lt c z
    · rw [List.mem_singleton.mp z]; decide
  · refine st _ (by simp; omega) fun c hc' => ?_
    rcases List.mem_append.mp hc' with z | z
    · exact lt c z
    · simp only [List.mem_cons, List.not_mem_nil, or_false] at z
      omega
  · exact ns _ rfl (fun z e => nomatch e)
  · exact ns _ rfl (fun z e => nomatch e)
  · exact ns _ rfl (fun z e => nomatch e)
  · refine st _ (by simp; omega) fun c hc' => ?_
    rcases List.mem_append.mp hc' with z | z
    · exact lt c z
    · rw [List.mem_singleton.mp z]; decide
  · exact st _ (by omega) lt
  · exact ns _ rfl (fun z e => nomatch e)
theorem p__law_taken (ds : List D) (Q : Ret → Prop) (QE : D → Prop) (hl : ds.length = 0) (h : ph__law_taken ds Q QE) : dl__law_taken (endsD Q QE) (startH nm__law_taken ds) := by
  obtain ⟨rfl, h⟩ := h
  simp [dl__law_taken, startH, nm__law_taken, dSeq, dAsg, dOwn, dC, dVar, dOp, dUn, dCl, dClB, dOpB, dBs, dCons, dNil, dTup, dLst, dIf, dAnd, dOr, dNot, dAndV, dOrV, dNotV, dTest, dChain, dCond, dRet, dRetO, dRetN, dRetOwn, dNext, dDrop, dCall, dCallN, dCallB, dCallH, dCallHN, hName, hTup_tup, hCons_cons, hNil_nil, dItems, dRange1, dRange2, dEnum, dAltI, dAppend, dPopAt, dPop, dSetIx, dPutK, dIxB, dListB, dSl, dPart, dNoPart, dDisp1, dFor, dComp, dYes, oAdd, oSub, oMod, oFdiv, oPow, oLt, oLe, oGt, oGe, oMul, oNeg, oI, oI0, oEq, oNe, oIn, oIs, oIx, oLen, oInt, oI1, oAbs, oI2, oDivmod, oList, oTuple, oUpper, oIsi, oIsi2, Sl.own, peek, isLst, lstOf, isDic, keysOf, valsOf, D.flat, D.isObj, D.ty, subTy, D.isN, dq_int, dq_bl, dq_bi, dq_ib, dq_str, dq_non, dq_lst, dq_tup, dq_nil, dq_cons, asLst, asTup, asStr, asSeq, Ret.d, endsD, Slot.hid, unsets, phDraw, plain_int, plain_bl, plain_non, List.getElem?_cons_zero, List.getElem?_cons_succ, List.set_cons_zero, List.set_cons_succ]
  refine ⟨log_small (by decide), fun r r0 r1 => ⟨by omega, by omega, ?_⟩⟩
  refine fo_of (fun ds s => ∃ (ws : List Str) (x y : Slot), s = [.hand, .own (.lst (ws.map .str)), x, y] ∧ ws.length + ds.length = r.toNat ∧ ∀ z ∈ ws, isLab (.str z) = true) ?_ ?_ ⟨[], .un, .un, rfl, by simp [rangeD], by simp⟩
  · rintro s ⟨ws, x, y, rfl, hl, hw⟩
    rw [List.length_nil] at hl
    simp [dAsg, dOwn, dC, dVar, dOp, dUn, dCl, dClB, dOpB, dBs, dCons, dNil, dTup, dLst, dIf, dAnd, dOr, dNot, dAndV, dOrV, dNotV, dTest, dChain, dCond, dRet, dRetO, dRetN, dRetOwn, dNext, dDrop, dCall, dCallN, dCallB, dCallH, dCallHN, hName, hTup_tup, hCons_cons, hNil_nil, dItems, dRange1, dRange2, dEnum, dAltI, dAppend, dPopAt, dPop, dSetIx, dPutK, dIxB, dListB, dSl, dPart, dNoPart, dDisp1, dFor, dComp, dYes, oAdd, oSub, oMod, oFdiv, oPow, oLt, oLe, oGt, oGe, oMul, oNeg, oI, oI0, oEq, oNe, oIn, oIs, oIx, oLen, oInt, oI1, oAbs, oI2, oDivmod, oList, oTuple, oUpper, oIsi, oIsi2, Sl.own, peek, isLst, lstOf, isDic, keysOf, valsOf, D.flat, D.isObj, D.ty, subTy, D.isN, dq_int, dq_bl, dq_bi, dq_ib, dq_str, dq_non, dq_lst, dq_tup, dq_nil, dq_cons, asLst, asTup, asStr, asSeq, Ret.d, endsD, Slot.hid, unsets, phDraw, plain_int, plain_bl, plain_non, List.getElem?_cons_zero, List.getElem?_cons_succ, List.set_cons_zero, List.set_cons_succ]
    exact h ws (by omega) hw
  · rintro d ds s ⟨ws, x, y, rfl, hl, hw⟩ k hk
    rw [List.length_cons] at hl
    have sz := size_ge
    have put : ∀ (z : Str) (x y : Slot), isLab (.str z) = true → k [.hand, .own (.lst (ws.map .str ++ [.str z])), x, y] := fun z x y hz => hk _ ⟨ws ++ [z], x, y, by simp, by simp; omega, fun w hw' => by
      rcases List.mem_append.mp hw' with q | q
      · exact hw w q
      · rw [List.mem_singleton.mp q]; exact hz⟩
    simp [dSeq, dAsg, dOwn, dC, dVar, dOp, dUn, dCl, dClB, dOpB, dBs, dCons, dNil, dTup, dLst, dIf, dAnd, dOr, dNot, dAndV, dOrV, dNotV, dTest, dChain, dCond, dRet, dRetO, dRetN, dRetOwn, dNext, dDrop, dCall, dCallN, dCallB, dCallH, dCallHN, hName, hTup_tup, hCons_cons, hNil_nil, dItems, dRange1, dRange2, dEnum, dAltI, dAppend, dPopAt, dPop, dSetIx, dPutK, dIxB, dListB, dSl, dPart, dNoPart, dDisp1, dFor, dComp, dYes, oAdd, oSub, oMod, oFdiv, oPow, oLt, oLe, oGt, oGe, oMul, oNeg, oI, oI0, oEq, oNe, oIn, oIs, oIx, oLen, oInt, oI1, oAbs, oI2, oDivmod, oList, oTuple, oUpper, oIsi, oIsi2, Sl.own, peek, isLst, lstOf, isDic, keysOf, valsOf, D.flat, D.isObj, D.ty, subTy, D.isN, dq_int, dq_bl, dq_bi, dq_ib, dq_str, dq_non, dq_lst, dq_tup, dq_nil, dq_cons, asLst, asTup, asStr, asSeq, Ret.d, endsD, Slot.hid, unsets, phDraw, plain_int, plain_bl, plain_non, List.getElem?_cons_zero, List.getElem?_cons_succ, List.set_cons_zero, List.set_cons_succ]
    refine ⟨log_small (by decide), fun w w0 w1 => ?_⟩
    have lw : ws.length < sizeLine := by omega
    have ap : ∀ (r : Int) (x y : Slot), 0 ≤ r → r < 30 → ph__law_label_at [D.int r] (fun r => ws.length < sizeLine ∧ k [.hand, .own (.lst (ws.map .str ++ [match r with | .val d => d | .own d => d])), x, y]) fun x => QE x := fun r x y r0 r1 => by
      obtain ⟨n, rfl⟩ := Int.eq_ofNat_of_zero_le r0
      exact ⟨n, rfl, by omega, lw, put _ _ _ (isLab_lab (by omega))⟩
    by_cases h0 : w = 0
    · rw [if_pos h0]
      exact ⟨6, rfl, by decide, by decide, fun l l1 l2 hc => ⟨lw, put _ _ _ (isLab_wd l1 l2 hc)⟩⟩
    · rw [if_neg h0]
      by_cases h1 : w = 1
      · rw [if_pos h1]
        refine ⟨plain_strsL fun z hz => lab_valid (hw z hz), plain_strsL (ws := []) (by simp), ?_⟩
        rw [eqvs_nil]
        cases hE : ws.isEmpty with
        | true => exact .inl ⟨rfl, log_small (by decide), fun r r0 r1 => ap r _ _ r0 r1⟩
        | false =>
          refine .inr ⟨rfl, _, _, rfl, rfl, ?_, ?_, fun x hx => ?_⟩
          · cases ws with
            | nil => cases hE
            | cons _ _ => simp
          · simp; omega
          · obtain ⟨z, hz, rfl⟩ := List.mem_map.mp hx
            exact ⟨lw, put z _ _ (hw z hz)⟩
      · rw [if_neg h1]
        exact ⟨log_small (by decide), fun r r0 r1 => ap r _ _ r0 r1⟩
end Ka
namespace Ka
open PySem L2 Dx
theorem labR_inj : ∀ (n m : Nat), labR n = labR m → n = m := by
  intro n
  induction n using Nat.strongRecOn with
  | _ n ih =>
    intro m e
    by_cases h : 0 < n
    · by_cases h2 : 0 < m
      · rw [labR_pos h, labR_pos h2] at e
        obtain ⟨e1, e2⟩ := List.append_inj' e rfl
        have := ih _ (by omega) _ e1
        have e3 : 97 + (n - 1) % 26 = 97 + (m - 1) % 26 := by simpa using e2
        omega
      · have : m = 0 := by omega
        subst this
        rw [labR_pos h, labR_zero] at e
        have := congrArg List.length e
        simp at this
    · have : n = 0 := by omega
      subst this
      by_cases h2 : 0 < m
      · rw [labR_pos h2, labR_zero] at e
        have := congrArg List.length e
        simp at this
      · omega
theorem lab_inj {i j : Nat} (h : lab i = lab j) : i = j := by
  have := labR_inj _ _ (wd_inj h)
  omega
theorem sub_len : ∀ (l ws : List Str), l.Nodup → (∀ x ∈ l, x ∈ ws) → l.length ≤ ws.length
  | [], _, _, _ => Nat.zero_le _
  | x :: l, ws, nd, h => by
    have hx := h x List.mem_cons_self
    obtain ⟨n1, n2⟩ := List.nodup_cons.mp nd
    have := sub_len l (ws.erase x) n2 fun y hy => (List.mem_erase_of_ne (fun e : y = x => n1 (by rw [← e]; exact hy))).mpr (h y (List.mem_cons_of_mem _ hy))
    have e := List.length_erase_of_mem hx
    have p : 0 < ws.length := List.length_pos_of_mem hx
    rw [List.length_cons]
    omega
theorem filt_len (p : Str → Bool) : ∀ l : List Str, (l.filter fun z => !p z).length + (l.filter p).length = l.length
  | [] => rfl
  | x :: l => by
    have := filt_len p l
    rw [List.filter_cons, List.filter_cons]
    cases p x <;> simp <;> omega
theorem labs_nodup (n : Nat) : ((List.range n).map lab).Nodup := by
  refine List.Pairwise.map _ (fun a b h e => h (lab_inj e)) (List.nodup_range)
def kept (ws : List Str) (n : Nat) : List Str := ((List.range n).map lab).filter fun z => !ws.contains z
theorem kept_len (ws : List Str) (n : Nat) : n ≤ (kept ws n).length + ws.length := by
  have h1 := filt_len (fun z => ws.contains z) ((List.range n).map lab)
  have h2 : (((List.range n).map lab).filter fun z => ws.contains z).length ≤ ws.length := by
    refine sub_len _ _ ((labs_nodup n).filter _) fun x hx => ?_
    have := (List.mem_filter.mp hx).2
    simpa using this
  rw [List.length_map, List.length_range] at h1
  unfold kept
  omega
theorem kept_succ (ws : List Str) (n : Nat) : kept ws (n + 1) = kept ws n ++ if ws.contains (lab n) then [] else [lab n] := by
  unfold kept
  rw [List.range_succ, List.map_append, List.filter_append, List.map_cons, List.map_nil, List.filter_cons]
  cases ws.contains (lab n) <;> rfl
theorem kept_take (ws : List Str) (n : Nat) : ∀ j, (kept ws (n + j)).take (kept ws n).length = kept ws n
  | 0 => by simp
  | j + 1 => by
    have e : n + (j + 1) = (n + j) + 1 := by omega
    have h := kept_take ws n j
    have hl : (kept ws n).length ≤ (kept ws (n + j)).length := by
      have := congrArg List.length h
      rw [List.length_take] at this
      omega
    rw [e, kept_succ, List.take_append_of_le_length hl, h]
theorem p_fresh_labels (ds : List D) (Q : Ret → Prop) (QE : D → Prop) (hl : ds.length = 2) (h : ph_fresh_labels ds Q QE) : dl_fresh_labels (endsD Q QE) (startD nm_fresh_labels ds) := by
  obtain ⟨d, ws, m, rfl, hd, l12, m1, hw, h⟩ := h
  have go : ∀ A : Slot, (dFo (hName 3) (dPutK 2 (dC (D.bl true)) (dVar 3))
    { nx :=
        dSeq (dOwn 4 (dLst dNil))
          (dSeq (dAsg (dC (D.int 0)) (hName 5))
            (dSeq
              (dWhile (dTest (dOp (oI0 fun i j => D.bl (decide (i < j))) (dClB oLen [Bi.nm 4]) (dVar 1)))
                (dSeq (dAsg (dCall 1 ph_label_at (dCons (dVar 5) dNil)) (hName 6))
                  (dSeq (dCond (dTest (dOpB (oIn true) (Bi.ex (dVar 6)) (Bi.nm 2))) (dAppend 4 (dVar 6)) dNext)
                    (dAsg (dOp oAdd (dVar 5) (dC (D.int 1))) (hName 5)))))
              (dRet (dCl oTuple (dCons (dVar 4) dNil)))))
          (endsD Q QE),
      rt := Q, bk := fun x => False, ct := fun x => False, ex := fun x x_1 => QE x } (List.map D.str ws) [A, Slot.val (D.int m), Slot.own (D.dic [] []), Slot.un, Slot.un, Slot.un, Slot.un]) := by
    intro A
    have sz := size_ge
    refine fo_of (fun ds s => ∃ (pre post : List Str) (ks : List Key) (vs : List D) (x : Slot), ds = post.map .str ∧ pre ++ post = ws ∧ s = [A, .val (.int m), .own (.dic ks vs), x, .un, .un, .un] ∧ ks.length ≤ pre.length ∧ ∀ z, hasKey (.inr z) ks = pre.contains z) ?_ ?_ ⟨[], ws, [], [], .un, rfl, rfl, rfl, Nat.le_refl _, fun z => rfl⟩
    · rintro s ⟨pre, post, ks, vs, x, e1, e2, rfl, _, hk⟩
      have : post = [] := by cases post with | nil => rfl | cons _ _ => cases e1
      subst this
      rw [List.append_nil] at e2
      subst e2
      simp [dSeq, dAsg, dOwn, dC, dVar, dOp, dUn, dCl, dClB, dOpB, dBs, dCons, dNil, dTup, dLst, dIf, dAnd, dOr, dNot, dAndV, dOrV, dNotV, dTest, dChain, dCond, dRet, dRetO, dRetN, dRetOwn, dNext, dDrop, dCall, dCallN, dCallB, dCallH, dCallHN, hName, hTup_tup, hCons_cons, hNil_nil, dItems, dRange1, dRange2, dEnum, dAltI, dAppend, dPopAt, dPop, dSetIx, dPutK, dIxB, dListB, dSl, dPart, dNoPart, dDisp1, dFor, dComp, dYes, oAdd, oSub, oMod, oFdiv, oPow, oLt, oLe, oGt, oGe, oMul, oNeg, oI, oI0, oEq, oNe, oIn, oIs, oIx, oLen, oInt, oI1, oAbs, oI2, oDivmod, oList, oTuple, oUpper, oIsi, oIsi2, Sl.own, peek, isLst, lstOf, isDic, keysOf, valsOf, D.flat, D.isObj, D.ty, subTy, D.isN, dq_int, dq_bl, dq_bi, dq_ib, dq_str, dq_non, dq_lst, dq_tup, dq_nil, dq_cons, asLst, asTup, asStr, asSeq, Ret.d, endsD, Slot.hid, unsets, phDraw, plain_int, plain_bl, plain_non, List.getElem?_cons_zero, List.getElem?_cons_succ, List.set_cons_zero, List.set_cons_succ]
      refine wh_of (fun n s => ∃ (i : Nat) (y : Slot), s = [A, .val (.int m), .own (.dic ks vs), x, .own (.lst ((kept pre i).map .str)), .val (.int i), y] ∧ n + i = m + pre.length ∧ (kept pre i).length ≤ m) ?_ (n := m + pre.length) ⟨0, .un, rfl, rfl, Nat.zero_le _⟩
      rintro n s ⟨i, y, rfl, e, le⟩ k hkk
      simp [dAsg, dOwn, dC, dVar, dOp, dUn, dCl, dClB, dOpB, dBs, dCons, dNil, dTup, dLst, dIf, dAnd, dOr, dNot, dAndV, dOrV, dNotV, dTest, dChain, dCond, dRet, dRetO, dRetN, dRetOwn, dNext, dDrop, dCall, dCallN, dCallB, dCallH, dCallHN, hName, hTup_tup, hCons_cons, hNil_nil, dItems, dRange1, dRange2, dEnum, dAltI, dAppend, dPopAt, dPop, dSetIx, dPutK, dIxB, dListB, dSl, dPart, dNoPart, dDisp1, dFor, dComp, dYes, oAdd, oSub, oMod, oFdiv, oPow, oLt, oLe, oGt, oGe, oMul, oNeg, oI, oI0, oEq, oNe, oIn, oIs, oIx, oLen, oInt, oI1, oAbs, oI2, oDivmod, oList, oTuple, oUpper, oIsi, oIsi2, Sl.own, peek, isLst, lstOf, isDic, keysOf, valsOf, D.flat, D.isObj, D.ty, subTy, D.isN, dq_int, dq_bl, dq_bi, dq_ib, dq_str, dq_non, dq_lst, dq_tup, dq_nil, dq_cons, asLst, asTup, asStr, asSeq, Ret.d, endsD, Slot.hid, unsets, phDraw, plain_int, plain_bl, plain_non, List.getElem?_cons_zero, List.getElem?_cons_succ, List.set_cons_zero, List.set_cons_succ]
      by_cases hlt : (kept pre i).length < m
      · rw [if_pos hlt]
        have ki := kept_len pre i
        simp [dSeq, dAsg, dOwn, dC, dVar, dOp, dUn, dCl, dClB, dOpB, dBs, dCons, dNil, dTup, dLst, dIf, dAnd, dOr, dNot, dAndV, dOrV, dNotV, dTest, dChain, dCond, dRet, dRetO, dRetN, dRetOwn, dNext, dDrop, dCall, dCallN, dCallB, dCallH, dCallHN, hName, hTup_tup, hCons_cons, hNil_nil, dItems, dRange1, dRange2, dEnum, dAltI, dAppend, dPopAt, dPop, dSetIx, dPutK, dIxB, dListB, dSl, dPart, dNoPart, dDisp1, dFor, dComp, dYes, oAdd, oSub, oMod, oFdiv, oPow, oLt, oLe, oGt, oGe, oMul, oNeg, oI, oI0, oEq, oNe, oIn, oIs, oIx, oLen, oInt, oI1, oAbs, oI2, oDivmod, oList, oTuple, oUpper, oIsi, oIsi2, Sl.own, peek, isLst, lstOf, isDic, keysOf, valsOf, D.flat, D.isObj, D.ty, subTy, D.isN, dq_int, dq_bl, dq_bi, dq_ib, dq_str, dq_non, dq_lst, dq_tup, dq_nil, dq_cons, asLst, asTup, asStr, asSeq, Ret.d, endsD, Slot.hid, unsets, phDraw, plain_int, plain_bl, plain_non, List.getElem?_cons_zero, List.getElem?_cons_succ, List.set_cons_zero, List.set_cons_succ]
        refine ⟨i, rfl, by omega, .inr (lab i), rfl, ?_⟩
        cases hc : pre.contains (lab i) with
        | true =>
          have ek : kept pre (i + 1) = kept pre i := by rw [kept_succ, if_pos hc, List.append_nil]
          exact .inl ⟨(hk _).trans hc, hkk (n - 1) _ (by omega) ⟨i + 1, _, by rw [ek]; rfl, by omega, by rw [ek]; exact le⟩⟩
        | false =>
          have ek : kept pre (i + 1) = kept pre i ++ [lab i] := by rw [kept_succ, if_neg (by rw [hc]; decide)]
          exact .inr ⟨(hk _).trans hc, by omega, hkk (n - 1) _ (by omega) ⟨i + 1, _, by rw [ek, List.map_append]; rfl, by omega, by rw [ek, List.length_append, List.length_singleton]; omega⟩⟩
      · rw [if_neg hlt]
        have em : (kept pre i).length = m := by omega
        have ef : fresh pre m = kept pre i := by
          have := kept_take pre i n
          rw [Nat.add_comm i n, e, em] at this
          exact this
        rw [ef] at h
        exact h
    · rintro d r s ⟨pre, post, ks, vs, x, e1, e2, rfl, lk, hk⟩ k hkk
      cases post with
      | nil => cases e1
      | cons z post =>
        cases e1
        simp [dAsg, dOwn, dC, dVar, dOp, dUn, dCl, dClB, dOpB, dBs, dCons, dNil, dTup, dLst, dIf, dAnd, dOr, dNot, dAndV, dOrV, dNotV, dTest, dChain, dCond, dRet, dRetO, dRetN, dRetOwn, dNext, dDrop, dCall, dCallN, dCallB, dCallH, dCallHN, hName, hTup_tup, hCons_cons, hNil_nil, dItems, dRange1, dRange2, dEnum, dAltI, dAppend, dPopAt, dPop, dSetIx, dPutK, dIxB, dListB, dSl, dPart, dNoPart, dDisp1, dFor, dComp, dYes, oAdd, oSub, oMod, oFdiv, oPow, oLt, oLe, oGt, oGe, oMul, oNeg, oI, oI0, oEq, oNe, oIn, oIs, oIx, oLen, oInt, oI1, oAbs, oI2, oDivmod, oList, oTuple, oUpper, oIsi, oIsi2, Sl.own, peek, isLst, lstOf, isDic, keysOf, valsOf, D.flat, D.isObj, D.ty, subTy, D.isN, dq_int, dq_bl, dq_bi, dq_ib, dq_str, dq_non, dq_lst, dq_tup, dq_nil, dq_cons, asLst, asTup, asStr, asSeq, Ret.d, endsD, Slot.hid, unsets, phDraw, plain_int, plain_bl, plain_non, List.getElem?_cons_zero, List.getElem?_cons_succ, List.set_cons_zero, List.set_cons_succ]
        have lp : pre.length ≤ 12 := by
          rw [← e2, List.length_append] at l12
          omega
        refine ⟨.inr z, rfl, by omega, hkk _ ⟨pre ++ [z], post, _, _, _, rfl, by rw [← e2]; simp, rfl, ?_, fun w => ?_⟩⟩
        · unfold putKey
          split
          · simp; omega
          · simp; omega
        · unfold putKey
          have ea : ∀ (a b : List Key), hasKey (.inr w) (a ++ b) = (hasKey (.inr w) a || hasKey (.inr w) b) := fun a b => by unfold hasKey; rw [List.any_append]
          have e1 : hasKey (.inr w) [Sum.inr z] = decide (z = w) := by
            unfold hasKey
            simp
          have e2 : (pre ++ [z]).contains w = (pre.contains w || decide (z = w)) := by
            rw [Bool.eq_iff_iff]
            simp
            constructor
            · rintro (q | q)
              · exact .inl q
              · exact .inr q.symm
            · rintro (q | q)
              · exact .inl q
              · exact .inr q.symm
          rw [e2]
          split
          · rename_i hc
            rw [hk] at hc
            rw [hk]
            by_cases hw : z = w
            · subst hw
              rw [hc]
              rfl
            · rw [decide_eq_false hw, Bool.or_false]
          · rw [ea, e1, hk]
  cases d <;> first | (cases hd; done) | skip
  all_goals obtain rfl : _ = ws.map D.str := Option.some.inj hd
  all_goals simp [dl_fresh_labels, startD, nm_fresh_labels, dSeq, dAsg, dOwn, dC, dVar, dOp, dUn, dCl, dClB, dOpB, dBs, dCons, dNil, dTup, dLst, dIf, dAnd, dOr, dNot, dAndV, dOrV, dNotV, dTest, dChain, dCond, dRet, dRetO, dRetN, dRetOwn, dNext, dDrop, dCall, dCallN, dCallB, dCallH, dCallHN, hName, hTup_tup, hCons_cons, hNil_nil, dItems, dRange1, dRange2, dEnum, dAltI, dAppend, dPopAt, dPop, dSetIx, dPutK, dIxB, dListB, dSl, dPart, dNoPart, dDisp1, dFor, dComp, dYes, oAdd, oSub, oMod, oFdiv, oPow, oLt, oLe, oGt, oGe, oMul, oNeg, oI, oI0, oEq, oNe, oIn, oIs, oIx, oLen, oInt, oI1, oAbs, oI2, oDivmod, oList, oTuple, oUpper, oIsi, oIsi2, Sl.own, peek, isLst, lstOf, isDic, keysOf, valsOf, D.flat, D.isObj, D.ty, subTy, D.isN, dq_int, dq_bl, dq_bi, dq_ib, dq_str, dq_non, dq_lst, dq_tup, dq_nil, dq_cons, asLst, asTup, asStr, asSeq, Ret.d, endsD, Slot.hid, unsets, phDraw, plain_int, plain_bl, plain_non, List.getElem?_cons_zero, List.getElem?_cons_succ, List.set_cons_zero, List.set_cons_succ]
  all_goals exact go _
end Ka
namespace Ka
open PySem L2 Dx
theorem eqv_str (z : Str) : D.eqv (.str z) (.str z) = true := by
  unfold D.eqv
  simp
theorem lab_valid_all (i : Nat) : validS (lab i) = true := by
  show ((labR (i + 1)).all fun c => decide (c < 1114112)) = true
  rw [List.all_eq_true]
  intro c hc
  have := lab_let (i + 1) c hc
  exact decide_eq_true (by omega)
theorem label_iff {j : Int} {P : Ret → Prop} {E : D → Prop} : ph_label_at [.int j] P E ↔ (0 ≤ j ∧ j < 1125899906842624) ∧ P (.val (.str (lab j.toNat))) := by
  constructor
  · rintro ⟨i, e, h1, h2⟩
    cases e
    exact ⟨⟨by omega, by omega⟩, by simpa using h2⟩
  · rintro ⟨⟨h0, h1⟩, h2⟩
    exact ⟨j.toNat, by rw [Int.toNat_of_nonneg h0], by omega, h2⟩
theorem label_iff2 {j : Int} {P : Ret → Prop} {E : D → Prop} : ph__law_label_at [.int j] P E ↔ (0 ≤ j ∧ j < 1125899906842624) ∧ P (.val (.str (lab j.toNat))) := label_iff
theorem okStr_lab (i : Nat) (h : i < 321272406) : okStr (lab i) = true := by
  unfold okStr
  have h1 : (lab i).cps.toList.length ≤ 1000 := by
    have := lab_len 6 (i + 1) (by have e : tm (6 + 1) = 321272407 := by decide
                                  omega)
    exact Nat.le_trans this (by decide)
  have h2 := lab_valid_all i
  unfold validS at h2
  rw [decide_eq_true h1, h2]
  rfl
theorem isl_iff {d : D} {P : Ret → Prop} {E : D → Prop} : ph_is_label [d] P E ↔ d.isObj = false ∧ (∀ z, d = .str z → okStr z = true) ∧ P (.val (.bl (isLab d))) := by
  constructor
  · rintro ⟨d', e, h⟩
    cases e
    exact h
  · exact fun h => ⟨d, rfl, h⟩
theorem isl_iff2 {d : D} {P : Ret → Prop} {E : D → Prop} : ph__law_label [d] P E ↔ d.isObj = false ∧ (∀ z, d = .str z → okStr z = true) ∧ P (.val (.bl (isLab d))) := isl_iff
theorem isw_iff {d : D} {lo hi : Int} {P : Ret → Prop} {E : D → Prop} : ph_is_whole [d, .int lo, .int hi] P E ↔ d.isObj = false ∧ P (.val (.bl (isWh d lo hi))) := by
  constructor
  · rintro ⟨d', lo', hi', e, h⟩
    cases e
    exact h
  · exact fun h => ⟨d, lo, hi, rfl, h⟩
theorem isq_iff {d : D} {P : Ret → Prop} {E : D → Prop} : ph_is_sequence [d] P E ↔ d.isObj = false ∧ P (.val (.bl (isSq d))) := by
  constructor
  · rintro ⟨d', e, h⟩
    cases e
    exact h
  · exact fun h => ⟨d, rfl, h⟩
theorem plain_lab (j : Nat) : (D.str (lab j)).plain := plain_str (lab_valid_all j)
theorem range_from (n : Nat) : rangeD 0 n = (List.range' 0 n).map fun k : Nat => D.int k := by
  unfold rangeD
  rw [List.range_eq_range']
  refine List.map_congr_left fun k _ => ?_
  rw [Int.zero_add]
theorem memb_strs (z : Str) : ∀ ws : List Str, D.memb (.str z) (ws.map .str) = ws.contains z
  | [] => rfl
  | w :: r => by
    have ih := memb_strs z r
    unfold D.memb at ih ⊢
    rw [List.map_cons, List.any_cons, ih, List.contains_cons]
    congr 1
    unfold D.eqv
    rw [Bool.eq_iff_iff]
    simp
    exact ⟨fun e => e.symm, fun e => e.symm⟩
theorem flat_strs (ws : List Str) : (ws.map D.str).all D.flat = true := by
  rw [List.all_eq_true]
  intro d hd
  obtain ⟨z, _, rfl⟩ := List.mem_map.mp hd
  rfl
theorem repr_iff {a b : Bool} {P : D → Prop} : oRepr [.tup [.bl a, .bl b]] P ↔ P (.str (PyData.tuple [.bool a, .bool b]).shown) := by
  have e : (D.tup [.bl a, .bl b]).py = some (.tuple [.bool a, .bool b]) := rfl
  unfold oRepr
  constructor
  · rintro ⟨p, h1, _, _, _, _, h⟩
    cases e.symm.trans h1
    exact h
  · intro h
    refine ⟨_, e, by cases a <;> cases b <;> decide +kernel, by cases a <;> cases b <;> decide +kernel, by cases a <;> cases b <;> decide +kernel, ?_, h⟩
    exact Nat.le_trans (by cases a <;> cases b <;> decide +kernel : _ ≤ 1000) (Nat.le_trans (by decide) size_ge)
theorem plain_shown (a b : Bool) : (D.str (PyData.tuple [.bool a, .bool b]).shown).plain := plain_str (by cases a <;> cases b <;> decide +kernel)
theorem take_step (ws : List Str) (m j : Nat) : (kept ws (j + 1)).take m = if ((kept ws j).take m).length < m ∧ ws.contains (lab j) = false then (kept ws j).take m ++ [lab j] else (kept ws j).take m := by
  rw [kept_succ]
  by_cases hl : (kept ws j).length < m
  · have e : (kept ws j).take m = kept ws j := List.take_of_length_le (by omega)
    cases hc : ws.contains (lab j) with
    | true =>
      rw [if_pos rfl, List.append_nil, if_neg (by simp)]
    | false =>
      rw [if_neg (by decide), e, if_pos ⟨hl, rfl⟩]
      exact List.take_of_length_le (by simp; omega)
  · rw [List.take_append_of_le_length (by omega), if_neg]
    intro z
    rw [List.length_take] at z
    omega
theorem both {c p A : Prop} [Decidable c] (hp : c → p) (h : A) : if c then p ∧ A else A := by
  split
  · rename_i hc
    exact ⟨hp hc, h⟩
  · exact h
theorem ite_imp {c A B : Prop} {inst : Decidable c} : @ite Prop c inst A B ↔ (c → A) ∧ (¬ c → B) := by
  cases inst with
  | isTrue h => exact ⟨fun q => ⟨fun _ => q, fun n => (n h).elim⟩, fun q => q.1 h⟩
  | isFalse h => exact ⟨fun q => ⟨fun n => (h n).elim, fun _ => q⟩, fun q => q.2 h⟩
theorem p_law (ns : List Int) (l63 : ns.length ≤ 63) : dl_law (endsD (fun r => r = .val (.bl true)) fun _ => False) (lawSl nm_law ns) := by
  have sz := size_ge
  unfold dl_law lawSl nm_law
  refine seq_step fun k1 hk1 => ?_
  simp [dAsg, dOwn, dC, dVar, dOp, dUn, dCl, dClB, dOpB, dBs, dCons, dNil, dTup, dLst, dIf, dAnd, dOr, dNot, dAndV, dOrV, dNotV, dTest, dChain, dCond, dRet, dRetO, dRetN, dRetOwn, dNext, dDrop, dCall, dCallN, dCallB, dCallH, dCallHN, hName, hTup_tup, hCons_cons, hNil_nil, dItems, dRange1, dRange2, dEnum, dAltI, dAppend, dPopAt, dPop, dSetIx, dPutK, dIxB, dListB, dSl, dPart, dNoPart, dDisp1, dFor, dComp, dYes, oAdd, oSub, oMod, oFdiv, oPow, oLt, oLe, oGt, oGe, oMul, oNeg, oI, oI0, oEq, oNe, oIn, oIs, oIx, oLen, oInt, oI1, oAbs, oI2, oDivmod, oList, oTuple, oUpper, oIsi, oIsi2, Sl.own, peek, isLst, lstOf, isDic, keysOf, valsOf, D.flat, D.isObj, D.ty, subTy, D.isN, dq_int, dq_bl, dq_bi, dq_ib, dq_str, dq_non, dq_lst, dq_tup, dq_nil, dq_cons, asLst, asTup, asStr, asSeq, Ret.d, endsD, Slot.hid, unsets, phDraw, plain_int, plain_bl, plain_non, List.getElem?_cons_zero, List.getElem?_cons_succ, List.set_cons_zero, List.set_cons_succ, ph__law_index]
  refine fun i hi => hk1 _ ?_
  clear hk1 k1
  refine seq_step fun k1 hk1 => ?_
  simp [dAsg, dOwn, dC, dVar, dOp, dUn, dCl, dClB, dOpB, dBs, dCons, dNil, dTup, dLst, dIf, dAnd, dOr, dNot, dAndV, dOrV, dNotV, dTest, dChain, dCond, dRet, dRetO, dRetN, dRetOwn, dNext, dDrop, dCall, dCallN, dCallB, dCallH, dCallHN, hName, hTup_tup, hCons_cons, hNil_nil, dItems, dRange1, dRange2, dEnum, dAltI, dAppend, dPopAt, dPop, dSetIx, dPutK, dIxB, dListB, dSl, dPart, dNoPart, dDisp1, dFor, dComp, dYes, oAdd, oSub, oMod, oFdiv, oPow, oLt, oLe, oGt, oGe, oMul, oNeg, oI, oI0, oEq, oNe, oIn, oIs, oIx, oLen, oInt, oI1, oAbs, oI2, oDivmod, oList, oTuple, oUpper, oIsi, oIsi2, Sl.own, peek, isLst, lstOf, isDic, keysOf, valsOf, D.flat, D.isObj, D.ty, subTy, D.isN, dq_int, dq_bl, dq_bi, dq_ib, dq_str, dq_non, dq_lst, dq_tup, dq_nil, dq_cons, asLst, asTup, asStr, asSeq, Ret.d, endsD, Slot.hid, unsets, phDraw, plain_int, plain_bl, plain_non, List.getElem?_cons_zero, List.getElem?_cons_succ, List.set_cons_zero, List.set_cons_succ, label_iff]
  refine ⟨by omega, hk1 _ ?_⟩
  clear hk1 k1
  refine seq_step fun k1 hk1 => ?_
  simp [dAsg, dOwn, dC, dVar, dOp, dUn, dCl, dClB, dOpB, dBs, dCons, dNil, dTup, dLst, dIf, dAnd, dOr, dNot, dAndV, dOrV, dNotV, dTest, dChain, dCond, dRet, dRetO, dRetN, dRetOwn, dNext, dDrop, dCall, dCallN, dCallB, dCallH, dCallHN, hName, hTup_tup, hCons_cons, hNil_nil, dItems, dRange1, dRange2, dEnum, dAltI, dAppend, dPopAt, dPop, dSetIx, dPutK, dIxB, dListB, dSl, dPart, dNoPart, dDisp1, dFor, dComp, dYes, oAdd, oSub, oMod, oFdiv, oPow, oLt, oLe, oGt, oGe, oMul, oNeg, oI, oI0, oEq, oNe, oIn, oIs, oIx, oLen, oInt, oI1, oAbs, oI2, oDivmod, oList, oTuple, oUpper, oIsi, oIsi2, Sl.own, peek, isLst, lstOf, isDic, keysOf, valsOf, D.flat, D.isObj, D.ty, subTy, D.isN, dq_int, dq_bl, dq_bi, dq_ib, dq_str, dq_non, dq_lst, dq_tup, dq_nil, dq_cons, asLst, asTup, asStr, asSeq, Ret.d, endsD, Slot.hid, unsets, phDraw, plain_int, plain_bl, plain_non, List.getElem?_cons_zero, List.getElem?_cons_succ, List.set_cons_zero, List.set_cons_succ, label_iff, label_iff2, isl_iff, plain_lab, okStr_lab i hi, isLab_lab hi]
  refine ⟨by omega, hk1 _ ?_⟩
  clear hk1 k1
  refine seq_step fun k1 hk1 => ?_
  simp [dAsg, dOwn, dC, dVar, dOp, dUn, dCl, dClB, dOpB, dBs, dCons, dNil, dTup, dLst, dIf, dAnd, dOr, dNot, dAndV, dOrV, dNotV, dTest, dChain, dCond, dRet, dRetO, dRetN, dRetOwn, dNext, dDrop, dCall, dCallN, dCallB, dCallH, dCallHN, hName, hTup_tup, hCons_cons, hNil_nil, dItems, dRange1, dRange2, dEnum, dAltI, dAppend, dPopAt, dPop, dSetIx, dPutK, dIxB, dListB, dSl, dPart, dNoPart, dDisp1, dFor, dComp, dYes, oAdd, oSub, oMod, oFdiv, oPow, oLt, oLe, oGt, oGe, oMul, oNeg, oI, oI0, oEq, oNe, oIn, oIs, oIx, oLen, oInt, oI1, oAbs, oI2, oDivmod, oList, oTuple, oUpper, oIsi, oIsi2, Sl.own, peek, isLst, lstOf, isDic, keysOf, valsOf, D.flat, D.isObj, D.ty, subTy, D.isN, dq_int, dq_bl, dq_bi, dq_ib, dq_str, dq_non, dq_lst, dq_tup, dq_nil, dq_cons, asLst, asTup, asStr, asSeq, Ret.d, endsD, Slot.hid, unsets, phDraw, plain_int, plain_bl, plain_non, List.getElem?_cons_zero, List.getElem?_cons_succ, List.set_cons_zero, List.set_cons_succ, label_iff, label_iff2, plain_lab, ite_imp]
  suffices q : k1 [.val (.scr ns), .hand, .val (.int i), .val (.str (lab i)), .un, .un, .un, .un, .un, .un, .un, .un, .un, .un, .un, .un] by
    exact ⟨fun hc => ⟨by omega, q⟩, fun _ => q⟩
  refine hk1 _ ?_
  clear hk1 k1
  refine seq_step fun k1 hk1 => ?_
  simp [dAsg, dOwn, dC, dVar, dOp, dUn, dCl, dClB, dOpB, dBs, dCons, dNil, dTup, dLst, dIf, dAnd, dOr, dNot, dAndV, dOrV, dNotV, dTest, dChain, dCond, dRet, dRetO, dRetN, dRetOwn, dNext, dDrop, dCall, dCallN, dCallB, dCallH, dCallHN, hName, hTup_tup, hCons_cons, hNil_nil, dItems, dRange1, dRange2, dEnum, dAltI, dAppend, dPopAt, dPop, dSetIx, dPutK, dIxB, dListB, dSl, dPart, dNoPart, dDisp1, dFor, dComp, dYes, oAdd, oSub, oMod, oFdiv, oPow, oLt, oLe, oGt, oGe, oMul, oNeg, oI, oI0, oEq, oNe, oIn, oIs, oIx, oLen, oInt, oI1, oAbs, oI2, oDivmod, oList, oTuple, oUpper, oIsi, oIsi2, Sl.own, peek, isLst, lstOf, isDic, keysOf, valsOf, D.flat, D.isObj, D.ty, subTy, D.isN, dq_int, dq_bl, dq_bi, dq_ib, dq_str, dq_non, dq_lst, dq_tup, dq_nil, dq_cons, asLst, asTup, asStr, asSeq, Ret.d, endsD, Slot.hid, unsets, phDraw, plain_int, plain_bl, plain_non, List.getElem?_cons_zero, List.getElem?_cons_succ, List.set_cons_zero, List.set_cons_succ, label_iff, label_iff2, plain_lab, ite_imp]
  suffices q : k1 [.val (.scr ns), .hand, .val (.int i), .val (.str (lab i)), .un, .un, .un, .un, .un, .un, .un, .un, .un, .un, .un, .un] by
    exact ⟨fun hc => ⟨by omega, q⟩, fun _ => q⟩
  refine hk1 _ ?_
  clear hk1 k1
  refine seq_step fun k1 hk1 => ?_
  simp [dAsg, dOwn, dC, dVar, dOp, dUn, dCl, dClB, dOpB, dBs, dCons, dNil, dTup, dLst, dIf, dAnd, dOr, dNot, dAndV, dOrV, dNotV, dTest, dChain, dCond, dRet, dRetO, dRetN, dRetOwn, dNext, dDrop, dCall, dCallN, dCallB, dCallH, dCallHN, hName, hTup_tup, hCons_cons, hNil_nil, dItems, dRange1, dRange2, dEnum, dAltI, dAppend, dPopAt, dPop, dSetIx, dPutK, dIxB, dListB, dSl, dPart, dNoPart, dDisp1, dFor, dComp, dYes, oAdd, oSub, oMod, oFdiv, oPow, oLt, oLe, oGt, oGe, oMul, oNeg, oI, oI0, oEq, oNe, oIn, oIs, oIx, oLen, oInt, oI1, oAbs, oI2, oDivmod, oList, oTuple, oUpper, oIsi, oIsi2, Sl.own, peek, isLst, lstOf, isDic, keysOf, valsOf, D.flat, D.isObj, D.ty, subTy, D.isN, dq_int, dq_bl, dq_bi, dq_ib, dq_str, dq_non, dq_lst, dq_tup, dq_nil, dq_cons, asLst, asTup, asStr, asSeq, Ret.d, endsD, Slot.hid, unsets, phDraw, plain_int, plain_bl, plain_non, List.getElem?_cons_zero, List.getElem?_cons_succ, List.set_cons_zero, List.set_cons_succ, ph__law_taken]
  refine fun ws l12 hw => hk1 _ ?_
  clear hk1 k1
  have hv : ∀ z ∈ ws, validS z = true := fun z hz => lab_valid (hw z hz)
  refine seq_step fun k1 hk1 => ?_
  simp [dAsg, dOwn, dC, dVar, dOp, dUn, dCl, dClB, dOpB, dBs, dCons, dNil, dTup, dLst, dIf, dAnd, dOr, dNot, dAndV, dOrV, dNotV, dTest, dChain, dCond, dRet, dRetO, dRetN, dRetOwn, dNext, dDrop, dCall, dCallN, dCallB, dCallH, dCallHN, hName, hTup_tup, hCons_cons, hNil_nil, dItems, dRange1, dRange2, dEnum, dAltI, dAppend, dPopAt, dPop, dSetIx, dPutK, dIxB, dListB, dSl, dPart, dNoPart, dDisp1, dFor, dComp, dYes, oAdd, oSub, oMod, oFdiv, oPow, oLt, oLe, oGt, oGe, oMul, oNeg, oI, oI0, oEq, oNe, oIn, oIs, oIx, oLen, oInt, oI1, oAbs, oI2, oDivmod, oList, oTuple, oUpper, oIsi, oIsi2, Sl.own, peek, isLst, lstOf, isDic, keysOf, valsOf, D.flat, D.isObj, D.ty, subTy, D.isN, dq_int, dq_bl, dq_bi, dq_ib, dq_str, dq_non, dq_lst, dq_tup, dq_nil, dq_cons, asLst, asTup, asStr, asSeq, Ret.d, endsD, Slot.hid, unsets, phDraw, plain_int, plain_bl, plain_non, List.getElem?_cons_zero, List.getElem?_cons_succ, List.set_cons_zero, List.set_cons_succ]
  suffices q : ∀ m : Nat, m ≤ 1000 → k1 [.val (.scr ns), .hand, .val (.int i), .val (.str (lab i)), .val (.lst (ws.map .str)), .val (.int m), .un, .un, .un, .un, .un, .un, .un, .un, .un, .un] by
    refine ⟨log_small (by decide), fun r r0 r1 => ite2 (fun _ => q 1000 (by decide)) fun _ => ⟨log_small (by decide), fun r' s0 s1 => ?_⟩⟩
    obtain ⟨n, rfl⟩ := Int.eq_ofNat_of_zero_le s0
    exact q n (by omega)
  intro m hm
  refine hk1 _ ?_
  clear hk1 k1
  refine seq_step fun k1 hk1 => ?_
  simp [dAsg, dOwn, dC, dVar, dOp, dUn, dCl, dClB, dOpB, dBs, dCons, dNil, dTup, dLst, dIf, dAnd, dOr, dNot, dAndV, dOrV, dNotV, dTest, dChain, dCond, dRet, dRetO, dRetN, dRetOwn, dNext, dDrop, dCall, dCallN, dCallB, dCallH, dCallHN, hName, hTup_tup, hCons_cons, hNil_nil, dItems, dRange1, dRange2, dEnum, dAltI, dAppend, dPopAt, dPop, dSetIx, dPutK, dIxB, dListB, dSl, dPart, dNoPart, dDisp1, dFor, dComp, dYes, oAdd, oSub, oMod, oFdiv, oPow, oLt, oLe, oGt, oGe, oMul, oNeg, oI, oI0, oEq, oNe, oIn, oIs, oIx, oLen, oInt, oI1, oAbs, oI2, oDivmod, oList, oTuple, oUpper, oIsi, oIsi2, Sl.own, peek, isLst, lstOf, isDic, keysOf, valsOf, D.flat, D.isObj, D.ty, subTy, D.isN, dq_int, dq_bl, dq_bi, dq_ib, dq_str, dq_non, dq_lst, dq_tup, dq_nil, dq_cons, asLst, asTup, asStr, asSeq, Ret.d, endsD, Slot.hid, unsets, phDraw, plain_int, plain_bl, plain_non, List.getElem?_cons_zero, List.getElem?_cons_succ, List.set_cons_zero, List.set_cons_succ]
  refine hk1 _ ?_
  clear hk1 k1
  refine seq_step fun k1 hk1 => ?_
  simp [dAsg, dOwn, dC, dVar, dOp, dUn, dCl, dClB, dOpB, dBs, dCons, dNil, dTup, dLst, dIf, dAnd, dOr, dNot, dAndV, dOrV, dNotV, dTest, dChain, dCond, dRet, dRetO, dRetN, dRetOwn, dNext, dDrop, dCall, dCallN, dCallB, dCallH, dCallHN, hName, hTup_tup, hCons_cons, hNil_nil, dItems, dRange1, dRange2, dEnum, dAltI, dAppend, dPopAt, dPop, dSetIx, dPutK, dIxB, dListB, dSl, dPart, dNoPart, dDisp1, dFor, dComp, dYes, oAdd, oSub, oMod, oFdiv, oPow, oLt, oLe, oGt, oGe, oMul, oNeg, oI, oI0, oEq, oNe, oIn, oIs, oIx, oLen, oInt, oI1, oAbs, oI2, oDivmod, oList, oTuple, oUpper, oIsi, oIsi2, Sl.own, peek, isLst, lstOf, isDic, keysOf, valsOf, D.flat, D.isObj, D.ty, subTy, D.isN, dq_int, dq_bl, dq_bi, dq_ib, dq_str, dq_non, dq_lst, dq_tup, dq_nil, dq_cons, asLst, asTup, asStr, asSeq, Ret.d, endsD, Slot.hid, unsets, phDraw, plain_int, plain_bl, plain_non, List.getElem?_cons_zero, List.getElem?_cons_succ, List.set_cons_zero, List.set_cons_succ]
  refine ⟨by omega, by omega, ?_⟩
  refine fo_of (fun ds s => ∃ (j n : Nat) (x : Slot), s = [.val (.scr ns), .hand, .val (.int i), .val (.str (lab i)), .val (.lst (ws.map .str)), .val (.int m), .own (.lst (((kept ws j).take m).map .str)), x, .un, .un, .un, .un, .un, .un, .un, .un] ∧ ds = (List.range' j n).map (fun k : Nat => D.int k) ∧ j + n = m + ws.length) ?_ ?_ ⟨0, m + ws.length, .un, by simp [kept], by rw [← range_from]; exact congrArg (rangeD 0) (by omega), by omega⟩
  · rintro s ⟨j, n, x, rfl, e1, e2⟩
    have : n = 0 := by
      cases n with
      | zero => rfl
      | succ n => cases e1
    subst this
    have ej : j = m + ws.length := by omega
    subst ej
    have ef : (kept ws (m + ws.length)).take m = fresh ws m := rfl
    rw [ef]
    refine hk1 _ ?_
    clear hk1 k1
    have hf : ∀ z ∈ fresh ws m, validS z = true := fun z hz => by
      obtain ⟨a, _, rfl⟩ := List.mem_map.mp (List.mem_filter.mp (List.mem_of_mem_take hz)).1
      exact lab_valid_all a
    refine seq_step fun k1 hk1 => ?_
    simp [dAsg, dOwn, dC, dVar, dOp, dUn, dCl, dClB, dOpB, dBs, dCons, dNil, dTup, dLst, dIf, dAnd, dOr, dNot, dAndV, dOrV, dNotV, dTest, dChain, dCond, dRet, dRetO, dRetN, dRetOwn, dNext, dDrop, dCall, dCallN, dCallB, dCallH, dCallHN, hName, hTup_tup, hCons_cons, hNil_nil, dItems, dRange1, dRange2, dEnum, dAltI, dAppend, dPopAt, dPop, dSetIx, dPutK, dIxB, dListB, dSl, dPart, dNoPart, dDisp1, dFor, dComp, dYes, oAdd, oSub, oMod, oFdiv, oPow, oLt, oLe, oGt, oGe, oMul, oNeg, oI, oI0, oEq, oNe, oIn, oIs, oIx, oLen, oInt, oI1, oAbs, oI2, oDivmod, oList, oTuple, oUpper, oIsi, oIsi2, Sl.own, peek, isLst, lstOf, isDic, keysOf, valsOf, D.flat, D.isObj, D.ty, subTy, D.isN, dq_int, dq_bl, dq_bi, dq_ib, dq_str, dq_non, dq_lst, dq_tup, dq_nil, dq_cons, asLst, asTup, asStr, asSeq, Ret.d, endsD, Slot.hid, unsets, phDraw, plain_int, plain_bl, plain_non, List.getElem?_cons_zero, List.getElem?_cons_succ, List.set_cons_zero, List.set_cons_succ]
    refine hk1 _ ?_
    clear hk1 k1
    refine seq_step fun k1 hk1 => ?_
    simp [dAsg, dOwn, dC, dVar, dOp, dUn, dCl, dClB, dOpB, dBs, dCons, dNil, dTup, dLst, dIf, dAnd, dOr, dNot, dAndV, dOrV, dNotV, dTest, dChain, dCond, dRet, dRetO, dRetN, dRetOwn, dNext, dDrop, dCall, dCallN, dCallB, dCallH, dCallHN, hName, hTup_tup, hCons_cons, hNil_nil, dItems, dRange1, dRange2, dEnum, dAltI, dAppend, dPopAt, dPop, dSetIx, dPutK, dIxB, dListB, dSl, dPart, dNoPart, dDisp1, dFor, dComp, dYes, oAdd, oSub, oMod, oFdiv, oPow, oLt, oLe, oGt, oGe, oMul, oNeg, oI, oI0, oEq, oNe, oIn, oIs, oIx, oLen, oInt, oI1, oAbs, oI2, oDivmod, oList, oTuple, oUpper, oIsi, oIsi2, Sl.own, peek, isLst, lstOf, isDic, keysOf, valsOf, D.flat, D.isObj, D.ty, subTy, D.isN, dq_int, dq_bl, dq_bi, dq_ib, dq_str, dq_non, dq_lst, dq_tup, dq_nil, dq_cons, asLst, asTup, asStr, asSeq, Ret.d, endsD, Slot.hid, unsets, phDraw, plain_int, plain_bl, plain_non, List.getElem?_cons_zero, List.getElem?_cons_succ, List.set_cons_zero, List.set_cons_succ]
    suffices q : k1 [.val (.scr ns), .hand, .val (.int i), .val (.str (lab i)), .val (.lst (ws.map .str)), .val (.int m), .own (.lst ((fresh ws m).map .str)), x, .val (.lst (ws.map .str)), .val (.tup ((fresh ws m).map .str)), .un, .un, .un, .un, .un, .un] from
      ⟨log_small (by decide), fun r r0 r1 => ite2 (fun _ => ⟨_, ws, m, rfl, rfl, l12, hm, hw, q⟩) fun _ => ⟨_, ws, m, rfl, rfl, l12, hm, hw, q⟩⟩
    refine hk1 _ ?_
    clear hk1 k1
    refine seq_step fun k1 hk1 => ?_
    simp [dAsg, dOwn, dC, dVar, dOp, dUn, dCl, dClB, dOpB, dBs, dCons, dNil, dTup, dLst, dIf, dAnd, dOr, dNot, dAndV, dOrV, dNotV, dTest, dChain, dCond, dRet, dRetO, dRetN, dRetOwn, dNext, dDrop, dCall, dCallN, dCallB, dCallH, dCallHN, hName, hTup_tup, hCons_cons, hNil_nil, dItems, dRange1, dRange2, dEnum, dAltI, dAppend, dPopAt, dPop, dSetIx, dPutK, dIxB, dListB, dSl, dPart, dNoPart, dDisp1, dFor, dComp, dYes, oAdd, oSub, oMod, oFdiv, oPow, oLt, oLe, oGt, oGe, oMul, oNeg, oI, oI0, oEq, oNe, oIn, oIs, oIx, oLen, oInt, oI1, oAbs, oI2, oDivmod, oList, oTuple, oUpper, oIsi, oIsi2, Sl.own, peek, isLst, lstOf, isDic, keysOf, valsOf, D.flat, D.isObj, D.ty, subTy, D.isN, dq_int, dq_bl, dq_bi, dq_ib, dq_str, dq_non, dq_lst, dq_tup, dq_nil, dq_cons, asLst, asTup, asStr, asSeq, Ret.d, endsD, Slot.hid, unsets, phDraw, plain_int, plain_bl, plain_non, List.getElem?_cons_zero, List.getElem?_cons_succ, List.set_cons_zero, List.set_cons_succ, plain_strsT hf, plain_strsL hv, eqvs_strs]
    refine hk1 _ ?_
    clear hk1 k1
    refine seq_step fun k1 hk1 => ?_
    simp [dAsg, dOwn, dC, dVar, dOp, dUn, dCl, dClB, dOpB, dBs, dCons, dNil, dTup, dLst, dIf, dAnd, dOr, dNot, dAndV, dOrV, dNotV, dTest, dChain, dCond, dRet, dRetO, dRetN, dRetOwn, dNext, dDrop, dCall, dCallN, dCallB, dCallH, dCallHN, hName, hTup_tup, hCons_cons, hNil_nil, dItems, dRange1, dRange2, dEnum, dAltI, dAppend, dPopAt, dPop, dSetIx, dPutK, dIxB, dListB, dSl, dPart, dNoPart, dDisp1, dFor, dComp, dYes, oAdd, oSub, oMod, oFdiv, oPow, oLt, oLe, oGt, oGe, oMul, oNeg, oI, oI0, oEq, oNe, oIn, oIs, oIx, oLen, oInt, oI1, oAbs, oI2, oDivmod, oList, oTuple, oUpper, oIsi, oIsi2, Sl.own, peek, isLst, lstOf, isDic, keysOf, valsOf, D.flat, D.isObj, D.ty, subTy, D.isN, dq_int, dq_bl, dq_bi, dq_ib, dq_str, dq_non, dq_lst, dq_tup, dq_nil, dq_cons, asLst, asTup, asStr, asSeq, Ret.d, endsD, Slot.hid, unsets, phDraw, plain_int, plain_bl, plain_non, List.getElem?_cons_zero, List.getElem?_cons_succ, List.set_cons_zero, List.set_cons_succ]
    refine fo_of (fun ds s => ∃ y z : Slot, s = [.val (.scr ns), .hand, .val (.int i), .val (.str (lab i)), .val (.lst (ws.map .str)), .val (.int m), .val (.lst ((fresh ws m).map .str)), x, .val (.lst (ws.map .str)), .val (.tup ((fresh ws m).map .str)), y, z, .un, .un, .un, .un]) ?_ ?_ ⟨.un, .un, rfl⟩
    · rintro s ⟨y, z, rfl⟩
      refine hk1 _ ?_
      clear hk1 k1
      refine seq_step fun k1 hk1 => ?_
      simp [dAsg, dOwn, dC, dVar, dOp, dUn, dCl, dClB, dOpB, dBs, dCons, dNil, dTup, dLst, dIf, dAnd, dOr, dNot, dAndV, dOrV, dNotV, dTest, dChain, dCond, dRet, dRetO, dRetN, dRetOwn, dNext, dDrop, dCall, dCallN, dCallB, dCallH, dCallHN, hName, hTup_tup, hCons_cons, hNil_nil, dItems, dRange1, dRange2, dEnum, dAltI, dAppend, dPopAt, dPop, dSetIx, dPutK, dIxB, dListB, dSl, dPart, dNoPart, dDisp1, dFor, dComp, dYes, oAdd, oSub, oMod, oFdiv, oPow, oLt, oLe, oGt, oGe, oMul, oNeg, oI, oI0, oEq, oNe, oIn, oIs, oIx, oLen, oInt, oI1, oAbs, oI2, oDivmod, oList, oTuple, oUpper, oIsi, oIsi2, Sl.own, peek, isLst, lstOf, isDic, keysOf, valsOf, D.flat, D.isObj, D.ty, subTy, D.isN, dq_int, dq_bl, dq_bi, dq_ib, dq_str, dq_non, dq_lst, dq_tup, dq_nil, dq_cons, asLst, asTup, asStr, asSeq, Ret.d, endsD, Slot.hid, unsets, phDraw, plain_int, plain_bl, plain_non, List.getElem?_cons_zero, List.getElem?_cons_succ, List.set_cons_zero, List.set_cons_succ]
      refine ⟨⟨by decide, by decide, by decide⟩, log_mid (by decide), fun a a0 a1 => hk1 _ ?_⟩
      clear hk1 k1
      refine seq_step fun k1 hk1 => ?_
      simp [dAsg, dOwn, dC, dVar, dOp, dUn, dCl, dClB, dOpB, dBs, dCons, dNil, dTup, dLst, dIf, dAnd, dOr, dNot, dAndV, dOrV, dNotV, dTest, dChain, dCond, dRet, dRetO, dRetN, dRetOwn, dNext, dDrop, dCall, dCallN, dCallB, dCallH, dCallHN, hName, hTup_tup, hCons_cons, hNil_nil, dItems, dRange1, dRange2, dEnum, dAltI, dAppend, dPopAt, dPop, dSetIx, dPutK, dIxB, dListB, dSl, dPart, dNoPart, dDisp1, dFor, dComp, dYes, oAdd, oSub, oMod, oFdiv, oPow, oLt, oLe, oGt, oGe, oMul, oNeg, oI, oI0, oEq, oNe, oIn, oIs, oIx, oLen, oInt, oI1, oAbs, oI2, oDivmod, oList, oTuple, oUpper, oIsi, oIsi2, Sl.own, peek, isLst, lstOf, isDic, keysOf, valsOf, D.flat, D.isObj, D.ty, subTy, D.isN, dq_int, dq_bl, dq_bi, dq_ib, dq_str, dq_non, dq_lst, dq_tup, dq_nil, dq_cons, asLst, asTup, asStr, asSeq, Ret.d, endsD, Slot.hid, unsets, phDraw, plain_int, plain_bl, plain_non, List.getElem?_cons_zero, List.getElem?_cons_succ, List.set_cons_zero, List.set_cons_succ]
      refine ⟨⟨by decide, by decide, by decide⟩, log_mid (by decide), fun b b0 b1 => hk1 _ ?_⟩
      clear hk1 k1
      refine seq_step fun k1 hk1 => ?_
      simp [dAsg, dOwn, dC, dVar, dOp, dUn, dCl, dClB, dOpB, dBs, dCons, dNil, dTup, dLst, dIf, dAnd, dOr, dNot, dAndV, dOrV, dNotV, dTest, dChain, dCond, dRet, dRetO, dRetN, dRetOwn, dNext, dDrop, dCall, dCallN, dCallB, dCallH, dCallHN, hName, hTup_tup, hCons_cons, hNil_nil, dItems, dRange1, dRange2, dEnum, dAltI, dAppend, dPopAt, dPop, dSetIx, dPutK, dIxB, dListB, dSl, dPart, dNoPart, dDisp1, dFor, dComp, dYes, oAdd, oSub, oMod, oFdiv, oPow, oLt, oLe, oGt, oGe, oMul, oNeg, oI, oI0, oEq, oNe, oIn, oIs, oIx, oLen, oInt, oI1, oAbs, oI2, oDivmod, oList, oTuple, oUpper, oIsi, oIsi2, Sl.own, peek, isLst, lstOf, isDic, keysOf, valsOf, D.flat, D.isObj, D.ty, subTy, D.isN, dq_int, dq_bl, dq_bi, dq_ib, dq_str, dq_non, dq_lst, dq_tup, dq_nil, dq_cons, asLst, asTup, asStr, asSeq, Ret.d, endsD, Slot.hid, unsets, phDraw, plain_int, plain_bl, plain_non, List.getElem?_cons_zero, List.getElem?_cons_succ, List.set_cons_zero, List.set_cons_succ]
      refine ⟨by omega, log_mid (by omega), fun c c0 c1 => hk1 _ ?_⟩
      clear hk1 k1
      refine seq_step fun k1 hk1 => ?_
      simp [dFo, dAsg, dOwn, dC, dVar, dOp, dUn, dCl, dClB, dOpB, dBs, dCons, dNil, dTup, dLst, dIf, dAnd, dOr, dNot, dAndV, dOrV, dNotV, dTest, dChain, dCond, dRet, dRetO, dRetN, dRetOwn, dNext, dDrop, dCall, dCallN, dCallB, dCallH, dCallHN, hName, hTup_tup, hCons_cons, hNil_nil, dItems, dRange1, dRange2, dEnum, dAltI, dAppend, dPopAt, dPop, dSetIx, dPutK, dIxB, dListB, dSl, dPart, dNoPart, dDisp1, dFor, dComp, dYes, oAdd, oSub, oMod, oFdiv, oPow, oLt, oLe, oGt, oGe, oMul, oNeg, oI, oI0, oEq, oNe, oIn, oIs, oIx, oLen, oInt, oI1, oAbs, oI2, oDivmod, oList, oTuple, oUpper, oIsi, oIsi2, Sl.own, peek, isLst, lstOf, isDic, keysOf, valsOf, D.flat, D.isObj, D.ty, subTy, D.isN, dq_int, dq_bl, dq_bi, dq_ib, dq_str, dq_non, dq_lst, dq_tup, dq_nil, dq_cons, asLst, asTup, asStr, asSeq, Ret.d, endsD, Slot.hid, unsets, phDraw, plain_int, plain_bl, plain_non, List.getElem?_cons_zero, List.getElem?_cons_succ, List.set_cons_zero, List.set_cons_succ, isw_iff, isWh]
      refine ⟨by omega, by omega, by omega, hk1 _ ?_⟩
      clear hk1 k1
      refine seq_step fun k1 hk1 => ?_
      simp [dFo, dAsg, dOwn, dC, dVar, dOp, dUn, dCl, dClB, dOpB, dBs, dCons, dNil, dTup, dLst, dIf, dAnd, dOr, dNot, dAndV, dOrV, dNotV, dTest, dChain, dCond, dRet, dRetO, dRetN, dRetOwn, dNext, dDrop, dCall, dCallN, dCallB, dCallH, dCallHN, hName, hTup_tup, hCons_cons, hNil_nil, dItems, dRange1, dRange2, dEnum, dAltI, dAppend, dPopAt, dPop, dSetIx, dPutK, dIxB, dListB, dSl, dPart, dNoPart, dDisp1, dFor, dComp, dYes, oAdd, oSub, oMod, oFdiv, oPow, oLt, oLe, oGt, oGe, oMul, oNeg, oI, oI0, oEq, oNe, oIn, oIs, oIx, oLen, oInt, oI1, oAbs, oI2, oDivmod, oList, oTuple, oUpper, oIsi, oIsi2, Sl.own, peek, isLst, lstOf, isDic, keysOf, valsOf, D.flat, D.isObj, D.ty, subTy, D.isN, dq_int, dq_bl, dq_bi, dq_ib, dq_str, dq_non, dq_lst, dq_tup, dq_nil, dq_cons, asLst, asTup, asStr, asSeq, Ret.d, endsD, Slot.hid, unsets, phDraw, plain_int, plain_bl, plain_non, List.getElem?_cons_zero, List.getElem?_cons_succ, List.set_cons_zero, List.set_cons_succ, isw_iff, isWh]
      refine ⟨Nat.lt_trans (log_lt 200 (by decide) (Nat.lt_trans (m := 1267650600228229401496703205376) (by omega) (by decide))) (by decide), by omega, by omega, by omega, by omega, hk1 _ ?_⟩
      clear hk1 k1
      simp [dFo, dAsg, dOwn, dC, dVar, dOp, dUn, dCl, dClB, dOpB, dBs, dCons, dNil, dTup, dLst, dIf, dAnd, dOr, dNot, dAndV, dOrV, dNotV, dTest, dChain, dCond, dRet, dRetO, dRetN, dRetOwn, dNext, dDrop, dCall, dCallN, dCallB, dCallH, dCallHN, hName, hTup_tup, hCons_cons, hNil_nil, dItems, dRange1, dRange2, dEnum, dAltI, dAppend, dPopAt, dPop, dSetIx, dPutK, dIxB, dListB, dSl, dPart, dNoPart, dDisp1, dFor, dComp, dYes, oAdd, oSub, oMod, oFdiv, oPow, oLt, oLe, oGt, oGe, oMul, oNeg, oI, oI0, oEq, oNe, oIn, oIs, oIx, oLen, oInt, oI1, oAbs, oI2, oDivmod, oList, oTuple, oUpper, oIsi, oIsi2, Sl.own, peek, isLst, lstOf, isDic, keysOf, valsOf, D.flat, D.isObj, D.ty, subTy, D.isN, dq_int, dq_bl, dq_bi, dq_ib, dq_str, dq_non, dq_lst, dq_tup, dq_nil, dq_cons, asLst, asTup, asStr, asSeq, Ret.d, endsD, Slot.hid, unsets, phDraw, plain_int, plain_bl, plain_non, List.getElem?_cons_zero, List.getElem?_cons_succ, List.set_cons_zero, List.set_cons_succ, isw_iff, isWh]
      trace_state
      done
    · rintro d ds s ⟨y, z, rfl⟩ k hk
      refine seq_step fun k2 hk2 => ?_
      simp [dAsg, dOwn, dC, dVar, dOp, dUn, dCl, dClB, dOpB, dBs, dCons, dNil, dTup, dLst, dIf, dAnd, dOr, dNot, dAndV, dOrV, dNotV, dTest, dChain, dCond, dRet, dRetO, dRetN, dRetOwn, dNext, dDrop, dCall, dCallN, dCallB, dCallH, dCallHN, hName, hTup_tup, hCons_cons, hNil_nil, dItems, dRange1, dRange2, dEnum, dAltI, dAppend, dPopAt, dPop, dSetIx, dPutK, dIxB, dListB, dSl, dPart, dNoPart, dDisp1, dFor, dComp, dYes, oAdd, oSub, oMod, oFdiv, oPow, oLt, oLe, oGt, oGe, oMul, oNeg, oI, oI0, oEq, oNe, oIn, oIs, oIx, oLen, oInt, oI1, oAbs, oI2, oDivmod, oList, oTuple, oUpper, oIsi, oIsi2, Sl.own, peek, isLst, lstOf, isDic, keysOf, valsOf, D.flat, D.isObj, D.ty, subTy, D.isN, dq_int, dq_bl, dq_bi, dq_ib, dq_str, dq_non, dq_lst, dq_tup, dq_nil, dq_cons, asLst, asTup, asStr, asSeq, Ret.d, endsD, Slot.hid, unsets, phDraw, plain_int, plain_bl, plain_non, List.getElem?_cons_zero, List.getElem?_cons_succ, List.set_cons_zero, List.set_cons_succ, ph__law_odd]
      refine fun d hd hz => hk2 _ ?_
      clear hk2 k2
      have two : 2 ≤ sizeLine := by omega
      cases d <;> first | (cases hd; done) | skip
      case str z =>
        have := hz z rfl
        simp [dAsg, dOwn, dC, dVar, dOp, dUn, dCl, dClB, dOpB, dBs, dCons, dNil, dTup, dLst, dIf, dAnd, dOr, dNot, dAndV, dOrV, dNotV, dTest, dChain, dCond, dRet, dRetO, dRetN, dRetOwn, dNext, dDrop, dCall, dCallN, dCallB, dCallH, dCallHN, hName, hTup_tup, hCons_cons, hNil_nil, dItems, dRange1, dRange2, dEnum, dAltI, dAppend, dPopAt, dPop, dSetIx, dPutK, dIxB, dListB, dSl, dPart, dNoPart, dDisp1, dFor, dComp, dYes, oAdd, oSub, oMod, oFdiv, oPow, oLt, oLe, oGt, oGe, oMul, oNeg, oI, oI0, oEq, oNe, oIn, oIs, oIx, oLen, oInt, oI1, oAbs, oI2, oDivmod, oList, oTuple, oUpper, oIsi, oIsi2, Sl.own, peek, isLst, lstOf, isDic, keysOf, valsOf, D.flat, D.isObj, D.ty, subTy, D.isN, dq_int, dq_bl, dq_bi, dq_ib, dq_str, dq_non, dq_lst, dq_tup, dq_nil, dq_cons, asLst, asTup, asStr, asSeq, Ret.d, endsD, Slot.hid, unsets, phDraw, plain_int, plain_bl, plain_non, List.getElem?_cons_zero, List.getElem?_cons_succ, List.set_cons_zero, List.set_cons_succ, isl_iff, isl_iff2, isq_iff, repr_iff, plain_shown, isSq, two, this]
        exact hk _ ⟨_, _, rfl⟩
      all_goals simp [dAsg, dOwn, dC, dVar, dOp, dUn, dCl, dClB, dOpB, dBs, dCons, dNil, dTup, dLst, dIf, dAnd, dOr, dNot, dAndV, dOrV, dNotV, dTest, dChain, dCond, dRet, dRetO, dRetN, dRetOwn, dNext, dDrop, dCall, dCallN, dCallB, dCallH, dCallHN, hName, hTup_tup, hCons_cons, hNil_nil, dItems, dRange1, dRange2, dEnum, dAltI, dAppend, dPopAt, dPop, dSetIx, dPutK, dIxB, dListB, dSl, dPart, dNoPart, dDisp1, dFor, dComp, dYes, oAdd, oSub, oMod, oFdiv, oPow, oLt, oLe, oGt, oGe, oMul, oNeg, oI, oI0, oEq, oNe, oIn, oIs, oIx, oLen, oInt, oI1, oAbs, oI2, oDivmod, oList, oTuple, oUpper, oIsi, oIsi2, Sl.own, peek, isLst, lstOf, isDic, keysOf, valsOf, D.flat, D.isObj, D.ty, subTy, D.isN, dq_int, dq_bl, dq_bi, dq_ib, dq_str, dq_non, dq_lst, dq_tup, dq_nil, dq_cons, asLst, asTup, asStr, asSeq, Ret.d, endsD, Slot.hid, unsets, phDraw, plain_int, plain_bl, plain_non, List.getElem?_cons_zero, List.getElem?_cons_succ, List.set_cons_zero, List.set_cons_succ, isl_iff, isl_iff2, isq_iff, repr_iff, plain_shown, isSq, two]
      all_goals exact hk _ ⟨_, _, rfl⟩
  · rintro d ds s ⟨j, n, x, rfl, e1, e2⟩ k hk
    cases n with
    | zero => cases e1
    | succ n =>
      rw [List.range'_succ, List.map_cons] at e1
      cases e1
      have ts := take_step ws m j
      have tl : ((kept ws j).take m).length ≤ m := by rw [List.length_take]; omega
      generalize (kept ws j).take m = t at *
      simp [dAsg, dOwn, dC, dVar, dOp, dUn, dCl, dClB, dOpB, dBs, dCons, dNil, dTup, dLst, dIf, dAnd, dOr, dNot, dAndV, dOrV, dNotV, dTest, dChain, dCond, dRet, dRetO, dRetN, dRetOwn, dNext, dDrop, dCall, dCallN, dCallB, dCallH, dCallHN, hName, hTup_tup, hCons_cons, hNil_nil, dItems, dRange1, dRange2, dEnum, dAltI, dAppend, dPopAt, dPop, dSetIx, dPutK, dIxB, dListB, dSl, dPart, dNoPart, dDisp1, dFor, dComp, dYes, oAdd, oSub, oMod, oFdiv, oPow, oLt, oLe, oGt, oGe, oMul, oNeg, oI, oI0, oEq, oNe, oIn, oIs, oIx, oLen, oInt, oI1, oAbs, oI2, oDivmod, oList, oTuple, oUpper, oIsi, oIsi2, Sl.own, peek, isLst, lstOf, isDic, keysOf, valsOf, D.flat, D.isObj, D.ty, subTy, D.isN, dq_int, dq_bl, dq_bi, dq_ib, dq_str, dq_non, dq_lst, dq_tup, dq_nil, dq_cons, asLst, asTup, asStr, asSeq, Ret.d, endsD, Slot.hid, unsets, phDraw, plain_int, plain_bl, plain_non, List.getElem?_cons_zero, List.getElem?_cons_succ, List.set_cons_zero, List.set_cons_succ, label_iff, label_iff2, plain_lab, memb_strs, flat_strs]
      by_cases h1 : t.length < m
      · rw [if_pos h1]
        refine ⟨by omega, ?_⟩
        by_cases h2 : lab j ∈ ws
        · exact .inl ⟨h2, hk _ ⟨j + 1, n, _, by rw [ts, if_neg (by simp [h2])], rfl, by omega⟩⟩
        · exact .inr ⟨h2, by omega, by omega, hk _ ⟨j + 1, n, _, by rw [ts, if_pos ⟨h1, by simp [h2]⟩, List.map_append]; rfl, rfl, by omega⟩⟩
      · rw [if_neg h1]
        exact hk _ ⟨j + 1, n, _, by rw [ts, if_neg (fun z => h1 z.1)], rfl, by omega⟩
end Ka
namespace Ka
theorem pure : Pure := ⟨p__law_hand, p__law_mix, p__law_index, p_label_at, p__law_word, p__law_one, p__law_label_at, p__law_taken, p_fresh_labels, p__law_odd, p_is_label, p_is_whole, p_is_sequence, p__law_label, p_law⟩
end Ka
open PySem PySem.W PyProof.Rows in
set_option maxRecDepth 100000 in
set_option maxHeartbeats 0 in
theorem PySem.Challenge.cw_searchback_k02_whole_labels_in_order_holds : PySem.Challenge.rw_searchback_k02_whole_labels_in_order.Holds := by
  w_on; o_law; k_head; (case hw => w_witness2)
  k_fill
  refine Ka.walk Ka.pure (l := PySem.Challenge.rw_searchback_k02_whole_labels_in_order) rfl rfl (fun w h Y => PySem.W.kIn_of Y) ?F
  case F =>
    intro w mg fa h KX G hmg
    refine' Ka.all_mk Ka.pure KX G hmg ?a0 ?l0 ?c0 ?k0 ?a1 ?l1 ?c1 ?k1 ?a2 ?l2 ?c2 ?k2 ?a3 ?l3 ?c3 ?k3 ?a4 ?l4 ?c4 ?k4 ?a5 ?l5 ?c5 ?k5 ?a6 ?l6 ?c6 ?k6 ?a7 ?l7 ?c7 ?k7 ?a8 ?l8 ?c8 ?k8 ?a9 ?l9 ?c9 ?k9 ?a10 ?l10 ?c10 ?k10 ?a11 ?l11 ?c11 ?k11 ?a12 ?l12 ?c12 ?k12 ?a13 ?l13 ?c13 ?k13 ?a14 ?l14 ?c14 ?k14 ?a15 ?l15 ?c15 ?k15 ?z_abs ?z_bool ?z_divmod ?z_enumerate ?z_int ?z_isinstance ?z_len ?z_list ?z_range ?z_repr ?z_str ?z_tuple ?e_LETTERS ?e_MOST_LETTERS
    (case a0 => k_is)
    (case l0 => k_is)
    (case c0 => k_is)
    (case k0 => k_is)
    (case a1 => k_is)
    (case l1 => k_is)
    (case c1 => k_is)
    (case k1 => k_is)
    (case a2 => k_is)
    (case l2 => k_is)
    (case c2 => k_is)
    (case k2 => k_is)
    (case a3 => k_is)
    (case l3 => k_is)
    (case c3 => k_is)
    (case k3 => k_is)
    (case a4 => k_is)
    (case l4 => k_is)
    (case c4 => k_is)
    (case k4 => k_is)
    (case a5 => k_is)
    (case l5 => k_is)
    (case c5 => k_is)
    (case k5 => k_is)
    (case a6 => k_is)
    (case l6 => k_is)
    (case c6 => k_is)
    (case k6 => k_is)
    (case a7 => k_is)
    (case l7 => k_is)
    (case c7 => k_is)
    (case k7 => k_is)
    (case a8 => k_is)
    (case l8 => k_is)
    (case c8 => k_is)
    (case k8 => k_is)
    (case a9 => k_is)
    (case l9 => k_is)
    (case c9 => k_is)
    (case k9 => k_is)
    (case a10 => k_is)
    (case l10 => k_is)
    (case c10 => k_is)
    (case k10 => k_is)
    (case a11 => k_is)
    (case l11 => k_is)
    (case c11 => k_is)
    (case k11 => k_is)
    (case a12 => k_is)
    (case l12 => k_is)
    (case c12 => k_is)
    (case k12 => k_is)
    (case a13 => k_is)
    (case l13 => k_is)
    (case c13 => k_is)
    (case k13 => k_is)
    (case a14 => k_is)
    (case l14 => k_is)
    (case c14 => k_is)
    (case k14 => k_is)
    (case a15 => k_is)
    (case l15 => k_is)
    (case c15 => k_is)
    (case k15 => k_is)
    (case z_abs => k_is)
    (case z_bool => k_is)
    (case z_divmod => k_is)
    (case z_enumerate => k_is)
    (case z_int => k_is)
    (case z_isinstance => k_is)
    (case z_len => k_is)
    (case z_list => k_is)
    (case z_range => k_is)
    (case z_repr => k_is)
    (case z_str => k_is)
    (case z_tuple => k_is)
    (case e_LETTERS => k_is)
    (case e_MOST_LETTERS => k_is)
