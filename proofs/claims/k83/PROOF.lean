import PyProof.Rows.All
import Wide.All
import OpenK.AllK
import Wide.FinOn
import HandS.ForMost
import HandS.Exc
import HandS.ExcOwn
import HandS.TryOnly
import HandS.WordsExc
import HandS.IsInst
import HandS.FStr
import HandS.TupLe
import KE.SortData
import HandS.Conv
import PyProof.ReprRoads
import PyProof.ReprLen
import HandS.Ends
import PySem.Challenge.RW_webtimes_k83_webs_read_back
set_option Elab.async false
set_option linter.all false
set_option maxRecDepth 100000
set_option maxHeartbeats 4000000

/-! W3a: data over the abstract heap: what is seen (Vw), what is owned (Rep), environments, the judgements. -/
namespace W3
open PySem PySem.Spec L2

/-! ### data -/
inductive D where
  | non | bl (b : Bool) | int (i : Int) | str (x : Str) | ty (n : String) | obj (a : Addr)
  | tup (ds : List D) | lst (ds : List D) | dK (kvs : List (Key × D)) | dT (kvs : List (List Key × D))

/-! ### heaps that grow -/
theorem same_rd {H H' : Hp} {a : Addr} {u : HO} (e : Same H H') (h : Rd H a u) : Rd H' a u := by
  rcases h with h | ⟨o, h⟩
  · exact Or.inl (e a _ h)
  · exact Or.inr ⟨o, e a _ h⟩
theorem same_l {K : PySem.W.Frag} {H H' : Hp} {a : Addr} {xs : List V} (e : Same H H') (h : SqL K H a xs) : SqL K H' a xs := by
  rcases h with h | h
  · exact Or.inl (same_rd e h)
  · exact Or.inr h
theorem same_t {K : PySem.W.Frag} {H H' : Hp} {a : Addr} {xs : List V} (e : Same H H') (h : SqT K H a xs) : SqT K H' a xs := by
  rcases h with h | h
  · exact Or.inl (same_rd e h)
  · exact Or.inr h
theorem same_new {H : Hp} {p : Addr} {o : HO} (h : H p = none) : Same H (upd H p o) := fun a u e => by
  rw [upd_ne (ne_of_none e h)]
  exact e

/-! ### what is seen at a value -/
mutual
inductive Vw (K : PySem.W.Frag) (H : Hp) : V → D → Prop
  | non : Vw K H .non .non
  | bl (b : Bool) : Vw K H (.bl b) (.bl b)
  | int (i : Int) : Vw K H (.int i) (.int i)
  | str (x : Str) : Vw K H (.str x) (.str x)
  | ty (n : String) : Vw K H (.ty n) (.ty n)
  | obj (a : Addr) : Vw K H (.ref a) (.obj a)
  | tup {a : Addr} {vs : List V} {ds : List D} : H a = some (.tup vs) → VwL K H vs ds → Vw K H (.ref a) (.tup ds)
  | lst {a : Addr} {vs : List V} {ds : List D} : Rd H a (.lst vs) → VwL K H vs ds → Vw K H (.ref a) (.lst ds)
  | dK {a : Addr} {kvs : List (Key × V)} {kds : List (Key × D)} : Rd H a (.dK kvs) → kvs.map (·.1) = kds.map (·.1) → VwL K H (kvs.map (·.2)) (kds.map (·.2)) → Vw K H (.ref a) (.dK kds)
  | dT {a : Addr} {kvs : List (List Key × V)} {kds : List (List Key × D)} : Rd H a (.dT kvs) → kvs.map (·.1) = kds.map (·.1) → VwL K H (kvs.map (·.2)) (kds.map (·.2)) → Vw K H (.ref a) (.dT kds)
inductive VwL (K : PySem.W.Frag) (H : Hp) : List V → List D → Prop
  | nil : VwL K H [] []
  | cons {v : V} {vs : List V} {d : D} {ds : List D} : Vw K H v d → VwL K H vs ds → VwL K H (v :: vs) (d :: ds)
end
mutual
theorem Vw.mono {K : PySem.W.Frag} {H H' : Hp} (e : Same H H') : ∀ {v : V} {d : D}, Vw K H v d → Vw K H' v d
  | _, _, .non => .non
  | _, _, .bl b => .bl b
  | _, _, .int i => .int i
  | _, _, .str x => .str x
  | _, _, .ty n => .ty n
  | _, _, .obj a => .obj a
  | _, _, .tup h l => .tup (e _ _ h) (VwL.mono e l)
  | _, _, .lst h l => .lst (same_rd e h) (VwL.mono e l)
  | _, _, .dK h k l => .dK (same_rd e h) k (VwL.mono e l)
  | _, _, .dT h k l => .dT (same_rd e h) k (VwL.mono e l)
theorem VwL.mono {K : PySem.W.Frag} {H H' : Hp} (e : Same H H') : ∀ {vs : List V} {ds : List D}, VwL K H vs ds → VwL K H' vs ds
  | _, _, .nil => .nil
  | _, _, .cons h t => .cons (Vw.mono e h) (VwL.mono e t)
end
theorem VwL.length {K : PySem.W.Frag} {H : Hp} : ∀ {vs : List V} {ds : List D}, VwL K H vs ds → vs.length = ds.length
  | _, _, .nil => rfl
  | _, _, .cons _ t => by rw [List.length_cons, List.length_cons, VwL.length t]
theorem VwL.app {K : PySem.W.Frag} {H : Hp} : ∀ {vs ws : List V} {ds es : List D}, VwL K H vs ds → VwL K H ws es → VwL K H (vs ++ ws) (ds ++ es)
  | _, _, _, _, .nil, s => s
  | _, _, _, _, .cons r t, s => .cons r (VwL.app t s)
theorem VwL.get {K : PySem.W.Frag} {H : Hp} : ∀ {vs : List V} {ds : List D} {i : Nat} {v : V}, VwL K H vs ds → vs[i]? = some v → ∃ d, ds[i]? = some d ∧ Vw K H v d
  | _, _, _, _, .nil, h => by simp at h
  | _, _, 0, _, .cons r _, h => by
    simp at h
    subst h
    exact ⟨_, rfl, r⟩
  | _, _, i + 1, _, .cons _ t, h => by
    obtain ⟨d, h1, h2⟩ := VwL.get (i := i) t (by simpa using h)
    exact ⟨d, by simpa using h1, h2⟩
theorem VwL.got {K : PySem.W.Frag} {H : Hp} : ∀ {vs : List V} {ds : List D} {i : Nat} {d : D}, VwL K H vs ds → ds[i]? = some d → ∃ v, vs[i]? = some v ∧ Vw K H v d
  | _, _, _, _, .nil, h => by simp at h
  | _, _, 0, _, .cons r _, h => by
    simp at h
    subst h
    exact ⟨_, rfl, r⟩
  | _, _, i + 1, _, .cons _ t, h => by
    obtain ⟨d, h1, h2⟩ := VwL.got (i := i) t (by simpa using h)
    exact ⟨d, by simpa using h1, h2⟩
theorem VwL.take {K : PySem.W.Frag} {H : Hp} : ∀ {vs : List V} {ds : List D} (n : Nat), VwL K H vs ds → VwL K H (vs.take n) (ds.take n)
  | _, _, 0, _ => .nil
  | _, _, _ + 1, .nil => .nil
  | _, _, n + 1, .cons r t => .cons r (VwL.take n t)
theorem VwL.drop {K : PySem.W.Frag} {H : Hp} : ∀ {vs : List V} {ds : List D} (n : Nat), VwL K H vs ds → VwL K H (vs.drop n) (ds.drop n)
  | _, _, 0, r => r
  | _, _, _ + 1, .nil => .nil
  | _, _, n + 1, .cons _ t => VwL.drop n t

/-- data that are their own value -/
def sc : D → Option V
  | .non => some .non
  | .bl b => some (.bl b)
  | .int i => some (.int i)
  | .str x => some (.str x)
  | .ty n => some (.ty n)
  | .obj a => some (.ref a)
  | _ => none
theorem Vw.sc {K : PySem.W.Frag} {H : Hp} {v x : V} {d : D} (h : Vw K H v d) (e : sc d = some x) : v = x := by
  cases h <;> first
    | (simp [W3.sc] at e; exact e)
    | simp [W3.sc] at e
theorem vw_sc {K : PySem.W.Frag} {H : Hp} {x : V} {d : D} (e : sc d = some x) : Vw K H x d := by
  cases d <;> simp [W3.sc] at e <;> subst e
  · exact .non
  · exact .bl _
  · exact .int _
  · exact .str _
  · exact .ty _
  · exact .obj _

/-! ### what is owned -/
inductive Shape where
  | S | L (s : Shape) | T (ss : List Shape) | MK (s : Shape) | MT (s : Shape)
mutual
inductive Rep (K : PySem.W.Frag) (G H : Hp) : Shape → V → D → List Addr → Prop
  | S {v : V} {d : D} : Vw K G v d → Rep K G H .S v d []
  | L {s : Shape} {a : Addr} {vs : List V} {ds : List D} {F : List Addr} : H a = some (.lst vs) → RepL K G H s vs ds F → Rep K G H (.L s) (.ref a) (.lst ds) (a :: F)
  | T {ss : List Shape} {a : Addr} {vs : List V} {ds : List D} {F : List Addr} : H a = some (.tup vs) → RepT K G H ss vs ds F → Rep K G H (.T ss) (.ref a) (.tup ds) F
  | MK {s : Shape} {a : Addr} {kvs : List (Key × V)} {kds : List (Key × D)} {F : List Addr} : H a = some (.dK kvs) → kvs.map (·.1) = kds.map (·.1) → RepL K G H s (kvs.map (·.2)) (kds.map (·.2)) F → Rep K G H (.MK s) (.ref a) (.dK kds) (a :: F)
  | MT {s : Shape} {a : Addr} {kvs : List (List Key × V)} {kds : List (List Key × D)} {F : List Addr} : H a = some (.dT kvs) → kvs.map (·.1) = kds.map (·.1) → RepL K G H s (kvs.map (·.2)) (kds.map (·.2)) F → Rep K G H (.MT s) (.ref a) (.dT kds) (a :: F)
inductive RepL (K : PySem.W.Frag) (G H : Hp) : Shape → List V → List D → List Addr → Prop
  | nil {s : Shape} : RepL K G H s [] [] []
  | cons {s : Shape} {v : V} {vs : List V} {d : D} {ds : List D} {F1 F2 : List Addr} : Rep K G H s v d F1 → RepL K G H s vs ds F2 → RepL K G H s (v :: vs) (d :: ds) (F1 ++ F2)
inductive RepT (K : PySem.W.Frag) (G H : Hp) : List Shape → List V → List D → List Addr → Prop
  | nil : RepT K G H [] [] [] []
  | cons {s : Shape} {ss : List Shape} {v : V} {vs : List V} {d : D} {ds : List D} {F1 F2 : List Addr} : Rep K G H s v d F1 → RepT K G H ss vs ds F2 → RepT K G H (s :: ss) (v :: vs) (d :: ds) (F1 ++ F2)
end
section
variable {K : PySem.W.Frag} {G H G' H' : Hp}
/-- where it stays what it is: the frozen grow, its own cells and the tuples stand -/
structure Stay (G H G' H' : Hp) (F : List Addr) : Prop where
  gg : Same G G'
  at_ : ∀ b ∈ F, ∀ o, H b = some o → H' b = some o
  tu : ∀ b xs, H b = some (.tup xs) → H' b = some (.tup xs)
theorem Stay.left {F1 F2 : List Addr} (e : Stay G H G' H' (F1 ++ F2)) : Stay G H G' H' F1 := ⟨e.gg, fun b h => e.at_ b (List.mem_append_left _ h), e.tu⟩
theorem Stay.right {F1 F2 : List Addr} (e : Stay G H G' H' (F1 ++ F2)) : Stay G H G' H' F2 := ⟨e.gg, fun b h => e.at_ b (List.mem_append_right _ h), e.tu⟩
theorem Stay.tail {a : Addr} {F : List Addr} (e : Stay G H G' H' (a :: F)) : Stay G H G' H' F := ⟨e.gg, fun b h => e.at_ b (List.mem_cons_of_mem _ h), e.tu⟩
mutual
theorem Rep.stay : ∀ {s : Shape} {v : V} {d : D} {F : List Addr}, Stay G H G' H' F → Rep K G H s v d F → Rep K G' H' s v d F
  | _, _, _, _, e, .S h => .S (h.mono e.gg)
  | _, _, _, _, e, .L h l => .L (e.at_ _ (List.mem_cons_self ..) _ h) (RepL.stay e.tail l)
  | _, _, _, _, e, .T h l => .T (e.tu _ _ h) (RepT.stay e l)
  | _, _, _, _, e, .MK h k l => .MK (e.at_ _ (List.mem_cons_self ..) _ h) k (RepL.stay e.tail l)
  | _, _, _, _, e, .MT h k l => .MT (e.at_ _ (List.mem_cons_self ..) _ h) k (RepL.stay e.tail l)
theorem RepL.stay : ∀ {s : Shape} {vs : List V} {ds : List D} {F : List Addr}, Stay G H G' H' F → RepL K G H s vs ds F → RepL K G' H' s vs ds F
  | _, _, _, _, _, .nil => .nil
  | _, _, _, _, e, .cons h t => .cons (Rep.stay e.left h) (RepL.stay e.right t)
theorem RepT.stay : ∀ {ss : List Shape} {vs : List V} {ds : List D} {F : List Addr}, Stay G H G' H' F → RepT K G H ss vs ds F → RepT K G' H' ss vs ds F
  | _, _, _, _, _, .nil => .nil
  | _, _, _, _, e, .cons h t => .cons (Rep.stay e.left h) (RepT.stay e.right t)
end
/- its cells are there -/
mutual
theorem Rep.there : ∀ {s : Shape} {v : V} {d : D} {F : List Addr}, Rep K G H s v d F → ∀ b ∈ F, ∃ o, H b = some o
  | _, _, _, _, .S _, b, hb => by simp at hb
  | _, _, _, _, .L h l, b, hb => by
    rcases List.mem_cons.mp hb with e | hb
    · exact ⟨_, by rw [e]; exact h⟩
    · exact RepL.there l b hb
  | _, _, _, _, .T h l, b, hb => RepT.there l b hb
  | _, _, _, _, .MK h _ l, b, hb => by
    rcases List.mem_cons.mp hb with e | hb
    · exact ⟨_, by rw [e]; exact h⟩
    · exact RepL.there l b hb
  | _, _, _, _, .MT h _ l, b, hb => by
    rcases List.mem_cons.mp hb with e | hb
    · exact ⟨_, by rw [e]; exact h⟩
    · exact RepL.there l b hb
theorem RepL.there : ∀ {s : Shape} {vs : List V} {ds : List D} {F : List Addr}, RepL K G H s vs ds F → ∀ b ∈ F, ∃ o, H b = some o
  | _, _, _, _, .nil, b, hb => by simp at hb
  | _, _, _, _, .cons h t, b, hb => by
    rcases List.mem_append.mp hb with hb | hb
    · exact Rep.there h b hb
    · exact RepL.there t b hb
theorem RepT.there : ∀ {ss : List Shape} {vs : List V} {ds : List D} {F : List Addr}, RepT K G H ss vs ds F → ∀ b ∈ F, ∃ o, H b = some o
  | _, _, _, _, .nil, b, hb => by simp at hb
  | _, _, _, _, .cons h t, b, hb => by
    rcases List.mem_append.mp hb with hb | hb
    · exact Rep.there h b hb
    · exact RepT.there t b hb
end
/- it is seen -/
mutual
theorem Rep.vw (e : Same G H) : ∀ {s : Shape} {v : V} {d : D} {F : List Addr}, Rep K G H s v d F → Vw K H v d
  | _, _, _, _, .S h => h.mono e
  | _, _, _, _, .L h l => .lst (.inl h) (RepL.vw e l)
  | _, _, _, _, .T h l => .tup h (RepT.vw e l)
  | _, _, _, _, .MK h k l => .dK (.inl h) k (RepL.vw e l)
  | _, _, _, _, .MT h k l => .dT (.inl h) k (RepL.vw e l)
theorem RepL.vw (e : Same G H) : ∀ {s : Shape} {vs : List V} {ds : List D} {F : List Addr}, RepL K G H s vs ds F → VwL K H vs ds
  | _, _, _, _, .nil => .nil
  | _, _, _, _, .cons h t => .cons (Rep.vw e h) (RepL.vw e t)
theorem RepT.vw (e : Same G H) : ∀ {ss : List Shape} {vs : List V} {ds : List D} {F : List Addr}, RepT K G H ss vs ds F → VwL K H vs ds
  | _, _, _, _, .nil => .nil
  | _, _, _, _, .cons h t => .cons (Rep.vw e h) (RepT.vw e t)
end

/- an owned cell is no tuple -/
mutual
theorem Rep.nt : ∀ {s : Shape} {v : V} {d : D} {F : List Addr}, Rep K G H s v d F → ∀ b ∈ F, ∀ xs, H b ≠ some (.tup xs)
  | _, _, _, _, .S _, b, hb, _ => by simp at hb
  | _, _, _, _, .L h l, b, hb, xs => by
    rcases List.mem_cons.mp hb with e | hb
    · rw [e, h]
      intro z
      cases z
    · exact RepL.nt l b hb xs
  | _, _, _, _, .T h l, b, hb, xs => RepT.nt l b hb xs
  | _, _, _, _, .MK h _ l, b, hb, xs => by
    rcases List.mem_cons.mp hb with e | hb
    · rw [e, h]
      intro z
      cases z
    · exact RepL.nt l b hb xs
  | _, _, _, _, .MT h _ l, b, hb, xs => by
    rcases List.mem_cons.mp hb with e | hb
    · rw [e, h]
      intro z
      cases z
    · exact RepL.nt l b hb xs
theorem RepL.nt : ∀ {s : Shape} {vs : List V} {ds : List D} {F : List Addr}, RepL K G H s vs ds F → ∀ b ∈ F, ∀ xs, H b ≠ some (.tup xs)
  | _, _, _, _, .nil, b, hb, _ => by simp at hb
  | _, _, _, _, .cons h t, b, hb, xs => by
    rcases List.mem_append.mp hb with hb | hb
    · exact Rep.nt h b hb xs
    · exact RepL.nt t b hb xs
theorem RepT.nt : ∀ {ss : List Shape} {vs : List V} {ds : List D} {F : List Addr}, RepT K G H ss vs ds F → ∀ b ∈ F, ∀ xs, H b ≠ some (.tup xs)
  | _, _, _, _, .nil, b, hb, _ => by simp at hb
  | _, _, _, _, .cons h t, b, hb, xs => by
    rcases List.mem_append.mp hb with hb | hb
    · exact Rep.nt h b hb xs
    · exact RepT.nt t b hb xs
end
theorem RepL.snoc {s : Shape} {v : V} {d : D} {F2 : List Addr} (h : Rep K G H s v d F2) : ∀ {vs : List V} {ds : List D} {F : List Addr}, RepL K G H s vs ds F → RepL K G H s (vs ++ [v]) (ds ++ [d]) (F ++ F2)
  | _, _, _, .nil => by
    have q := RepL.cons h (RepL.nil (K := K) (G := G) (H := H) (s := s))
    rw [List.append_nil] at q
    exact q
  | _, _, _, .cons r t => by
    have q := RepL.cons r (RepL.snoc h t)
    rw [← List.append_assoc] at q
    exact q
/-- all of shape S: nothing is owned -/
theorem RepL.ofS : ∀ {vs : List V} {ds : List D}, VwL K G vs ds → RepL K G H .S vs ds []
  | _, _, .nil => .nil
  | _, _, .cons h t => RepL.cons (.S h) (RepL.ofS t)
theorem RepL.toS : ∀ {vs : List V} {ds : List D} {F : List Addr}, RepL K G H .S vs ds F → VwL K G vs ds ∧ F = []
  | _, _, _, .nil => ⟨.nil, rfl⟩
  | _, _, _, .cons (.S h) t => by
    obtain ⟨a, b⟩ := RepL.toS t
    exact ⟨.cons h a, by rw [b] <;> rfl⟩

/-! ### freezing: the cells F and the tuples of H go into G -/
open Classical in
noncomputable def frzC (G H : Hp) (F : List Addr) : Hp := fun b => if (G b).isSome then G b else if b ∈ F ∨ ∃ xs, H b = some (.tup xs) then H b else none
theorem frz_old {F : List Addr} : Same G (frzC G H F) := fun b o e => by
  unfold frzC
  rw [if_pos (by rw [e]; rfl)]
  exact e
theorem frz_in {F : List Addr} (e : Same G H) : Same (frzC G H F) H := fun b o h => by
  unfold frzC at h
  split at h
  · exact e b o h
  · split at h
    · exact h
    · cases h
theorem frz_mem {F : List Addr} (e : Same G H) {b : Addr} {o : HO} (h : H b = some o) (hb : b ∈ F) : frzC G H F b = some o := by
  unfold frzC
  split
  · rename_i q
    obtain ⟨u, hu⟩ := Option.isSome_iff_exists.mp q
    rw [hu]
    rw [e b u hu] at h
    exact h
  · rw [if_pos (.inl hb)]
    exact h
theorem frz_tup {F : List Addr} (e : Same G H) {b : Addr} {xs : List V} (h : H b = some (.tup xs)) : frzC G H F b = some (.tup xs) := by
  unfold frzC
  split
  · rename_i q
    obtain ⟨u, hu⟩ := Option.isSome_iff_exists.mp q
    rw [hu]
    rw [e b u hu] at h
    exact h
  · rw [if_pos (.inr ⟨xs, h⟩)]
    exact h
theorem frz_new {F : List Addr} {b : Addr} (g : G b = none) (h : frzC G H F b ≠ none) : b ∈ F ∨ ∃ xs, H b = some (.tup xs) := by
  unfold frzC at h
  rw [g] at h
  simp at h
  exact h.1
mutual
theorem Rep.frzd (e : Same G H) : ∀ {s : Shape} {v : V} {d : D} {F : List Addr} (F' : List Addr), (∀ b ∈ F, b ∈ F') → Rep K G H s v d F → Vw K (frzC G H F') v d
  | _, _, _, _, _, _, .S h => h.mono frz_old
  | _, _, _, _, _, k, .L h l => .lst (.inl ((frz_mem e h (k _ (List.mem_cons_self ..))))) (RepL.frzd e _ (fun b hb => k b (List.mem_cons_of_mem _ hb)) l)
  | _, _, _, _, _, k, .T h l => .tup (frz_tup e h) (RepT.frzd e _ k l)
  | _, _, _, _, _, k, .MK h q l => .dK (.inl (frz_mem e h (k _ (List.mem_cons_self ..)))) q (RepL.frzd e _ (fun b hb => k b (List.mem_cons_of_mem _ hb)) l)
  | _, _, _, _, _, k, .MT h q l => .dT (.inl (frz_mem e h (k _ (List.mem_cons_self ..)))) q (RepL.frzd e _ (fun b hb => k b (List.mem_cons_of_mem _ hb)) l)
theorem RepL.frzd (e : Same G H) : ∀ {s : Shape} {vs : List V} {ds : List D} {F : List Addr} (F' : List Addr), (∀ b ∈ F, b ∈ F') → RepL K G H s vs ds F → VwL K (frzC G H F') vs ds
  | _, _, _, _, _, _, .nil => .nil
  | _, _, _, _, _, k, .cons h t => .cons (Rep.frzd e _ (fun b hb => k b (List.mem_append_left _ hb)) h) (RepL.frzd e _ (fun b hb => k b (List.mem_append_right _ hb)) t)
theorem RepT.frzd (e : Same G H) : ∀ {ss : List Shape} {vs : List V} {ds : List D} {F : List Addr} (F' : List Addr), (∀ b ∈ F, b ∈ F') → RepT K G H ss vs ds F → VwL K (frzC G H F') vs ds
  | _, _, _, _, _, _, .nil => .nil
  | _, _, _, _, _, k, .cons h t => .cons (Rep.frzd e _ (fun b hb => k b (List.mem_append_left _ hb)) h) (RepT.frzd e _ (fun b hb => k b (List.mem_append_right _ hb)) t)
end
end

/-! ### environments -/
abbrev Slot := Option (Shape × D)
abbrev Env := List Slot
inductive EnvR (K : PySem.W.Frag) (G H : Hp) : Env → St → List Addr → Prop
  | nil : EnvR K G H [] [] []
  | any {δ : Env} {σ : St} {F : List Addr} {o : Option V} : EnvR K G H δ σ F → EnvR K G H (none :: δ) (o :: σ) F
  | val {δ : Env} {σ : St} {F1 F2 : List Addr} {s : Shape} {v : V} {d : D} : Rep K G H s v d F1 → EnvR K G H δ σ F2 → EnvR K G H (some (s, d) :: δ) (some v :: σ) (F1 ++ F2)
section
variable {K : PySem.W.Frag} {G H G' H' : Hp} {δ : Env} {σ : St} {F : List Addr}
theorem EnvR.stay : ∀ {δ : Env} {σ : St} {F : List Addr}, Stay G H G' H' F → EnvR K G H δ σ F → EnvR K G' H' δ σ F
  | _, _, _, _, .nil => .nil
  | _, _, _, e, .any t => .any (EnvR.stay e t)
  | _, _, _, e, .val h t => .val (h.stay e.left) (EnvR.stay e.right t)
theorem EnvR.there : ∀ {δ : Env} {σ : St} {F : List Addr}, EnvR K G H δ σ F → ∀ b ∈ F, (∃ o, H b = some o) ∧ ∀ xs, H b ≠ some (.tup xs)
  | _, _, _, .nil, b, hb => by simp at hb
  | _, _, _, .any t, b, hb => EnvR.there t b hb
  | _, _, _, .val h t, b, hb => by
    rcases List.mem_append.mp hb with hb | hb
    · exact ⟨h.there b hb, h.nt b hb⟩
    · exact EnvR.there t b hb
/-- a slot's value -/
theorem EnvR.get : ∀ {δ : Env} {σ : St} {F : List Addr} {i : Nat} {s : Shape} {d : D}, EnvR K G H δ σ F → δ[i]? = some (some (s, d)) → ∃ v Fi, σ[i]? = some (some v) ∧ Rep K G H s v d Fi ∧ ∀ b ∈ Fi, b ∈ F
  | _, _, _, _, _, _, .nil, h => by simp at h
  | _, _, _, 0, _, _, .any _, h => by simp at h
  | _, _, _, i + 1, _, _, .any t, h => EnvR.get (i := i) t (by simpa using h)
  | _, _, _, 0, _, _, .val r _, h => by
    simp at h
    obtain ⟨rfl, rfl⟩ := h
    exact ⟨_, _, rfl, r, fun b hb => List.mem_append_left _ hb⟩
  | _, _, _, i + 1, _, _, .val _ t, h => by
    obtain ⟨v, Fi, a, b, c⟩ := EnvR.get (i := i) t (by simpa using h)
    exact ⟨v, Fi, by simpa using a, b, fun x hx => List.mem_append_right _ (c x hx)⟩
/-- a slot is stored: what it owned is let go -/
theorem EnvR.set {s : Shape} {v : V} {d : D} {Fv : List Addr} (r : Rep K G H s v d Fv) : ∀ {δ : Env} {σ : St} {F : List Addr} (i : Nat), i < δ.length → EnvR K G H δ σ F →
    ∃ F', EnvR K G H (δ.set i (some (s, d))) (σ.set i (some v)) F' ∧ (F.Nodup → Fv.Nodup → (∀ b ∈ Fv, b ∉ F) → F'.Nodup) ∧ ∀ b ∈ F', b ∈ F ∨ b ∈ Fv
  | _, _, _, i, hi, .nil => absurd hi (Nat.not_lt_zero _)
  | _, _, _, 0, _, .any (F := F) t => ⟨Fv ++ F, .val r t, fun a b c => List.nodup_append.mpr ⟨b, a, fun x hx y hy e => c x hx (e ▸ hy)⟩, fun b hb => (List.mem_append.mp hb).symm⟩
  | _, _, _, 0, _, .val (F2 := F2) _ t => ⟨Fv ++ F2, .val r t, fun a b c => List.nodup_append.mpr ⟨b, (List.nodup_append.mp a).2.1, fun x hx y hy e => c x hx (List.mem_append_right _ (e ▸ hy))⟩,
      fun b hb => (List.mem_append.mp hb).elim .inr fun q => .inl (List.mem_append_right _ q)⟩
  | _, _, _, i + 1, hi, .any t => by
    obtain ⟨F', a, b, c⟩ := EnvR.set r i (by simpa using hi) t
    exact ⟨F', .any a, b, c⟩
  | _, _, _, i + 1, hi, .val (F1 := F1) (F2 := F2) h t => by
    obtain ⟨F', a, b, c⟩ := EnvR.set r i (by simpa using hi) t
    refine ⟨F1 ++ F', .val h a, fun n1 n2 n3 => ?_, fun x hx => ?_⟩
    · obtain ⟨m1, m2, m3⟩ := List.nodup_append.mp n1
      refine List.nodup_append.mpr ⟨m1, b m2 n2 fun x hx q => n3 x hx (List.mem_append_right _ q), fun x hx y hy e => ?_⟩
      rcases c y hy with q | q
      · exact m3 x hx y q e
      · exact n3 y q (List.mem_append_left _ (e ▸ hx))
    · rcases List.mem_append.mp hx with q | q
      · exact .inl (List.mem_append_left _ q)
      · exact (c x q).imp (fun z => List.mem_append_right _ z) id
theorem EnvR.len : ∀ {δ : Env} {σ : St} {F : List Addr}, EnvR K G H δ σ F → δ.length = σ.length
  | _, _, _, .nil => rfl
  | _, _, _, .any t => by rw [List.length_cons, List.length_cons, EnvR.len t]
  | _, _, _, .val _ t => by rw [List.length_cons, List.length_cons, EnvR.len t]
/-- a slot forgotten -/
theorem EnvR.forget {o : Option V} : ∀ {δ : Env} {σ : St} {F : List Addr} (i : Nat), EnvR K G H δ σ F → ∃ F', EnvR K G H (δ.set i none) (σ.set i o) F' ∧ F'.Sublist F
  | _, _, _, _, .nil => ⟨[], .nil, .refl _⟩
  | _, _, _, 0, .any t => ⟨_, .any t, .refl _⟩
  | _, _, _, 0, .val _ t => ⟨_, .any t, List.sublist_append_right ..⟩
  | _, _, _, i + 1, .any t => by
    obtain ⟨F', a, b⟩ := EnvR.forget i t
    exact ⟨F', .any a, b⟩
  | _, _, _, i + 1, .val h t => by
    obtain ⟨F', a, b⟩ := EnvR.forget i t
    exact ⟨_, .val h a, List.Sublist.append (.refl _) b⟩
end
/-- less is known -/
inductive Le : Env → Env → Prop
  | nil : Le [] []
  | any {a : Slot} {δ δ' : Env} : Le δ δ' → Le (a :: δ) (none :: δ')
  | eq {a b : Slot} {δ δ' : Env} : a = b → Le δ δ' → Le (a :: δ) (b :: δ')
theorem Le.refl : ∀ δ : Env, Le δ δ
  | [] => .nil
  | _ :: δ => .eq rfl (Le.refl δ)
theorem EnvR.weak {K : PySem.W.Frag} {G H : Hp} : ∀ {δ δ' : Env} {σ : St} {F : List Addr}, Le δ δ' → EnvR K G H δ σ F → ∃ F', EnvR K G H δ' σ F' ∧ F'.Sublist F
  | _, _, _, _, .nil, .nil => ⟨_, .nil, .refl _⟩
  | _, _, _, _, .any l, .any t => by
    obtain ⟨F', a, b⟩ := EnvR.weak l t
    exact ⟨F', .any a, b⟩
  | _, _, _, _, .any l, .val _ t => by
    obtain ⟨F', a, b⟩ := EnvR.weak l t
    exact ⟨F', .any a, b.trans (List.sublist_append_right ..)⟩
  | _, _, _, _, .eq e l, .any t => by
    subst e
    obtain ⟨F', a, b⟩ := EnvR.weak l t
    exact ⟨F', .any a, b⟩
  | _, _, _, _, .eq e l, .val h t => by
    subst e
    obtain ⟨F', a, b⟩ := EnvR.weak l t
    exact ⟨_, .val h a, List.Sublist.append (.refl _) b⟩

structure Ok (K : PySem.W.Frag) (G H : Hp) (F : List Addr) (δ : Env) (σ : St) : Prop where
  gh : Same G H
  nd : F.Nodup
  own : ∀ b ∈ F, G b = none
  env : EnvR K G H δ σ F

/-- behind an expression -/
structure New (G H G' H' : Hp) : Prop where
  hh : Same H H'
  gg : Same G G'
  gh : Same G' H'
  nw : ∀ b, G b = none → G' b ≠ none → H b = none ∨ ∃ xs, H b = some (.tup xs)
/-- behind a statement -/
structure Tr (G H : Hp) (F : List Addr) (G' H' : Hp) (F' : List Addr) : Prop where
  gg : Same G G'
  keep : ∀ b o, H b = some o → b ∉ F → H' b = some o
  own : ∀ b ∈ F', b ∈ F ∨ H b = none
  nw : ∀ b, G b = none → G' b ≠ none → b ∈ F ∨ H b = none ∨ ∃ xs, H b = some (.tup xs)
  al : ∀ b o, H b = some o → ∃ u, H' b = some u
section
variable {K : PySem.W.Frag} {G H G' H' G1 H1 G2 H2 : Hp} {δ : Env} {σ : St} {F F1 F2 : List Addr}
theorem New.refl (e : Same G H) : New G H G H := ⟨Same.refl _, Same.refl _, e, fun _ h k => absurd h k⟩
theorem none_of (e : Same H H') {b : Addr} (h : H' b = none) : H b = none := e.free h
theorem New.trans (a : New G H G1 H1) (b : New G1 H1 G2 H2) : New G H G2 H2 := ⟨a.hh.trans b.hh, a.gg.trans b.gg, b.gh, fun c h k => by
  by_cases q : G1 c = none
  · rcases b.nw c q k with z | ⟨xs, z⟩
    · exact .inl (none_of a.hh z)
    · cases e : H c with
      | none => exact .inl rfl
      | some o =>
        have := a.hh c o e
        rw [z] at this
        exact .inr ⟨xs, this.symm ▸ rfl⟩
  · exact a.nw c h q⟩
theorem New.own (n : New G H G' H') (hF : ∀ b ∈ F, G b = none) (ht : ∀ b ∈ F, (∃ o, H b = some o) ∧ ∀ xs, H b ≠ some (.tup xs)) : ∀ b ∈ F, G' b = none := fun b hb => by
  cases e : G' b with
  | none => rfl
  | some o =>
    obtain ⟨⟨u, hu⟩, k⟩ := ht b hb
    rcases n.nw b (hF b hb) (by rw [e]; intro z; cases z) with z | ⟨xs, z⟩
    · rw [hu] at z
      cases z
    · exact absurd z (k xs)
theorem New.stay (n : New G H G' H') (F : List Addr) : Stay G H G' H' F := ⟨n.gg, fun b _ o h => n.hh b o h, fun b xs h => n.hh b _ h⟩
theorem Ok.new (o : Ok K G H F δ σ) (n : New G H G' H') : Ok K G' H' F δ σ := ⟨n.gh, o.nd, n.own o.own o.env.there, o.env.stay (n.stay F)⟩
theorem Tr.refl : Tr G H F G H F := ⟨Same.refl _, fun _ _ h _ => h, fun _ h => .inl h, fun _ h k => absurd h k, fun _ o h => ⟨o, h⟩⟩
theorem New.tr (n : New G H G' H') : Tr G H F G' H' F := ⟨n.gg, fun b o h _ => n.hh b o h, fun _ h => .inl h, fun b h k => .inr (n.nw b h k), fun b o h => ⟨o, n.hh b o h⟩⟩
theorem Tr.trans (a : Tr G H F G1 H1 F1) (b : Tr G1 H1 F1 G2 H2 F2) : Tr G H F G2 H2 F2 := by
  have own1 : ∀ c, c ∉ F → ∀ o, H c = some o → c ∉ F1 := fun c hc o h q => by
    rcases a.own c q with z | z
    · exact hc z
    · rw [h] at z
      cases z
  have bk : ∀ c, H1 c = none → H c = none := fun c h => by
    cases e : H c with
    | none => rfl
    | some o =>
      obtain ⟨u, q⟩ := a.al c o e
      rw [h] at q
      cases q
  refine ⟨a.gg.trans b.gg, fun c o h hc => b.keep c o (a.keep c o h hc) (own1 c hc o h), fun c hc => ?_, fun c h k => ?_, fun c o h => ?_⟩
  · rcases b.own c hc with z | z
    · exact a.own c z
    · exact .inr (bk c z)
  · by_cases q : G1 c = none
    · rcases b.nw c q k with z | z | ⟨xs, z⟩
      · rcases a.own c z with y | y
        · exact .inl y
        · exact .inr (.inl y)
      · exact .inr (.inl (bk c z))
      · by_cases hF : c ∈ F
        · exact .inl hF
        · cases e : H c with
          | none => exact .inr (.inl rfl)
          | some o =>
            have y := a.keep c o e hF
            rw [z] at y
            exact .inr (.inr ⟨xs, y.symm ▸ rfl⟩)
    · exact a.nw c h q
  · obtain ⟨u, q⟩ := a.al c o h
    exact b.al c u q
theorem Tr.sub (a : Tr G H F G1 H1 F1) (s : ∀ b ∈ F2, b ∈ F1) : Tr G H F G1 H1 F2 := ⟨a.gg, a.keep, fun b h => a.own b (s b h), a.nw, a.al⟩
/-- nothing was owned: as behind an expression -/
theorem Tr.new (a : Tr G H [] G1 H1 F1) (e : Same G1 H1) : New G H G1 H1 := ⟨fun b o h => a.keep b o h (by simp), a.gg, e, fun b h k => (a.nw b h k).elim (fun z => by simp at z) id⟩
end
end W3

/-! W3b: judgements over data: what an expression gives, what a statement does. -/
namespace W3
open PySem PySem.Spec L2

/-! ### all readings of a piece of syntax at once -/
section
variable (X : Cx)
def wE (e : Expr) : TE := fun σ H Q => ∃ t, PE X e t ∧ t σ H Q
def wT (e : Expr) : TT := fun σ H Q => ∃ t, PT X e t ∧ t σ H Q
def wW (e : Expr) : TT := fun σ H Q => ∃ t, PW X e t ∧ t σ H Q
def wA (es : List Expr) : TA := fun σ H Q => ∃ t, PA X es t ∧ t σ H Q
def wS (st : Stmt) : TS := fun D σ H => ∃ t, PS X st t ∧ t D σ H
def wB (sts : List Stmt) : TS := fun D σ H => ∃ t, PSs X sts t ∧ t D σ H
def wG (e : Expr) : TG := fun v σ H Q => ∃ t, PG X e t ∧ t v σ H Q
def wGs (es : List Expr) : TGs := fun vs σ H Q => ∃ t, PGs X es t ∧ t vs σ H Q
def wI (tg e : Expr) : TI := fun σ H R => ∃ t, PI X tg e t ∧ t σ H R
end
section
variable {X : Cx} {e tg : Expr} {es : List Expr} {st : Stmt} {sts : List Stmt}
theorem pe_w : PE X e (wE X e) := ⟨fun pins s σ H Q I ⟨_, h, q⟩ => h.run pins s σ H Q I q⟩
theorem pt_w : PT X e (wT X e) := ⟨fun pins s σ H Q I ⟨_, h, q⟩ => h.run pins s σ H Q I q⟩
theorem pw_w : PW X e (wW X e) := ⟨fun wh pins s σ H Q I ⟨_, h, q⟩ => h.run wh pins s σ H Q I q⟩
theorem pa_w : PA X es (wA X es) := ⟨fun pos pins s σ H Q I ⟨_, h, q⟩ => h.run pos pins s σ H Q I q⟩
theorem ps_w : PS X st (wS X st) := ⟨fun pins s σ H D I ⟨_, h, q⟩ => h.run pins s σ H D I q⟩
theorem pb_w : PSs X sts (wB X sts) := ⟨fun pins s σ H D I ⟨_, h, q⟩ => h.run pins s σ H D I q⟩
theorem pg_w : PG X e (wG X e) := ⟨fun pins s σ H v u Q I r ⟨_, h, q⟩ => h.run pins s σ H v u Q I r q⟩
theorem pgs_w : PGs X es (wGs X es) := ⟨fun pins s σ H vs us Q I r ⟨_, h, q⟩ => h.run pins s σ H vs us Q I r q⟩
theorem pi_w : PI X tg e (wI X tg e) := ⟨fun pins s σ H R I ⟨_, h, q⟩ => h.run pins s σ H R I q⟩
end

/-! ### what an expression gives -/
structure Own (H G' : Hp) (F : List Addr) : Prop where
  nd : F.Nodup
  fr : ∀ b ∈ F, H b = none
  un : ∀ b ∈ F, G' b = none
theorem own_nil {H G' : Hp} : Own H G' [] := ⟨List.nodup_nil, fun _ h => by simp at h, fun _ h => by simp at h⟩
/-- an exception: its class, what its fields are -/
structure Exc where
  cls : Value
  fs : List (Str × D)
structure ExcR (H : Hp) (x : Exc) (c : Value) (dd : Option Addr) : Prop where
  cls : c = x.cls
  fs : x.fs ≠ [] → ∃ a ws, dd = some a ∧ H a = some (.xd ws) ∧ ∀ f d, x.fs.lookup f = some d → ∃ v, ws.lookup f = some v ∧ sc d = some v
section
variable (X : Cx) (δ : Env)
/-- it is seen as d -/
def Er (e : Expr) (d : D) : Prop := ∀ σ H G F, Ok X.K G H F δ σ → ∀ Q : VK, (∀ v H' G', New G H G' H' → Vw X.K H' v d → Q v H') → wE X e σ H Q
/-- it is d, owned as s says -/
def Ev (e : Expr) (s : Shape) (d : D) : Prop := ∀ σ H G F, Ok X.K G H F δ σ → ∀ Q : VK, (∀ v H' G' Fv, New G H G' H' → Own H G' Fv → Rep X.K G' H' s v d Fv → Q v H') → wE X e σ H Q
/-- it raises -/
def Ee (e : Expr) (x : Exc) : Prop := ∀ σ H G F, Ok X.K G H F δ σ → ∀ W, Takes X W → (∀ c dd H' G', New G H G' H' → ExcR H' x c dd → W c dd σ H') → ∀ Q, wE X e σ H Q
def EA (es : List Expr) (ds : List D) : Prop := ∀ σ H G F, Ok X.K G H F δ σ → ∀ Q : List V → Hp → Prop, (∀ vs H' G', New G H G' H' → VwL X.K G' vs ds → Q vs H') → wA X es σ H Q
/-- arguments that are looked at alone -/
def RA (es : List Expr) (ds : List D) : Prop := ∀ σ H G F, Ok X.K G H F δ σ → ∀ Q : List V → Hp → Prop, (∀ vs H' G', New G H G' H' → VwL X.K H' vs ds → Q vs H') → wA X es σ H Q
def Et (e : Expr) (b : Bool) : Prop := ∀ σ H G F, Ok X.K G H F δ σ → ∀ Q : Bool → Hp → Prop, (∀ H' G', New G H G' H' → Q b H') → wT X e σ H Q
def Ew (e : Expr) (b : Bool) : Prop := ∀ σ H G F, Ok X.K G H F δ σ → ∀ Q : Bool → Hp → Prop, (∀ H' G', New G H G' H' → Q b H') → wW X e σ H Q
end
section
variable {X : Cx} {δ : Env} {e a b c : Expr} {es rest : List Expr} {s : Shape} {d da db : D} {ds : List D} {pos : Pos} {x : V}
theorem Ev.er (h : Ev X δ e s d) : Er X δ e d := fun σ H G F o Q q => h σ H G F o Q fun v H' G' Fv n _ r => q v H' G' n (r.vw n.gh)
theorem Ev.fz (h : Ev X δ e s d) : Ev X δ e .S d := fun σ H G F o Q q => h σ H G F o Q fun v H' G' Fv n ow r => by
  refine q v H' (frzC G' H' Fv) [] ⟨n.hh, n.gg.trans frz_old, frz_in n.gh, fun b g k => ?_⟩ own_nil (.S (r.frzd n.gh Fv (fun _ h => h)))
  by_cases z : G' b = none
  · rcases frz_new z k with y | ⟨xs, y⟩
    · exact .inl (ow.fr b y)
    · cases e : H b with
      | none => exact .inl rfl
      | some o =>
        have z2 := n.hh b o e
        rw [y] at z2
        exact .inr ⟨xs, z2.symm ▸ rfl⟩
  · exact n.nw b g z
theorem Er.sc (h : Er X δ e d) (hs : sc d = some x) : Ev X δ e .S d := fun σ H G F o Q q => h σ H G F o Q fun v H' G' n w => by
  have z := w.sc hs
  subst z
  exact q v H' G' [] n own_nil (.S (vw_sc hs))

/-! names and constants -/
theorem er_nm (i : Nat) {n : Str} (hN : X.N[i]? = some n := by rfl) (hd : δ[i]? = some (some (s, d)) := by rfl) (hv : Vis X.env.scope n := by first | exact Or.inl rfl | exact Or.inr (Or.inl rfl) | exact Or.inr (Or.inr rfl))
    (h1 : (n == ("__debug__" : Str)) = false := by decide) (h2 : (n == ("__classdict__" : Str)) = false := by decide) : Er X δ (.Name n pos) d := fun σ H G F o Q q => by
  obtain ⟨v, Fi, e, r, _⟩ := o.env.get hd
  exact ⟨_, pe_var hN hv h1 h2, v, e, q v H G (.refl o.gh) (r.vw o.gh)⟩
theorem ev_nm (i : Nat) {n : Str} (hN : X.N[i]? = some n := by rfl) (hd : δ[i]? = some (some (.S, d)) := by rfl) (hv : Vis X.env.scope n := by first | exact Or.inl rfl | exact Or.inr (Or.inl rfl) | exact Or.inr (Or.inr rfl))
    (h1 : (n == ("__debug__" : Str)) = false := by decide) (h2 : (n == ("__classdict__" : Str)) = false := by decide) : Ev X δ (.Name n pos) .S d := fun σ H G F o Q q => by
  obtain ⟨v, Fi, e, r, _⟩ := o.env.get hd
  cases r with
  | S r => exact ⟨_, pe_var hN hv h1 h2, v, e, q v H G [] (.refl o.gh) own_nil (.S r)⟩
theorem ev_c {t : TE} (h : PE X e t) (hs : sc d = some x) (ht : ∀ σ H Q, Q x H → t σ H Q) : Ev X δ e .S d := fun σ H G F o Q q =>
  ⟨_, h, ht σ H Q (q x H G [] (.refl o.gh) own_nil (.S (vw_sc hs)))⟩
theorem ev_int {i : Int} {j} : Ev X δ (.Constant (.int i) j pos) .S (.int i) := ev_c pe_int rfl fun _ _ _ q => q
theorem ev_bl {k : Bool} {j} : Ev X δ (.Constant (.bool k) j pos) .S (.bl k) := ev_c pe_bl rfl fun _ _ _ q => q
theorem ev_non {j} : Ev X δ (.Constant .none j pos) .S .non := ev_c pe_non rfl fun _ _ _ q => q
theorem ev_str {y : Str} {j} : Ev X δ (.Constant (.str y) j pos) .S (.str y) := ev_c pe_str rfl fun _ _ _ q => q
/-- a constant of the module -/
theorem ev_gl {n : Str} {u : Value} (hm : X.mg n = some u) (r : RelV x u) (hs : sc d = some x) (hg : Gl X n := by rfl) (h1 : (n == ("__debug__" : Str)) = false := by decide) : Ev X δ (.Name n pos) .S d := ev_c (pe_glob hg hm r h1) hs fun _ _ _ q => q
theorem ev_glI {n : Str} {i : Int} (h : ∃ t, X.mg n = some (.int i t)) (hg : Gl X n := by rfl) (h1 : (n == ("__debug__" : Str)) = false := by decide) : Ev X δ (.Name n pos) .S (.int i) := by
  obtain ⟨t, e⟩ := h
  exact ev_gl e (x := .int i) ⟨_, rfl⟩ rfl hg h1
theorem ev_glS {n y : Str} (h : ∃ t, X.mg n = some (.str y t)) (hg : Gl X n := by rfl) (h1 : (n == ("__debug__" : Str)) = false := by decide) : Ev X δ (.Name n pos) .S (.str y) := by
  obtain ⟨t, e⟩ := h
  exact ev_gl e (x := .str y) ⟨_, rfl⟩ rfl hg h1
/-- the name of a built-in -/
theorem ev_bt {n : Str} {u : Value} (hm : X.mg n = none) (hv : bootBuiltins n = some u) (r : RelV x u) (hs : sc d = some x) (hg : Gl X n := by rfl) (hn : n ≠ "__name__" := by decide) (h1 : (n == ("__debug__" : Str)) = false := by decide) : Ev X δ (.Name n pos) .S d :=
  ev_c (pe_bltn hg hm hv r hn h1) hs fun _ _ _ q => q

/-! operators that give what is its own value -/
theorem ev_bin {op : Operator} {r : R2} (ho : OpR X (binaryOp op) r) (ha : Er X δ a da) (hb : Er X δ b db) (hs : sc d = some x) (hr : ∀ u w H Q, Vw X.K H u da → Vw X.K H w db → Q x H → r u w H Q) : Ev X δ (.BinOp a op b pos) .S d := fun σ H G F o Q q =>
  ⟨_, pe_op ho pe_w pe_w, ha σ H G F o _ fun u H1 G1 n1 w1 => hb σ H1 G1 F (o.new n1) _ fun w H2 G2 n2 w2 =>
    hr u w H2 Q (w1.mono n2.hh) w2 (q x H2 G2 [] (n1.trans n2) own_nil (.S (vw_sc hs)))⟩
theorem ev_un {op : UnaryOp} {r : V → Hp → VK → Prop} (ho : UnR X (unaryOp op) r) (ha : Er X δ a da) (hs : sc d = some x) (hr : ∀ u H Q, Vw X.K H u da → Q x H → r u H Q) : Ev X δ (.UnaryOp op a pos) .S d := fun σ H G F o Q q =>
  ⟨_, pe_un ho pe_w, ha σ H G F o _ fun u H1 G1 n1 w1 => hr u H1 Q w1 (q x H1 G1 [] n1 own_nil (.S (vw_sc hs)))⟩
variable {i j : Int}
theorem ev_add (ha : Er X δ a (.int i)) (hb : Er X δ b (.int j)) : Ev X δ (.BinOp a .Add b pos) .S (.int (i + j)) := ev_bin op_add ha hb rfl fun u w H Q h1 h2 q => ⟨i, j, h1.sc rfl, h2.sc rfl, q⟩
theorem ev_sub (ha : Er X δ a (.int i)) (hb : Er X δ b (.int j)) : Ev X δ (.BinOp a .Sub b pos) .S (.int (i - j)) := ev_bin op_sub ha hb rfl fun u w H Q h1 h2 q => ⟨i, j, h1.sc rfl, h2.sc rfl, q⟩
theorem ev_mul (ha : Er X δ a (.int i)) (hb : Er X δ b (.int j)) (hc : CMul i j) : Ev X δ (.BinOp a .Mult b pos) .S (.int (i * j)) := ev_bin op_mul ha hb rfl fun u w H Q h1 h2 q => ⟨i, j, h1.sc rfl, h2.sc rfl, hc, q⟩
theorem ev_fdiv (ha : Er X δ a (.int i)) (hb : Er X δ b (.int j)) (hc : CDiv i j) : Ev X δ (.BinOp a .FloorDiv b pos) .S (.int (i / j)) := ev_bin op_fdiv ha hb rfl fun u w H Q h1 h2 q => ⟨i, j, h1.sc rfl, h2.sc rfl, hc, q⟩
theorem ev_mod (ha : Er X δ a (.int i)) (hb : Er X δ b (.int j)) (hc : 0 < j) : Ev X δ (.BinOp a .Mod b pos) .S (.int (i % j)) := ev_bin op_mod ha hb rfl fun u w H Q h1 h2 q => ⟨i, j, h1.sc rfl, h2.sc rfl, hc, q⟩
theorem ev_pow (ha : Er X δ a (.int i)) (hb : Er X δ b (.int j)) (hc : CPow i j) : Ev X δ (.BinOp a .Pow b pos) .S (.int (i ^ j.toNat)) := ev_bin op_pow ha hb rfl fun u w H Q h1 h2 q => ⟨i, j, h1.sc rfl, h2.sc rfl, hc, q⟩
theorem ev_cats {y z : Str} (ha : Er X δ a (.str y)) (hb : Er X δ b (.str z)) (hc : y.length + z.length ≤ sizeLine) : Ev X δ (.BinOp a .Add b pos) .S (.str (y ++ z)) := ev_bin op_add_str ha hb rfl fun u w H Q h1 h2 q => ⟨y, z, h1.sc rfl, h2.sc rfl, hc, q⟩
theorem ev_neg (ha : Er X δ a (.int i)) : Ev X δ (.UnaryOp .USub a pos) .S (.int (-i)) := ev_un un_neg ha rfl fun u H Q h q => ⟨i, h.sc rfl, q⟩

/-! comparisons -/
theorem ev_cmp {op : CmpOp} {r : R2} {k : Bool} (ho : OpR X (compareOp op) r) (hm : behindInMarks op b = false) (ha : Er X δ a da) (hb : Er X δ b db) (hr : ∀ u w H Q, Vw X.K H u da → Vw X.K H w db → Q (.bl k) H → r u w H Q) :
    Ev X δ (.Compare a [op] [b] pos) .S (.bl k) := fun σ H G F o Q q =>
  ⟨_, pe_cmpR ho pe_w pe_w hm, ha σ H G F o _ fun u H1 G1 n1 w1 => hb σ H1 G1 F (o.new n1) _ fun w H2 G2 n2 w2 =>
    hr u w H2 Q (w1.mono n2.hh) w2 (q (.bl k) H2 G2 [] (n1.trans n2) own_nil (.S (.bl k)))⟩
theorem et_cmp {op : CmpOp} {r : R2} {k : Bool} (ho : OpR X (compareOp op) r) (hm : behindInMarks op b = false) (ha : Er X δ a da) (hb : Er X δ b db) (hr : ∀ u w H Q, Vw X.K H u da → Vw X.K H w db → Q (.bl k) H → r u w H Q) :
    Et X δ (.Compare a [op] [b] pos) k := fun σ H G F o Q q =>
  ⟨_, pt_cmpR ho pe_w pe_w hm, ha σ H G F o _ fun u H1 G1 n1 w1 => hb σ H1 G1 F (o.new n1) _ fun w H2 G2 n2 w2 =>
    hr u w H2 _ (w1.mono n2.hh) w2 ⟨k, rfl, q H2 G2 (n1.trans n2)⟩⟩
/-- a comparison by what is compared: what it asks of the operator -/
structure CmpD (X : Cx) (op : CmpOp) (b : Expr) (da db : D) (k : Bool) : Prop where
  ex : ∃ r, OpR X (compareOp op) r ∧ behindInMarks op b = false ∧ ∀ u w H Q, Vw X.K H u da → Vw X.K H w db → Q (.bl k) H → r u w H Q
theorem ev_cm {op : CmpOp} {k : Bool} (ha : Er X δ a da) (hb : Er X δ b db) (h : CmpD X op b da db k) : Ev X δ (.Compare a [op] [b] pos) .S (.bl k) := by
  obtain ⟨r, h1, h2, h3⟩ := h.ex
  exact ev_cmp h1 h2 ha hb h3
theorem et_cm {op : CmpOp} {k : Bool} (ha : Er X δ a da) (hb : Er X δ b db) (h : CmpD X op b da db k) : Et X δ (.Compare a [op] [b] pos) k := by
  obtain ⟨r, h1, h2, h3⟩ := h.ex
  exact et_cmp h1 h2 ha hb h3
theorem cm_lt : CmpD X .Lt b (.int i) (.int j) (decide (i < j)) := ⟨_, op_lt, nomark _, fun u w H Q h1 h2 q => ⟨i, j, h1.sc rfl, h2.sc rfl, q⟩⟩
theorem cm_le : CmpD X .LtE b (.int i) (.int j) (decide (i ≤ j)) := ⟨_, op_le, nomark _, fun u w H Q h1 h2 q => ⟨i, j, h1.sc rfl, h2.sc rfl, q⟩⟩
theorem cm_gt : CmpD X .Gt b (.int i) (.int j) (decide (j < i)) := ⟨_, op_gt, nomark _, fun u w H Q h1 h2 q => ⟨i, j, h1.sc rfl, h2.sc rfl, q⟩⟩
theorem cm_ge : CmpD X .GtE b (.int i) (.int j) (decide (j ≤ i)) := ⟨_, op_ge, nomark _, fun u w H Q h1 h2 q => ⟨i, j, h1.sc rfl, h2.sc rfl, q⟩⟩
theorem cm_eqI : CmpD X .Eq b (.int i) (.int j) (decide (i = j)) := ⟨_, op_eq, nomark _, fun u w H Q h1 h2 q => by
  rw [h1.sc rfl, h2.sc rfl]
  exact ⟨rfl, by rw [dec_int, Bool.beq_eq_decide_eq]; exact q⟩⟩
theorem cm_neI : CmpD X .NotEq b (.int i) (.int j) (!decide (i = j)) := ⟨_, op_ne, nomark _, fun u w H Q h1 h2 q => by
  rw [h1.sc rfl, h2.sc rfl]
  exact ⟨rfl, by rw [dec_int, Bool.beq_eq_decide_eq]; exact q⟩⟩
theorem dec_strD {y z : Str} : decide (V.str y = V.str z) = decide (y = z) := by
  by_cases h : y = z
  · subst h
    simp
  · have h' : ¬ V.str y = V.str z := fun q => h (V.str.inj q)
    rw [decide_eq_false h, decide_eq_false h']
theorem cm_eqS {y z : Str} : CmpD X .Eq b (.str y) (.str z) (decide (y = z)) := ⟨_, op_eq, nomark _, fun u w H Q h1 h2 q => by
  rw [h1.sc rfl, h2.sc rfl]
  exact ⟨rfl, by rw [dec_strD]; exact q⟩⟩
theorem cm_neS {y z : Str} : CmpD X .NotEq b (.str y) (.str z) (!decide (y = z)) := ⟨_, op_ne, nomark _, fun u w H Q h1 h2 q => by
  rw [h1.sc rfl, h2.sc rfl]
  exact ⟨rfl, by rw [dec_strD]; exact q⟩⟩
/-- is None, is not None -/
def isNon : D → Bool
  | .non => true
  | _ => false
theorem isNon_dec {K : PySem.W.Frag} {H : Hp} {v : V} {d : D} (h : Vw K H v d) : decide (v = .non) = isNon d := by
  cases h <;> first
    | rfl
    | simp [isNon]
theorem cm_is : CmpD X .Is b da .non (isNon da) := ⟨_, op_isN, nomark _, fun u w H Q h1 h2 q => ⟨h2.sc rfl, by rw [isNon_dec h1]; exact q⟩⟩
theorem cm_isnt : CmpD X .IsNot b da .non (!isNon da) := ⟨_, op_notN, nomark _, fun u w H Q h1 h2 q => ⟨h2.sc rfl, by rw [isNon_dec h1]; exact q⟩⟩
/-- one sign in a text; a text in a text -/
theorem cm_in_str {y z : Str} (hm : behindInMarks .In b = false) : CmpD X .In b (.str y) (.str z) (!(Builtin.Str.occurrences z y 0 z.length 1).isEmpty) := ⟨_, op_in_str, hm, fun u w H Q h1 h2 q => ⟨y, z, h1.sc rfl, h2.sc rfl, q⟩⟩

/-! ### tests -/
theorem et_ev {k : Bool} (h : Er X δ e (.bl k)) (he : ∀ whole, isTrue e X.env whole = (do let v ← whole; standAt e.pos; holding [v] (truthy v)) := by intro _; rfl) : Et X δ e k := fun σ H G F o Q q =>
  ⟨_, pt_val pe_w he, h σ H G F o _ fun v H' G' n w => ⟨k, w.sc rfl, q H' G' n⟩⟩
theorem et_not {k : Bool} (h : Et X δ a k) : Et X δ (.UnaryOp .Not a pos) (!k) := fun σ H G F o Q q => ⟨_, pt_not pt_w, h σ H G F o _ fun H' G' n => q H' G' n⟩
theorem ew_and1 {k : Bool} (h : Et X δ a k) : Ew X δ (.BoolOp .And [a] pos) k := fun σ H G F o Q q => ⟨_, pw_and1 pt_w, h σ H G F o _ q⟩
theorem ew_or1 {k : Bool} (h : Et X δ a k) : Ew X δ (.BoolOp .Or [a] pos) k := fun σ H G F o Q q => ⟨_, pw_or1 pt_w, h σ H G F o _ q⟩
theorem ew_and {k l : Bool} (h : Et X δ a k) (t : k = true → Ew X δ (.BoolOp .And (b :: rest) pos) l) : Ew X δ (.BoolOp .And (a :: b :: rest) pos) (k && l) := fun σ H G F o Q q =>
  ⟨_, pw_and pt_w pw_w, h σ H G F o _ fun H1 G1 n1 => by
    cases k with
    | true => exact iteT (t rfl σ H1 G1 F (o.new n1) Q fun H2 G2 n2 => q H2 G2 (n1.trans n2))
    | false => exact iteF (q H1 G1 n1)⟩
theorem ew_or {k l : Bool} (h : Et X δ a k) (t : k = false → Ew X δ (.BoolOp .Or (b :: rest) pos) l) : Ew X δ (.BoolOp .Or (a :: b :: rest) pos) (k || l) := fun σ H G F o Q q =>
  ⟨_, pw_or pt_w pw_w, h σ H G F o _ fun H1 G1 n1 => by
    cases k with
    | true => exact iteT (q H1 G1 n1)
    | false => exact iteF (t rfl σ H1 G1 F (o.new n1) Q fun H2 G2 n2 => q H2 G2 (n1.trans n2))⟩
theorem et_w {k : Bool} (h : Ew X δ e k) : Et X δ e k := fun σ H G F o Q q => by
  obtain ⟨t, p, r⟩ := h σ H G F o Q q
  exact ⟨t, p.pt, r⟩
theorem Et.eq {k l : Bool} (h : Et X δ e k) (z : k = l) : Et X δ e l := z ▸ h
/-! and, or, not as values, of truths -/
theorem ev_one {op : PySem.BoolOp} {k : Bool} (h : Er X δ a (.bl k)) : Ev X δ (.BoolOp op [a] pos) .S (.bl k) := fun σ H G F o Q q =>
  ⟨_, pe_one pe_w, h σ H G F o _ fun v H' G' n w => by rw [w.sc rfl]; exact q _ H' G' [] n own_nil (.S (.bl k))⟩
theorem ev_and {k l : Bool} (h : Er X δ a (.bl k)) (t : k = true → Er X δ (.BoolOp .And (b :: rest) pos) (.bl l)) : Ev X δ (.BoolOp .And (a :: b :: rest) pos) .S (.bl (k && l)) := fun σ H G F o Q q =>
  ⟨_, pe_and pe_w pe_w, h σ H G F o _ fun v H1 G1 n1 w => ⟨k, w.sc rfl, by
    cases k with
    | true => exact iteT (t rfl σ H1 G1 F (o.new n1) _ fun v2 H2 G2 n2 w2 => by rw [w2.sc rfl]; exact q _ H2 G2 [] (n1.trans n2) own_nil (.S (.bl _)))
    | false => exact iteF (q _ H1 G1 [] n1 own_nil (.S (.bl _)))⟩⟩
theorem ev_or {k l : Bool} (h : Er X δ a (.bl k)) (t : k = false → Er X δ (.BoolOp .Or (b :: rest) pos) (.bl l)) : Ev X δ (.BoolOp .Or (a :: b :: rest) pos) .S (.bl (k || l)) := fun σ H G F o Q q =>
  ⟨_, pe_or pe_w pe_w, h σ H G F o _ fun v H1 G1 n1 w => ⟨k, w.sc rfl, by
    cases k with
    | true => exact iteT (q _ H1 G1 [] n1 own_nil (.S (.bl _)))
    | false => exact iteF (t rfl σ H1 G1 F (o.new n1) _ fun v2 H2 G2 n2 w2 => by rw [w2.sc rfl]; exact q _ H2 G2 [] (n1.trans n2) own_nil (.S (.bl _)))⟩⟩
theorem ev_not {k : Bool} (h : Er X δ a (.bl k)) : Ev X δ (.UnaryOp .Not a pos) .S (.bl (!k)) := fun σ H G F o Q q =>
  ⟨_, pe_not pe_w, h σ H G F o _ fun v H' G' n w => ⟨k, w.sc rfl, q _ H' G' [] n own_nil (.S (.bl _))⟩⟩
theorem Ev.eq {d' : D} (h : Ev X δ e s d) (z : d = d') : Ev X δ e s d' := z ▸ h
theorem Er.eq {d' : D} (h : Er X δ e d) (z : d = d') : Er X δ e d' := z ▸ h

/-! ### arguments, calls -/
theorem ea_nil : EA X δ [] [] := fun σ H G F o Q q => ⟨_, pa_nil, q [] H G (.refl o.gh) .nil⟩
theorem ea_cons (h : Ev X δ e .S d) (t : EA X δ es ds) (hs : starEach (e :: es) X.env = (false, eval e X.env) :: starEach es X.env := by rfl) : EA X δ (e :: es) (d :: ds) := fun σ H G F o Q q =>
  ⟨_, pa_cons pe_w pa_w hs, h σ H G F o _ fun v H1 G1 F1 n1 _ r => t σ H1 G1 F (o.new n1) _ fun vs H2 G2 n2 l => q (v :: vs) H2 G2 (n1.trans n2) (.cons (by
    cases r with
    | S r => exact r.mono n2.gg) l)⟩
theorem ra_nil : RA X δ [] [] := fun σ H G F o Q q => ⟨_, pa_nil, q [] H G (.refl o.gh) .nil⟩
theorem ra_cons (h : Er X δ e d) (t : RA X δ es ds) (hs : starEach (e :: es) X.env = (false, eval e X.env) :: starEach es X.env := by rfl) : RA X δ (e :: es) (d :: ds) := fun σ H G F o Q q =>
  ⟨_, pa_cons pe_w pa_w hs, h σ H G F o _ fun v H1 G1 n1 r => t σ H1 G1 F (o.new n1) _ fun vs H2 G2 n2 l => q (v :: vs) H2 G2 (n1.trans n2) (.cons (r.mono n2.hh) l)⟩
/-- a built-in function that gives what is its own value -/
theorem ev_cb {r : List V → Hp → VK → Prop} {n : Str} {id : String} (hc : CallR X (.builtin id) r) (hm : X.mg n = none) (hv : bootBuiltins n = some (.builtin id)) (h : RA X δ (e :: es) ds) (hs : sc d = some x) (hr : ∀ vs H Q, VwL X.K H vs ds → Q x H → r vs H Q)
    {p : Pos} (hg : Gl X n := by rfl) (hn : n ≠ "__name__" := by decide) (hdb : (n == ("__debug__" : Str)) = false := by decide) (he : starEach (e :: es) X.env = (false, eval e X.env) :: starEach es X.env := by rfl)
    (hpl : (backTo pos (starEach es X.env)).any (·.1) = false := by rfl) : Ev X δ (.Call (.Name n p) (e :: es) [] pos) .S d := fun σ H G F o Q q =>
  ⟨_, pe_callB hc hg hm hv pa_w hn hdb he hpl, h σ H G F o _ fun vs H' G' n w => hr vs H' Q w (q x H' G' [] n own_nil (.S (vw_sc hs)))⟩
theorem ev_ct {r : List V → Hp → VK → Prop} {n : Str} {T : String} (hc : CallR X (.type T) r) (hm : X.mg n = none) (hv : bootBuiltins n = some (.type T)) (h : RA X δ (e :: es) ds) (hs : sc d = some x) (hr : ∀ vs H Q, VwL X.K H vs ds → Q x H → r vs H Q)
    {p : Pos} (hg : Gl X n := by rfl) (hn : n ≠ "__name__" := by decide) (hdb : (n == ("__debug__" : Str)) = false := by decide) (he : starEach (e :: es) X.env = (false, eval e X.env) :: starEach es X.env := by rfl)
    (hpl : (backTo pos (starEach es X.env)).any (·.1) = false := by rfl) : Ev X δ (.Call (.Name n p) (e :: es) [] pos) .S d := fun σ H G F o Q q =>
  ⟨_, pe_callTy hc hg hm hv pa_w hn hdb he hpl, h σ H G F o _ fun vs H' G' n w => hr vs H' Q w (q x H' G' [] n own_nil (.S (vw_sc hs)))⟩
/-! displays -/
theorem ev_tup {k} (h : EA X δ es ds) (hl : ds.length ≤ 100000) : Ev X δ (.Tuple es k pos) .S (.tup ds) := fun σ H G F o Q q =>
  ⟨_, pe_tup pa_w, h σ H G F o _ fun vs H1 G1 n1 l => ⟨by rw [l.length]; exact Nat.le_trans hl (by decide), fun p hp => by
    have g1 : G1 p = none := by
      cases e : G1 p with
      | none => rfl
      | some u =>
        have := n1.gh p u e
        rw [hp] at this
        cases this
    refine q (.ref p) _ (upd G1 p (.tup vs)) [] (n1.trans ⟨same_new hp, same_new g1, fun b u z => ?_, fun b _ z => ?_⟩) own_nil (.S (.tup upd_same (l.mono (same_new g1))))
    · by_cases hb : b = p
      · subst hb
        rw [upd_same] at z ⊢
        exact z
      · rw [upd_ne hb] at z ⊢
        exact n1.gh b u z
    · by_cases hb : b = p
      · subst hb
        exact .inl hp
      · rw [upd_ne hb] at z
        rename_i y
        exact absurd y z⟩⟩
theorem ev_lst (h : EA X δ es ds) (hl : ds.length ≤ 100000) : Ev X δ (.List es pos) (.L .S) (.lst ds) := fun σ H G F o Q q =>
  ⟨_, pe_lst pa_w, h σ H G F o _ fun vs H1 G1 n1 l => ⟨by rw [l.length]; exact Nat.le_trans hl (by decide), fun p hp => by
    have g1 : G1 p = none := by
      cases e : G1 p with
      | none => rfl
      | some u =>
        have := n1.gh p u e
        rw [hp] at this
        cases this
    refine q (.ref p) _ G1 [p] (n1.trans ⟨same_new hp, Same.refl _, fun b u z => same_new hp b u (n1.gh b u z), fun b y z => absurd y z⟩) ⟨by simp, fun b hb => ?_, fun b hb => ?_⟩ (.L upd_same (RepL.ofS l))
    · rw [List.mem_singleton] at hb
      subst hb
      exact none_of n1.hh hp
    · rw [List.mem_singleton] at hb
      subst hb
      exact g1⟩⟩
end
end W3

/-! W3c: promises over data, statements, loops. -/
namespace W3
open PySem PySem.Spec L2
open PyProof.Rows (envOfC)

/-! ### promises -/
inductive Res where
  | ok (s : Shape) (d : D)
  | ex (x : Exc)
/-- what a def is worth: its arguments' data, and how it ends -/
abbrev Con := List D → Res → Prop
def spC (K : PySem.W.Frag) (C : Con) : Sp := fun vs H Q E => ∃ ds r G, C ds r ∧ Same G H ∧ VwL K G vs ds ∧
  match r with
  | .ok s d => ∀ v H' G' Fv, New G H G' H' → Own H G' Fv → Rep K G' H' s v d Fv → Q v H'
  | .ex x => ∀ c dd H' G', New G H G' H' → ExcR H' x c dd → E c dd H'
/-- room for k calls, and nothing whose repr is being made -/
structure Rm (k : Nat) (A : Around) : Prop where
  rm : Room k A
  gd : A.guards = some []
theorem Rm.mono {j k : Nat} {A : Around} (r : Rm k A) (h : j ≤ k) : Rm j A := ⟨r.rm.mono h, r.gd⟩
theorem Rm.units {k : Nat} {A : Around} (r : Rm k A) : A.units + 64 < cLine := r.rm.units
theorem Rm.units0 {k : Nat} {A : Around} (r : Rm k A) : A.units < cLine := r.rm.units0
/-- a def that keeps its promise wherever there is room -/
structure FnG (P : Program) (w : World) (K : PySem.W.Frag) (mg : Str → Option Value) (base : Heap) (k : Nat) (f : Addr) (fd : FuncData) (ps : List Str) (sp : Sp) : Prop where
  len : ∀ vs H Q E, sp vs H Q E → vs.length = ps.length
  run : ∀ (A : Around) (outer : List PySem.Env) (s : Shared) (H : Hp) (args : Args) (us : List Value) (vs : List V) (Q : VK) (E : XK), Rm k A → Env0 P w K mg base A outer s H → BindsTo s fd args (ps.zip us) → Vals vs us → sp vs H Q E →
    codeAny (model P w) A (.call (.ref f) args) (CR (L2.CX P w) outer P w H s Q E) s
theorem FnG.up {P : Program} {w : World} {K : PySem.W.Frag} {mg : Str → Option Value} {base : Heap} {j k : Nat} {f : Addr} {fd : FuncData} {ps : List Str} {sp : Sp} (F : FnG P w K mg base j f fd ps sp) (h : j ≤ k) : FnG P w K mg base k f fd ps sp :=
  ⟨F.len, fun A outer s H args us vs Q E r => F.run A outer s H args us vs Q E (r.mono h)⟩
section
variable {P : Program} {w : World} {K : PySem.W.Frag} {mg : Str → Option Value} {base : Heap} {k : Nat} {f : Addr} {fd : FuncData} {ps : List Str} {sp : Sp}
theorem fnG_of {x qual : Str} {st : Stmt} {N : List Str} (F : Fun K x qual st f fd) (S : FnScope N ps (defScope st)) (len : ∀ vs H Q E, sp vs H Q E → vs.length = ps.length)
    (body : ∀ (cdv : Value) (A : Around) (outer : List PySem.Env) (s : Shared) (H : Hp) (vs : List V) (Q : VK) (E : XK), Rm k (A.deeper (envOfC qual (defScope st) s.heap.objs.size f cdv)) → sp vs H Q E →
      ∃ t, PSs (cxOf (L2.CX P w) P w K mg base N qual (defScope st) f cdv A outer s H E) (defBody st) t ∧ t { nx := fun _ H' => Q .non H', rt := Q } (L2.start N vs) H) : FnG P w K mg base (k + 1) f fd ps sp := by
  obtain ⟨oc, od, kV, doc, pm, an, cdv, ct, osl, rfl, lk, hcd⟩ := F.ex
  refine ⟨len, ?_⟩
  intro A outer s H args us vs Q E hr e0 hb r hsp
  have nargs := len _ _ _ _ hsp
  have kin : K.In s.heap := e0.mod.kin.keeps fun b o z => (e0.bs b o z).1
  have free : s.heap.NoLimit := e0.mod.nolimit.keeps fun b o z => (e0.bs b o z).1
  have kinds : ∀ y ∈ ps.zip us, (defScope st).names.lookup y.1 = some .local ∨
      ((defScope st).names.lookup y.1 = some .cell ∧ ((cellsFrom (s.heap.objs.size + 1) (defScope st).names []).lookup y.1).isSome = true) := by
    rintro ⟨n, v⟩ hy
    exact (S.par n (List.of_mem_zip hy).1).elim .inl fun q => .inr ⟨q, PySem.W.cellsFrom_some _ _ _ (.inl q)⟩
  have code := PySem.W.codeRec_of kin hcd
  refine codeAny_call_function hr.rm.depth (kin _ _ lk) rfl S.co S.gen rfl code (hb _ _ _ _ ?_)
  refine wpAny_newFunctionEnv_cells S.kind kinds ?_
  intro env he s1 x
  subst he
  refine ⟨free.keeps x.toInCall.keep, codeAny_func ?_⟩
  obtain ⟨t, ht, hq⟩ := body cdv A outer s H vs Q E ⟨hr.rm.deeper _, hr.gd⟩ hsp
  have I : Inv (cxOf (L2.CX P w) P w K mg base N qual (defScope st) f cdv A outer s H E) [] (L2.start N vs) H s1 :=
    inv_start S hr.rm.hd e0 nargs r x
  refine wpAny_mono (ht.run [] s1 _ H _ I hq) ?_ fun _ _ z => z
  intro fl s' hs
  cases fl with
  | brk =>
    obtain ⟨_, _, _, z⟩ := hs
    exact z.elim
  | cont =>
    obtain ⟨_, _, _, z⟩ := hs
    exact z.elim
  | next =>
    obtain ⟨σ', H', J, q⟩ := hs
    exact ⟨V.non, H', J.os, J.bare, J.base, J.hok, rfl, q⟩
  | ret u =>
    obtain ⟨v, σ', H', J, rv, q⟩ := hs
    exact ⟨v, H', J.os, J.bare, J.base, J.hok, rv, q⟩
end
section
variable {X : Cx} {k : Nat} {f : Addr} {fd : FuncData} {ps : List Str} {sp : Sp} {E : L2.St → XK} {x : Str} {p pos : Pos} {e : Expr} {es : List Expr} {t : TA}
theorem runG {pins : List (Addr × Obj)} {σ : L2.St} {H : Hp} {s : Shared} {Q : VK} {us : List Value} {vs : List V} (F : FnG X.prog X.w X.K X.mg X.base k f fd ps sp) (hr : Rm k X.A) (hb : Binds X.K fd ps []) (hx : PassesAt (L2.CX X.prog X.w) X σ (E σ))
    (I : Inv X pins σ H s) (r : Vals vs us) (h : sp vs H Q (E σ)) : wpAny (model X.prog X.w) X.A (call (.ref f) us) (EP X pins σ Q) X.xe s := by
  have nargs : us.length = ps.length := r.length.symm.trans (F.len _ _ _ _ h)
  have bound := hb s us I.kIn ((congrArg List.length (List.append_nil us)).trans nargs)
  rw [List.append_nil] at bound
  refine wpAny_call (codeAny_mono (F.run X.A X.stack s H ⟨us, []⟩ us vs Q (E σ) hr I.env0 bound r h) ?_)
  intro r s' hq
  match r, hq with
  | .error e, hq => exact hx pins H s e s' I hq
  | .ok (.ret u), hq => exact I.after hq
  | .ok .next, hq => exact False.elim hq
  | .ok .brk, hq => exact False.elim hq
  | .ok .cont, hq => exact False.elim hq
/-- f(e, ..) -/
theorem pe_callG (F : FnG X.prog X.w X.K X.mg X.base k f fd ps sp) (hr : Rm k X.A) (hg : Gl X x) (hm : X.mg x = some (.ref f)) (hk : PySem.W.keepIn X.K (.ref f) = true) (hb : Binds X.K fd ps []) (hx : ∀ σ, PassesAt (L2.CX X.prog X.w) X σ (E σ))
    (ha : PA X (e :: es) t) (hdb : (x == ("__debug__" : Str)) = false) (he : starEach (e :: es) X.env = (false, eval e X.env) :: starEach es X.env) (hpl : (backTo pos (starEach es X.env)).any (·.1) = false) :
    PE X (.Call (.Name x p) (e :: es) [] pos) (tCallS sp E t) := by
  constructor
  intro pins s σ H Q I h
  refine wpAny_Call_Name_kw (ld_glob I hg hm ?_ hdb)
  refine PySem.W.callWith_K (h₀ := X.base) I.ok.mod.kin hk (thn (ha.run pos pins s σ H _ I h) ?_) he hpl
  rintro us s1 ⟨vs, H1, I1, r, q⟩
  exact ⟨I1.kIn, runG F hr hb (hx σ) I1 r q⟩
end
structure FnC (P : Program) (w : World) (K : PySem.W.Frag) (mg : Str → Option Value) (base : Heap) (k : Nat) (n : Str) (C : Con) : Prop where
  ex : ∃ f fd ps, mg n = some (.ref f) ∧ PySem.W.keepIn K (.ref f) = true ∧ Binds K fd ps [] ∧ FnG P w K mg base k f fd ps (spC K C)
theorem FnC.up {P : Program} {w : World} {K : PySem.W.Frag} {mg : Str → Option Value} {base : Heap} {j k : Nat} {n : Str} {C : Con} (F : FnC P w K mg base j n C) (h : j ≤ k) : FnC P w K mg base k n C := by
  obtain ⟨f, fd, ps, a, b, c, d⟩ := F.ex
  exact ⟨f, fd, ps, a, b, c, d.up h⟩
section
variable {X : Cx} {δ : Env} {e a b c : Expr} {es rest : List Expr} {s : Shape} {d da db : D} {ds : List D} {pos p : Pos} {n : Str} {k : Nat} {C : Con}
theorem ev_call (F : FnC X.prog X.w X.K X.mg X.base k n C) (hr : Rm k X.A) (ha : EA X δ (e :: es) ds) (hc : C ds (.ok s d)) (hg : Gl X n := by rfl) (hdb : (n == ("__debug__" : Str)) = false := by decide)
    (he : starEach (e :: es) X.env = (false, eval e X.env) :: starEach es X.env := by rfl) (hpl : (backTo pos (starEach es X.env)).any (·.1) = false := by rfl) : Ev X δ (.Call (.Name n p) (e :: es) [] pos) s d := fun σ H G F' o Q q => by
  obtain ⟨f, fd, ps, hm, hk, hb, ok⟩ := F.ex
  refine ⟨_, pe_callG ok hr hg hm hk hb (fun σ => passAt (W := fun _ _ _ _ => False) takes0 σ) pa_w hdb he hpl, ha σ H G F' o _ fun vs H1 G1 n1 l => ⟨ds, _, G1, hc, n1.gh, l, fun v H2 G2 Fv n2 ow r => ?_⟩⟩
  exact q v H2 G2 Fv (n1.trans n2) ⟨ow.nd, fun b hb => none_of n1.hh (ow.fr b hb), ow.un⟩ r
theorem ee_call {x : Exc} (F : FnC X.prog X.w X.K X.mg X.base k n C) (hr : Rm k X.A) (ha : EA X δ (e :: es) ds) (hc : C ds (.ex x)) (hg : Gl X n := by rfl) (hdb : (n == ("__debug__" : Str)) = false := by decide)
    (he : starEach (e :: es) X.env = (false, eval e X.env) :: starEach es X.env := by rfl) (hpl : (backTo pos (starEach es X.env)).any (·.1) = false := by rfl) : Ee X δ (.Call (.Name n p) (e :: es) [] pos) x := fun σ H G F' o W tk q Q => by
  obtain ⟨f, fd, ps, hm, hk, hb, ok⟩ := F.ex
  refine ⟨_, pe_callG ok hr hg hm hk hb (fun σ => passAt tk σ) pa_w hdb he hpl, ha σ H G F' o _ fun vs H1 G1 n1 l => ⟨ds, _, G1, hc, n1.gh, l, fun c dd H2 G2 n2 xr => ?_⟩⟩
  exact q c dd H2 G2 (n1.trans n2) xr
end

/-! ### what a statement does -/
structure Post where
  nx : Env → Prop := fun _ => False
  rt : Shape → D → Prop := fun _ _ => False
  bk : Env → Prop := fun _ => False
  ct : Env → Prop := fun _ => False
  xc : Exc → Env → Prop := fun _ _ => False
structure Go (K : PySem.W.Frag) (Φ : Post) (G H : Hp) (F : List Addr) (D : Ends) (W : WX) : Prop where
  nx : ∀ δ' σ' G' H' F', Φ.nx δ' → Tr G H F G' H' F' → Ok K G' H' F' δ' σ' → D.nx σ' H'
  bk : ∀ δ' σ' G' H' F', Φ.bk δ' → Tr G H F G' H' F' → Ok K G' H' F' δ' σ' → D.bk σ' H'
  ct : ∀ δ' σ' G' H' F', Φ.ct δ' → Tr G H F G' H' F' → Ok K G' H' F' δ' σ' → D.ct σ' H'
  rt : ∀ s d v G' H' Fv, Φ.rt s d → Tr G H F G' H' Fv → Same G' H' → Fv.Nodup → (∀ b ∈ Fv, G' b = none) → Rep K G' H' s v d Fv → D.rt v H'
  xc : ∀ x δ' c dd σ' G' H' F', Φ.xc x δ' → Tr G H F G' H' F' → Ok K G' H' F' δ' σ' → ExcR H' x c dd → W c dd σ' H'
theorem Go.at {K : PySem.W.Frag} {Φ : Post} {G H G1 H1 : Hp} {F F1 : List Addr} {D : Ends} {W : WX} (g : Go K Φ G H F D W) (t : Tr G H F G1 H1 F1) : Go K Φ G1 H1 F1 D W :=
  ⟨fun _ _ _ _ _ a b c => g.nx _ _ _ _ _ a (t.trans b) c, fun _ _ _ _ _ a b c => g.bk _ _ _ _ _ a (t.trans b) c, fun _ _ _ _ _ a b c => g.ct _ _ _ _ _ a (t.trans b) c,
    fun _ _ _ _ _ _ a b c d e f => g.rt _ _ _ _ _ _ a (t.trans b) c d e f, fun _ _ _ _ _ _ _ _ a b c d => g.xc _ _ _ _ _ _ _ _ a (t.trans b) c d⟩
section
variable (X : Cx) (δ : Env)
def St (st : Stmt) (Φ : Post) : Prop := ∀ σ H G F, Ok X.K G H F δ σ → ∀ D W, Takes X W → Go X.K Φ G H F D W → wS X st D σ H
def Sts (sts : List Stmt) (Φ : Post) : Prop := ∀ σ H G F, Ok X.K G H F δ σ → ∀ D W, Takes X W → Go X.K Φ G H F D W → wB X sts D σ H
end
theorem Ok.weak {K : PySem.W.Frag} {G H : Hp} {F : List Addr} {δ δ' : Env} {σ : L2.St} (o : Ok K G H F δ σ) (l : Le δ δ') : ∃ F', Ok K G H F' δ' σ ∧ ∀ b ∈ F', b ∈ F := by
  obtain ⟨F', a, b⟩ := o.env.weak l
  exact ⟨F', ⟨o.gh, o.nd.sublist b, fun x hx => o.own x (b.subset hx), a⟩, fun x hx => b.subset hx⟩
theorem Tr.less {G H : Hp} {F F' : List Addr} (h : ∀ b ∈ F', b ∈ F) : Tr G H F G H F' := Tr.refl.sub h
section
variable {X : Cx} {δ δ' : Env} {e a b c : Expr} {es rest : List Expr} {st : Stmt} {sts body orelse : List Stmt} {s : Shape} {d da db : D} {ds : List D} {pos p : Pos} {n : Str} {k : Nat} {C : Con} {Φ Ψ : Post}
theorem st_weak (l : Le δ δ') (h : St X δ' st Φ) : St X δ st Φ := fun σ H G F o D W tk g => by
  obtain ⟨F', o', sub⟩ := o.weak l
  exact h σ H G F' o' D W tk (g.at (.less sub))
theorem sts_weak (l : Le δ δ') (h : Sts X δ' sts Φ) : Sts X δ sts Φ := fun σ H G F o D W tk g => by
  obtain ⟨F', o', sub⟩ := o.weak l
  exact h σ H G F' o' D W tk (g.at (.less sub))
theorem sts_nil (h : Φ.nx δ) : Sts X δ [] Φ := fun σ H G F o D W tk g => ⟨_, pss_nil, g.nx δ σ G H F h .refl o⟩
theorem sts_cons (M : Env → Prop) (h : St X δ st { Φ with nx := M }) (t : ∀ δ', M δ' → Sts X δ' sts Φ) : Sts X δ (st :: sts) Φ := fun σ H G F o D W tk g =>
  ⟨_, pss_cons ps_w pb_w, h σ H G F o { D with nx := wB X sts D } W tk ⟨fun δ1 σ1 G1 H1 F1 m tr o1 => t δ1 m σ1 H1 G1 F1 o1 D W tk (g.at tr), g.bk, g.ct, g.rt, g.xc⟩⟩
/-- one that goes on to a known environment -/
theorem sts_next (h : St X δ st { Φ with nx := fun ε => ε = δ' }) (t : Sts X δ' sts Φ) : Sts X δ (st :: sts) Φ := sts_cons _ h fun _ m => m ▸ t
theorem sts_last (h : St X δ st Φ) : Sts X δ [st] Φ := fun σ H G F o D W tk g => ⟨_, pss_one ps_w, h σ H G F o D W tk g⟩
theorem Go.mono {K : PySem.W.Frag} {G H : Hp} {F : List Addr} {D : Ends} {W : WX} (g : Go K Ψ G H F D W) (h1 : ∀ ε, Φ.nx ε → Ψ.nx ε) (h2 : ∀ s d, Φ.rt s d → Ψ.rt s d) (h3 : ∀ ε, Φ.bk ε → Ψ.bk ε) (h4 : ∀ ε, Φ.ct ε → Ψ.ct ε)
    (h5 : ∀ x ε, Φ.xc x ε → Ψ.xc x ε) : Go K Φ G H F D W :=
  ⟨fun _ _ _ _ _ m => g.nx _ _ _ _ _ (h1 _ m), fun _ _ _ _ _ m => g.bk _ _ _ _ _ (h3 _ m), fun _ _ _ _ _ m => g.ct _ _ _ _ _ (h4 _ m), fun _ _ _ _ _ _ m => g.rt _ _ _ _ _ _ (h2 _ _ m), fun _ _ _ _ _ _ _ _ m => g.xc _ _ _ _ _ _ _ _ (h5 _ _ m)⟩

/-! ### the simple ones -/
theorem EnvR.setS {K : PySem.W.Frag} {G H : Hp} {σ : L2.St} {F Fv : List Addr} {v : V} (i : Nat) (hi : i < δ.length) (o : Ok K G H F δ σ) (r : Rep K G H s v d Fv) (ow : Own H G Fv) :
    ∃ F', Ok K G H F' (δ.set i (some (s, d))) (σ.set i (some v)) ∧ ∀ b ∈ F', b ∈ F ∨ b ∈ Fv := by
  obtain ⟨F', a, b, c⟩ := o.env.set r i hi
  refine ⟨F', ⟨o.gh, b o.nd ow.nd fun x hx hF => ?_, fun x hx => (c x hx).elim (o.own x) (ow.un x), a⟩, c⟩
  obtain ⟨⟨u, hu⟩, _⟩ := o.env.there x hF
  have := ow.fr x hx
  rw [hu] at this
  cases this
/-- a slot is stored behind an expression -/
theorem set_ok {K : PySem.W.Frag} {G H G1 H1 : Hp} {σ : L2.St} {F Fv : List Addr} {v : V} {Q : L2.St → Hp → Prop} (i : Nat) (hi : i < δ.length) (o : Ok K G H F δ σ) (n1 : New G H G1 H1) (ow : Own H G1 Fv) (r : Rep K G1 H1 s v d Fv)
    (q : ∀ F', Tr G H F G1 H1 F' → Ok K G1 H1 F' (δ.set i (some (s, d))) (σ.set i (some v)) → Q (σ.set i (some v)) H1) : Q (σ.set i (some v)) H1 := by
  obtain ⟨F', a, b, c⟩ := (o.new n1).env.set r i hi
  refine q F' ⟨n1.gg, fun b o h _ => n1.hh b o h, fun b hb => (c b hb).imp id (ow.fr b), fun b h k => .inr (n1.nw b h k), fun b o h => ⟨o, n1.hh b o h⟩⟩
    ⟨n1.gh, b o.nd ow.nd fun x hx hF => ?_, fun x hx => (c x hx).elim ((o.new n1).own x) (ow.un x), a⟩
  obtain ⟨⟨u, hu⟩, _⟩ := o.env.there x hF
  have := ow.fr x hx
  rw [hu] at this
  cases this
theorem st_set (i : Nat) {pos' : Pos} (hN : X.N.Nodup) (h : Ev X δ e s d) (q : Φ.nx (δ.set i (some (s, d)))) (hi : X.N[i]? = some n := by rfl) (hl : Nat.blt i δ.length = true := by rfl) (hx : Loc X.env.scope n := by first | exact Or.inl rfl | exact Or.inr rfl)
    (hs : swapsWith e (some (.Name n pos')) pos.line X.env = pure false := by rfl) (hf : X.fn n = true ∨ X.env.scope.names.lookup n = some .local := by first | exact .inl rfl | exact .inr rfl | assumption) : St X δ (.Assign [.Name n pos'] e pos) Φ := fun σ H G F o D W tk g =>
  ⟨_, ps_set hN hi hx pe_w hs hf, h σ H G F o _ fun v H1 G1 Fv n1 ow r => set_ok (Q := D.nx) i (Nat.blt_eq.mp hl) o n1 ow r fun F' tr o' => g.nx _ _ _ _ _ q tr o'⟩
theorem st_ret (h : Ev X δ e s d) (q : Φ.rt s d) : St X δ (.Return (some e) pos) Φ := fun σ H G F o D W tk g =>
  ⟨_, ps_ret pe_w, h σ H G F o _ fun v H1 G1 Fv n1 ow r => g.rt s d v G1 H1 Fv q ⟨n1.gg, fun b o h _ => n1.hh b o h, fun b hb => .inr (ow.fr b hb), fun b h k => .inr (n1.nw b h k), fun b o h => ⟨o, n1.hh b o h⟩⟩ n1.gh ow.nd ow.un r⟩
/-- a local that is handed back with what it owns -/
theorem st_retx (i : Nat) {p : Pos} (q : Φ.rt s d) (hN : X.N[i]? = some n := by rfl) (hd : δ[i]? = some (some (s, d)) := by rfl) (hv : Vis X.env.scope n := by first | exact Or.inl rfl | exact Or.inr (Or.inl rfl) | exact Or.inr (Or.inr rfl))
    (h1 : (n == ("__debug__" : Str)) = false := by decide) (h2 : (n == ("__classdict__" : Str)) = false := by decide) (hF : ∀ {K : PySem.W.Frag} {G H : Hp} {σ : L2.St} {F : List Addr}, EnvR K G H δ σ F → F.Nodup → ∃ v Fi, σ[i]? = some (some v) ∧ Rep K G H s v d Fi ∧ Fi.Nodup ∧ ∀ b ∈ Fi, b ∈ F) :
    St X δ (.Return (some (.Name n p)) pos) Φ := fun σ H G F o D W tk g => by
  obtain ⟨v, Fi, e, r, nd, sub⟩ := hF o.env o.nd
  exact ⟨_, ps_ret (pe_var hN hv h1 h2), v, e, g.rt s d v G H Fi q (Tr.less sub) o.gh nd (fun b hb => o.own b (sub b hb)) r⟩
theorem st_retn (q : Φ.rt .S .non) : St X δ (.Return none pos) Φ := fun σ H G F o D W tk g => ⟨_, ps_retN, g.rt .S .non .non G H [] q (Tr.less fun _ h => by simp at h) o.gh List.nodup_nil (fun _ h => by simp at h) (.S .non)⟩
theorem st_expr (h : Ev X δ e s d) (q : Φ.nx δ) (hs : swapsWith e none pos.line X.env = pure false := by rfl) : St X δ (.Expr e pos) Φ := fun σ H G F o D W tk g =>
  ⟨_, ps_expr pe_w hs, h σ H G F o _ fun v H1 G1 Fv n1 ow r => g.nx δ σ G1 H1 F q n1.tr (o.new n1)⟩
theorem st_exprx {x : Exc} (h : Ee X δ e x) (q : Φ.xc x δ) (hs : swapsWith e none pos.line X.env = pure false := by rfl) : St X δ (.Expr e pos) Φ := fun σ H G F o D W tk g =>
  ⟨_, ps_expr pe_w hs, h σ H G F o W tk (fun c dd H1 G1 n1 xr => g.xc x δ c dd σ G1 H1 F q n1.tr (o.new n1) xr) _⟩
theorem st_if {k : Bool} (h : Et X δ c k) (h1 : k = true → Sts X δ body Φ) (h2 : k = false → Sts X δ orelse Φ) : St X δ (.If c body orelse pos) Φ := fun σ H G F o D W tk g =>
  ⟨_, ps_if pt_w pb_w pb_w, h σ H G F o _ fun H1 G1 n1 => by
    cases k with
    | true => exact iteT (h1 rfl σ H1 G1 F (o.new n1) D W tk (g.at n1.tr))
    | false => exact iteF (h2 rfl σ H1 G1 F (o.new n1) D W tk (g.at n1.tr))⟩
theorem sts_if {k : Bool} (h : Et X δ c k) (h1 : k = true → Sts X δ body { Φ with nx := fun ε => Sts X ε sts Φ }) (h2 : k = false → Sts X δ orelse { Φ with nx := fun ε => Sts X ε sts Φ }) : Sts X δ (.If c body orelse pos :: sts) Φ :=
  sts_cons (fun ε => Sts X ε sts Φ) (st_if h h1 h2) fun _ m => m
theorem sts_ifF (h : Et X δ c false) (t : Sts X δ sts Φ) : Sts X δ (.If c body [] pos :: sts) Φ := sts_if h (fun z => by cases z) fun _ => sts_nil t
theorem sts_ifT (h : Et X δ c true) (t : Sts X δ body { Φ with nx := fun ε => Sts X ε sts Φ }) : Sts X δ (.If c body orelse pos :: sts) Φ := sts_if h (fun _ => t) fun z => by cases z
theorem st_pass (q : Φ.nx δ) : St X δ (.Pass pos) Φ := fun σ H G F o D W tk g => ⟨_, ps_pass, g.nx δ σ G H F q .refl o⟩
theorem st_break (q : Φ.bk δ) : St X δ (.Break pos) Φ := fun σ H G F o D W tk g => ⟨_, ps_break, g.bk δ σ G H F q .refl o⟩
theorem st_cont (q : Φ.ct δ) : St X δ (.Continue pos) Φ := fun σ H G F o D W tk g => ⟨_, ps_continue, g.ct δ σ G H F q .refl o⟩
theorem st_no (h : False) : St X δ st Φ := h.elim
theorem sts_no (h : False) : Sts X δ sts Φ := h.elim

/-! ### targets -/
def Tgt (X : Cx) (tg : Expr) (d : D) (δ δ' : Env) (js : List Nat) : Prop := ∀ σ H G F v, Ok X.K G H F δ σ → Vw X.K G v d → ∀ Q : L2.St → Hp → Prop,
  (∀ σ' F', Ok X.K G H F' δ' σ' → (∀ b ∈ F', b ∈ F) → (∀ vs : List Nat, (∀ j ∈ js, j ∈ vs) → wipe σ' vs = wipe σ vs) → Q σ' H) → wG X tg v σ H Q
def Tgts (X : Cx) (tgs : List Expr) (ds : List D) (δ δ' : Env) (js : List Nat) : Prop := ∀ σ H G F vs, Ok X.K G H F δ σ → VwL X.K G vs ds → ∀ Q : L2.St → Hp → Prop,
  (∀ σ' F', Ok X.K G H F' δ' σ' → (∀ b ∈ F', b ∈ F) → (∀ vs : List Nat, (∀ j ∈ js, j ∈ vs) → wipe σ' vs = wipe σ vs) → Q σ' H) → wGs X tgs vs σ H Q
theorem wipe_at (σ : L2.St) : ∀ (vs : List Nat) (k : Nat), (wipe σ vs)[k]? = if k ∈ vs then (if k < σ.length then some none else none) else σ[k]?
  | [], k => by simp [wipe]
  | v :: vs, k => by
    unfold wipe
    by_cases h : v = k
    · subst h
      by_cases l : v < σ.length
      · rw [List.getElem?_set_self (by rw [wipe_length]; exact l)]
        simp [l]
      · rw [List.getElem?_eq_none (by rw [List.length_set, wipe_length]; omega)]
        simp [l]
    · rw [List.getElem?_set_ne h, wipe_at σ vs k]
      have : k ∈ v :: vs ↔ k ∈ vs := by
        rw [List.mem_cons]
        exact ⟨fun z => z.resolve_left fun y => h y.symm, .inr⟩
      by_cases m : k ∈ vs
      · rw [if_pos m, if_pos (this.mpr m)]
      · rw [if_neg m, if_neg fun z => m (this.mp z)]
theorem wipe_set {σ : L2.St} {i : Nat} {x : Option V} {vs : List Nat} (h : i ∈ vs) : wipe (σ.set i x) vs = wipe σ vs := by
  apply List.ext_getElem?
  intro k
  rw [wipe_at, wipe_at]
  by_cases m : k ∈ vs
  · rw [if_pos m, if_pos m, List.length_set]
  · rw [if_neg m, if_neg m, List.getElem?_set_ne (fun z => m (by rw [← z]; exact h))]
theorem tgt_nm (i : Nat) (hN : X.N.Nodup) (hi : X.N[i]? = some n := by rfl) (hl : Nat.blt i δ.length = true := by rfl) (hx : Loc X.env.scope n := by first | exact Or.inl rfl | exact Or.inr rfl) (hf : X.fn n = true ∨ X.env.scope.names.lookup n = some .local := by first | exact .inl rfl | exact .inr rfl | assumption) :
    Tgt X (.Name n pos) d δ (δ.set i (some (.S, d))) [i] := fun σ H G F v o w Q q => by
  obtain ⟨F', a, b⟩ := EnvR.setS (s := .S) i (Nat.blt_eq.mp hl) o (.S w) own_nil
  exact ⟨_, pg_name hN hi hx hf, q _ F' a (fun x hx => (b x hx).elim id fun z => by simp at z) fun vs h => wipe_set (h i (by simp))⟩
theorem tgts_nil : Tgts X [] [] δ δ [] := fun σ H G F vs o w Q q => by
  cases w
  exact ⟨_, pgs_nil, rfl, q σ F o (fun _ h => h) fun _ _ => rfl⟩
theorem tgts_cons {δ1 δ2 : Env} {js1 js2 : List Nat} (h : Tgt X e d δ δ1 js1) (t : Tgts X es ds δ1 δ2 js2) (hs : (assignEach (e :: es) X.env).map (·.2) = assign e X.env :: (assignEach es X.env).map (·.2) := by rfl) : Tgts X (e :: es) (d :: ds) δ δ2 (js1 ++ js2) := fun σ H G F vs o w Q q => by
  cases w with
  | cons w1 w2 =>
    exact ⟨_, pgs_cons pg_w pgs_w hs, _, _, rfl, h σ H G F _ o w1 _ fun σ1 F1 o1 s1 p1 => t σ1 H G F1 _ o1 w2 _ fun σ2 F2 o2 s2 p2 => q σ2 F2 o2 (fun b hb => s1 b (s2 b hb))
      fun vs hvs => (p2 vs fun j hj => hvs j (List.mem_append_right _ hj)).trans (p1 vs fun j hj => hvs j (List.mem_append_left _ hj))⟩
theorem tgt_tup {js : List Nat} {kk} (h : Tgts X es ds δ δ' js) (hc : X.calm = true := by rfl) (hn : (assignEach es X.env).length = ds.length := by rfl) (hst : (assignEach es X.env).findIdx? (·.1) = none := by rfl) : Tgt X (.Tuple es kk pos) (.tup ds) δ δ' js := fun σ H G F v o w Q q => by
  cases w with
  | tup w l => exact ⟨_, pg_tup hc pgs_w hn hst, _, _, rfl, .inl (.inl (o.gh _ _ w)), l.length, h σ H G F _ o l Q q⟩
/-- target = e -/
theorem st_asg {tg : Expr} {js : List Nat} (h : Ev X δ e .S d) (t : Tgt X tg d δ δ' js) (q : Φ.nx δ') (hs : swapsWithSole [tg] e pos.line X.env = pure false := by rfl) (hw : swappedStores [tg] e X.env = pure none := by rfl) (h1 : (assignEach [tg] X.env).map (·.2) = [assign tg X.env] := by rfl) : St X δ (.Assign [tg] e pos) Φ := fun σ H G F o D W tk g =>
  ⟨_, ps_asg pe_w pg_w hs hw h1, h σ H G F o _ fun v H1 G1 Fv n1 ow r => by
    cases r with
    | S r => exact t σ H1 G1 F v (o.new n1) r _ fun σ' F' o' sub _ => g.nx _ _ _ _ _ q (n1.tr.trans (.less sub)) o'⟩

/-! ### what is walked -/
structure Walk (K : PySem.W.Frag) (J : It) (G0 : Hp) (ds : List D) : Prop where
  go : ∀ i H, i < ds.length → Same G0 H → J.go i H
  stop : ∀ i H, ds.length ≤ i → Same G0 H → J.stop i H
  yld : ∀ i H G x H' d, ds[i]? = some d → Same G0 G → Same G H → J.yld i H x H' → ∃ G', New G H G' H' ∧ Vw K G' x d
def Src (X : Cx) (δ : Env) (tg iter : Expr) (ds : List D) : Prop := ∀ σ H G F, Ok X.K G H F δ σ → ∀ R : It → Hp → Prop, (∀ J H' G', New G H G' H' → Walk X.K J G' ds → R J H') → wI X tg iter σ H R
theorem walk_l {K : PySem.W.Frag} {G0 : Hp} {a : Addr} {xs : List V} (h : SqL K G0 a xs) (l : VwL K G0 xs ds) : Walk K (Itl K a) G0 ds where
  go := fun i H hi e => ⟨xs, xs[i]'(by rw [l.length]; exact hi), same_l e h, by simp⟩
  stop := fun i H hi e => ⟨xs, same_l e h, by rw [l.length]; exact hi⟩
  yld := fun i H G x H' d hd e0 e y => by
    obtain ⟨rfl, y⟩ := y
    obtain ⟨v, hv, w⟩ := l.got hd
    have z := y xs (same_l (e0.trans e) h)
    rw [hv] at z
    cases z
    exact ⟨G, .refl e, w.mono e0⟩
theorem walk_t {K : PySem.W.Frag} {G0 : Hp} {a : Addr} {xs : List V} (h : SqT K G0 a xs) (l : VwL K G0 xs ds) : Walk K (Itt K a) G0 ds where
  go := fun i H hi e => ⟨xs, xs[i]'(by rw [l.length]; exact hi), same_t e h, by simp⟩
  stop := fun i H hi e => ⟨xs, same_t e h, by rw [l.length]; exact hi⟩
  yld := fun i H G x H' d hd e0 e y => by
    obtain ⟨rfl, y⟩ := y
    obtain ⟨v, hv, w⟩ := l.got hd
    have z := y xs (same_t (e0.trans e) h)
    rw [hv] at z
    cases z
    exact ⟨G, .refl e, w.mono e0⟩
theorem src_l {tg : Expr} (h : Ev X δ e .S (.lst ds)) : Src X δ tg e ds := fun σ H G F o R r => ⟨_, pi_list pe_w, h σ H G F o _ fun v H1 G1 Fv n1 ow w => by
  cases w with
  | S w =>
    cases w with
    | lst w l => exact ⟨_, rfl, ⟨_, .inl (same_rd n1.gh w)⟩, r _ H1 G1 n1 (walk_l (.inl w) l)⟩⟩
theorem src_t {tg : Expr} (h : Ev X δ e .S (.tup ds)) : Src X δ tg e ds := fun σ H G F o R r => ⟨_, pi_tup pe_w, h σ H G F o _ fun v H1 G1 Fv n1 ow w => by
  cases w with
  | S w =>
    cases w with
    | tup w l => exact ⟨_, rfl, ⟨_, .inl (.inl (n1.gh _ _ w))⟩, r _ H1 G1 n1 (walk_t (.inl (.inl w)) l)⟩⟩
def rng (lo : Int) (n : Nat) : List D := (List.range n).map fun i => D.int (lo + (i : Nat))
theorem rng_length {lo : Int} {n : Nat} : (rng lo n).length = n := by
  unfold rng
  rw [List.length_map, List.length_range]
theorem rng_get {lo : Int} {n i : Nat} {d : D} (h : (rng lo n)[i]? = some d) : i < n ∧ d = .int (lo + (i : Nat)) := by
  unfold rng at h
  rw [List.getElem?_map] at h
  by_cases hi : i < n
  · rw [List.getElem?_range hi] at h
    exact ⟨hi, (Option.some.inj h).symm⟩
  · rw [List.getElem?_eq_none (by simpa using hi)] at h
    cases h
theorem walk_r {K : PySem.W.Frag} {G0 : Hp} {lo : Int} {n : Nat} : Walk K (Itr lo n) G0 (rng lo n) where
  go := fun i H hi e => by
    rw [rng_length] at hi
    exact hi
  stop := fun i H hi e => by
    rw [rng_length] at hi
    exact hi
  yld := fun i H G x H' d hd e0 e y => by
    obtain ⟨hi, rfl⟩ := rng_get hd
    obtain ⟨rfl, rfl⟩ := y
    exact ⟨G, .refl e, .int _⟩
theorem src_r1 {tg : Expr} {j : Int} (hm : X.mg "range" = none) (h : Er X δ a (.int j)) (hj : -(2 ^ 62) ≤ j ∧ j < 2 ^ 62) (hg : Gl X "range" := by rfl) (hs : starEach [a] X.env = [(false, eval a X.env)] := by rfl) (hs2 : starEach [a] X.env = (false, eval a X.env) :: starEach [] X.env := by rfl) : Src X δ tg (.Call (.Name "range" p) [a] [] pos) (rng 0 j.toNat) := fun σ H G F o R r =>
  ⟨_, pi_range1 hg hm (pa_cons pe_w pa_nil hs2) hs, h σ H G F o _ fun v H1 G1 n1 w => ⟨j, by rw [w.sc rfl], hj.1, hj.2, r _ H1 G1 n1 walk_r⟩⟩
theorem src_r2 {tg : Expr} {i j : Int} (hm : X.mg "range" = none) (ha : Er X δ a (.int i)) (hb : Er X δ b (.int j)) (hj : -(2 ^ 62) ≤ i ∧ i < 2 ^ 62 ∧ -(2 ^ 62) ≤ j ∧ j < 2 ^ 62) (hg : Gl X "range" := by rfl)
    (hs : starEach [a, b] X.env = [(false, eval a X.env), (false, eval b X.env)] := by rfl) (hs2 : starEach [b] X.env = [(false, eval b X.env)] := by rfl) : Src X δ tg (.Call (.Name "range" p) [a, b] [] pos) (rng i (j - i).toNat) := fun σ H G F o R r =>
  ⟨_, pi_range2 hg hm (pa_cons pe_w (pa_cons pe_w pa_nil hs2) (hs.trans (by rw [hs2]))) hs hs2, ha σ H G F o _ fun v H1 G1 n1 w => hb σ H1 G1 F (o.new n1) _ fun u H2 G2 n2 w2 => ⟨i, j, by rw [w.sc rfl, w2.sc rfl], hj, r _ H2 G2 (n1.trans n2) walk_r⟩⟩

/-! ### for -/
theorem st_for {tg iter : Expr} (hp : PassesOwn (model X.prog X.w) X.A X.env X.xe) (hs : Src X δ tg iter ds) (δs : Nat → Env) (h0 : Le δ (δs 0))
    (hb : ∀ i d, ds[i]? = some d → ∃ δ' js, Tgt X tg d (δs i) δ' js ∧ Sts X δ' body { Φ with nx := fun ε => Le ε (δs (i + 1)), ct := fun ε => Le ε (δs (i + 1)), bk := Φ.nx }) (hd : Φ.nx (δs ds.length)) (hc : X.calm = true := by rfl)
    (hf : ∀ x, foldedSetIterable iter X.env x = pure x := by intro _; rfl) : St X δ (.For tg iter body [] pos) Φ := fun σ H G F o D W tk g => by
  refine ⟨_, ps_for hp hc pi_w pg_w pb_w hf, hs σ H G F o _ fun J H1 G1 n1 wk => ?_⟩
  refine ⟨fun i m σ' H' => m = ds.length - i ∧ i ≤ ds.length ∧ ∃ G' F', Tr G H F G' H' F' ∧ Ok X.K G' H' F' (δs i) σ' ∧ Same G1 G', ⟨ds.length, by simp, Nat.zero_le _, ?_⟩, ?_⟩
  · obtain ⟨F', o', sub⟩ := (o.new n1).weak h0
    exact ⟨G1, F', n1.tr.sub sub, o', Same.refl _⟩
  rintro i m σ' H' ⟨rfl, hi, G', F', tr, o', sg⟩
  by_cases hlt : i < ds.length
  · refine .inr ⟨wk.go i H' hlt (sg.trans o'.gh), fun σ2 H2 => i + 1 ≤ ds.length ∧ ∃ G2 F2, Tr G H F G2 H2 F2 ∧ Ok X.K G2 H2 F2 (δs (i + 1)) σ2 ∧ Same G1 G2, fun σ2 H2 q => ⟨ds.length - (i + 1), by omega, rfl, q⟩, fun x H2 y => ?_⟩
    obtain ⟨G2, n2, w2⟩ := wk.yld i H' G' x H2 ds[i] (by simp [hlt]) sg o'.gh y
    obtain ⟨δ', js, tgt, hbd⟩ := hb i ds[i] (by simp [hlt])
    refine tgt σ' H2 G2 F' x (o'.new n2) w2 _ fun σ3 F3 o3 s3 _ => hbd σ3 H2 G2 F3 o3 _ W tk ?_
    have tr3 : Tr G H F G2 H2 F3 := (tr.trans n2.tr).trans (.less s3)
    have nxt : ∀ δ4 σ4 G4 H4 F4, Le δ4 (δs (i + 1)) → Tr G2 H2 F3 G4 H4 F4 → Ok X.K G4 H4 F4 δ4 σ4 → i + 1 ≤ ds.length ∧ ∃ G2 F2, Tr G H F G2 H4 F2 ∧ Ok X.K G2 H4 F2 (δs (i + 1)) σ4 ∧ Same G1 G2 := fun δ4 σ4 G4 H4 F4 l t4 o4 => by
      obtain ⟨F5, o5, s5⟩ := o4.weak l
      exact ⟨hlt, G4, F5, (tr3.trans t4).sub s5, o5, (sg.trans n2.gg).trans t4.gg⟩
    exact ⟨nxt, fun δ4 σ4 G4 H4 F4 q t4 o4 => g.nx δ4 σ4 G4 H4 F4 q (tr3.trans t4) o4, nxt, (g.at tr3).rt, (g.at tr3).xc⟩
  · have e : i = ds.length := by omega
    subst e
    exact .inl ⟨wk.stop _ H' (Nat.le_refl _) (sg.trans o'.gh), g.nx _ _ _ _ _ hd tr o'⟩
end

/-! ### a def -/
def env0 (N : List Str) (ds : List D) : Env := ds.map (fun d => some (Shape.S, d)) ++ List.replicate (N.length - ds.length) none
theorem env0_none {K : PySem.W.Frag} {G H : Hp} : ∀ n : Nat, EnvR K G H (List.replicate n none) (List.replicate n none) []
  | 0 => .nil
  | n + 1 => .any (env0_none n)
theorem env0_ok {K : PySem.W.Frag} {G H : Hp} (m : Nat) : ∀ {vs : List V} {ds : List D}, VwL K G vs ds → EnvR K G H (ds.map (fun d => some (Shape.S, d)) ++ List.replicate m none) (vs.map some ++ List.replicate m none) []
  | _, _, .nil => env0_none m
  | _, _, .cons h t => EnvR.val (F1 := []) (.S h) (env0_ok m t)
def postOf (r : Res) : Post := { nx := fun _ => r = .ok .S .non, rt := fun s d => r = .ok s d, xc := fun x _ => r = .ex x }
section
variable {P : Program} {w : World} {K : PySem.W.Frag} {mg : Str → Option Value} {base : Heap}
theorem def_ok {x qual : Str} {st : Stmt} {f : Addr} {fd : FuncData} {N ps : List Str} {k : Nat} {C : Con} (F : Fun K x qual st f fd) (S : FnScope N ps (defScope st)) (len : ∀ ds r, C ds r → ds.length = ps.length)
    (hb : ∀ (cdv : Value) (A : Around) (outer : List PySem.Env) (s : Shared) (H : Hp) (E : XK), Rm k (A.deeper (envOfC qual (defScope st) s.heap.objs.size f cdv)) → ∀ ds r, C ds r →
      Sts (cxOf (L2.CX P w) P w K mg base N qual (defScope st) f cdv A outer s H E) (env0 N ds) (defBody st) (postOf r)) : FnG P w K mg base (k + 1) f fd ps (spC K C) := by
  refine fnG_of F S (fun vs H Q E h => ?_) (fun cdv A outer s H vs Q E hr h => ?_)
  · obtain ⟨ds, r, G, c, _, l, _⟩ := h
    rw [l.length]
    exact len ds r c
  · obtain ⟨ds, r, G, cc, gh, l, kk⟩ := h
    have o : Ok K G H [] (env0 N ds) (L2.start N vs) := ⟨gh, List.nodup_nil, fun _ h => by simp at h, by
      unfold env0 L2.start
      rw [l.length]
      exact env0_ok _ l⟩
    refine hb cdv A outer s H E hr ds r cc (L2.start N vs) H G [] o { nx := fun _ H' => Q .non H', rt := Q } (fun cls d _ H => E cls d H) (takes_of rfl rfl rfl rfl) ⟨?_, fun _ _ _ _ _ z => z.elim, fun _ _ _ _ _ z => z.elim, ?_, ?_⟩
    · intro δ' σ' G' H' F' q tr o'
      cases (show r = .ok .S .non from q)
      exact kk .non H' G' [] (tr.new o'.gh) own_nil (.S .non)
    · intro s d v G' H' Fv q tr gh' nd un rep
      cases (show r = .ok s d from q)
      exact kk v H' G' Fv (tr.new gh') ⟨nd, fun b hb => (tr.own b hb).elim (fun z => by simp at z) id, un⟩ rep
    · intro x δ' c dd σ' G' H' F' q tr o' xr
      cases (show r = .ex x from q)
      exact kk c dd H' G' (tr.new o'.gh) xr
end
end W3

/-! W3d: built-ins, subscripts, slices, displays, texts, over data. -/
namespace W3
open PySem PySem.Spec L2
section
variable {X : Cx} {δ δ' : Env} {e a b c : Expr} {es rest : List Expr} {s : Shape} {d da db : D} {ds es' : List D} {pos p : Pos} {n : Str} {k : Nat} {i j : Int} {Φ : Post}

/-! isinstance of a built-in class -/
def tyD : D → Option String
  | .non => some "NoneType"
  | .bl _ => some "bool"
  | .int _ => some "int"
  | .str _ => some "str"
  | .tup _ => some "tuple"
  | .lst _ => some "list"
  | .dK _ => some "dict"
  | _ => none
theorem tyX_of {K : PySem.W.Frag} {H : Hp} {v : V} {d : D} {t : String} (h : Vw K H v d) (e : tyD d = some t) : TyX K H v (.type t) := by
  cases h with
  | non => cases e; exact .base .non
  | bl b => cases e; exact .base (.bl b)
  | int i => cases e; exact .base (.int i)
  | str x => cases e; exact .base (.str x)
  | ty n => cases e
  | obj a => cases e
  | tup h _ => cases e; exact .base (.tup h)
  | lst h _ =>
    cases e
    rcases h with h | ⟨o, h⟩
    · exact .base (.lst h)
    · exact .base (.frz h)
  | dK h _ _ =>
    cases e
    rcases h with h | ⟨o, h⟩
    · exact .base (.dK h)
    · exact .fDict h
  | dT h _ _ => cases e
theorem vwL2 {K : PySem.W.Frag} {H : Hp} {vs : List V} {d1 d2 : D} (h : VwL K H vs [d1, d2]) : ∃ x y, vs = [x, y] ∧ Vw K H x d1 ∧ Vw K H y d2 := by
  cases h with
  | cons h1 h2 =>
    cases h2 with
    | cons h2 h3 =>
      cases h3
      exact ⟨_, _, rfl, h1, h2⟩
theorem vwL1 {K : PySem.W.Frag} {H : Hp} {vs : List V} {d1 : D} (h : VwL K H vs [d1]) : ∃ x, vs = [x] ∧ Vw K H x d1 := by
  cases h with
  | cons h1 h2 =>
    cases h2
    exact ⟨_, rfl, h1⟩
theorem ev_isi (T : String) {t : String} {m : Bool} {tn : Str} {p2 : Pos} (hI : X.mg "isinstance" = none) (ha : Er X δ a d) (hm : X.mg tn = none) (ht : tyD d = some t := by rfl) (hk : kitB t T = some m := by rfl) (hv : bootBuiltins tn = some (.type T) := by decide +kernel) (hg : Gl X "isinstance" := by rfl) (hg2 : Gl X tn := by rfl)
    (hn : tn ≠ "__name__" := by decide) (h1 : (tn == ("__debug__" : Str)) = false := by decide) (hs2 : starEach [(.Name tn p2 : Expr)] X.env = (false, eval (.Name tn p2) X.env) :: starEach [] X.env := by rfl)
    (he : starEach [a, (.Name tn p2 : Expr)] X.env = (false, eval a X.env) :: starEach [(.Name tn p2 : Expr)] X.env := by rfl)
    (hpl : (backTo pos (starEach [(.Name tn p2 : Expr)] X.env)).any (·.1) = false := by rfl) : Ev X δ (.Call (.Name "isinstance" p) [a, .Name tn p2] [] pos) .S (.bl m) :=
  ev_cb call_isi hI (by decide +kernel) (ra_cons ha (ra_cons (Ev.er (ev_bt hm hv (x := .ty T) (d := .ty T) rfl rfl hg2 hn h1)) ra_nil hs2) he) rfl (fun vs H Q w q => by
    obtain ⟨x, y, rfl, w1, w2⟩ := vwL2 w
    exact ⟨x, y, .type t, .type T, m, rfl, by rw [w2.sc rfl]; exact .ty T, tyX_of w1 ht, kit_ty hk, q⟩) hg (by decide) (by decide) he hpl

/-! a chain of two comparisons of ints -/
structure CmpI (X : Cx) (op : CmpOp) (f : Int → Int → Bool) : Prop where
  ex : OpR X (compareOp op) (rI0 fun i j => .bl (f i j))
theorem ci_lt : CmpI X .Lt (fun i j => decide (i < j)) := ⟨op_lt⟩
theorem ci_le : CmpI X .LtE (fun i j => decide (i ≤ j)) := ⟨op_le⟩
theorem ev_chain {op op' : CmpOp} {f g : Int → Int → Bool} {l : Int} (hf : CmpI X op f) (hg : CmpI X op' g) (ha : Er X δ a (.int i)) (hb : Er X δ b (.int j)) (hc : f i j = true → Er X δ c (.int l))
    (h1 : lastMarks [op, op'] [b, c] = false := by with_unfolding_all rfl) : Ev X δ (.Compare a [op, op'] [b, c] pos) .S (.bl (f i j && g j l)) := fun σ H G F o Q q =>
  ⟨_, pe_chain hf.ex hg.ex pe_w pe_w pe_w h1, ha σ H G F o _ fun u H1 G1 n1 w1 => hb σ H1 G1 F (o.new n1) _ fun w H2 G2 n2 w2 => ⟨i, j, w1.sc rfl, w2.sc rfl, f i j, rfl, by
    cases hz : f i j with
    | false =>
      rw [hz] at q
      exact iteF (q _ H2 G2 [] (n1.trans n2) own_nil (.S (.bl _)))
    | true =>
      rw [hz] at q
      exact iteT (hc hz σ H2 G2 F ((o.new n1).new n2) _ fun y H3 G3 n3 w3 => ⟨j, l, w2.sc rfl, w3.sc rfl, q _ H3 G3 [] ((n1.trans n2).trans n3) own_nil (.S (.bl _))⟩)⟩⟩
theorem et_chain {op op' : CmpOp} {f g : Int → Int → Bool} {l : Int} (hf : CmpI X op f) (hg : CmpI X op' g) (ha : Er X δ a (.int i)) (hb : Er X δ b (.int j)) (hc : f i j = true → Er X δ c (.int l))
    (h1 : lastMarks [op, op'] [b, c] = false := by with_unfolding_all rfl) : Et X δ (.Compare a [op, op'] [b, c] pos) (f i j && g j l) := fun σ H G F o Q q =>
  ⟨_, pt_chain hf.ex hg.ex pe_w pe_w pe_w h1, ha σ H G F o _ fun u H1 G1 n1 w1 => hb σ H1 G1 F (o.new n1) _ fun w H2 G2 n2 w2 => ⟨i, j, w1.sc rfl, w2.sc rfl, f i j, rfl, by
    cases hz : f i j with
    | false =>
      rw [hz] at q
      exact iteF ⟨_, rfl, q H2 G2 (n1.trans n2)⟩
    | true =>
      rw [hz] at q
      exact iteT (hc hz σ H2 G2 F ((o.new n1).new n2) _ fun y H3 G3 n3 w3 => ⟨j, l, w2.sc rfl, w3.sc rfl, ⟨_, rfl, q H3 G3 ((n1.trans n2).trans n3)⟩⟩)⟩⟩
/-! <= of tuples of ints -/
theorem vwL_ints {K : PySem.W.Frag} {H : Hp} : ∀ {ns : List Int} {vs : List V}, VwL K H vs (ns.map D.int) → vs = ns.map V.int
  | [], _, h => by
    cases h
    rfl
  | n :: ns, _, h => by
    rw [List.map_cons] at h
    cases h with
    | cons h1 h2 =>
      rw [List.map_cons, h1.sc rfl, vwL_ints h2]
theorem vwL_of_ints {K : PySem.W.Frag} {H : Hp} : ∀ ns : List Int, VwL K H (ns.map V.int) (ns.map D.int)
  | [] => .nil
  | n :: ns => .cons (.int n) (vwL_of_ints ns)
def leT (ns ms : List Int) : Bool := Ob.lexAt (fun j => decide (ns.getD j 0 = ms.getD j 0)) (fun j => decide (ns.getD j 0 ≤ ms.getD j 0)) (decide (ns.length ≤ ms.length)) 0 (min ns.length ms.length)
theorem cm_leT (ns ms : List Int) (hr : Rm k X.A) : CmpD X .LtE b (.tup (ns.map D.int)) (.tup (ms.map D.int)) (leT ns ms) := ⟨_, op_leT hr.units0, nomark _, fun u w H Q h1 h2 q => by
  cases h1 with
  | tup h1 l1 =>
    cases h2 with
    | tup h2 l2 =>
      rw [vwL_ints l1] at h1
      rw [vwL_ints l2] at h2
      exact ⟨_, _, ns, ms, rfl, rfl, .inl (.inl h1), .inl (.inl h2), q⟩⟩

/-! len -/
theorem ev_lenL (hm : X.mg "len" = none) (ha : Er X δ a (.lst ds)) (hg : Gl X "len" := by rfl) (he : starEach [a] X.env = (false, eval a X.env) :: starEach [] X.env := by rfl) : Ev X δ (.Call (.Name "len" p) [a] [] pos) .S (.int ds.length) :=
  ev_cb call_len_seq hm PySem.boot_len (ra_cons ha ra_nil he) rfl (fun vs H Q w q => by
    obtain ⟨x, rfl, w1⟩ := vwL1 w
    cases w1 with
    | lst h l => exact ⟨_, _, rfl, .inl (.inl h), by rw [l.length]; exact q⟩) hg (by decide) (by decide) he rfl
theorem ev_lenT (hm : X.mg "len" = none) (ha : Er X δ a (.tup ds)) (hg : Gl X "len" := by rfl) (he : starEach [a] X.env = (false, eval a X.env) :: starEach [] X.env := by rfl) : Ev X δ (.Call (.Name "len" p) [a] [] pos) .S (.int ds.length) :=
  ev_cb call_len_seq hm PySem.boot_len (ra_cons ha ra_nil he) rfl (fun vs H Q w q => by
    obtain ⟨x, rfl, w1⟩ := vwL1 w
    cases w1 with
    | tup h l => exact ⟨_, _, rfl, .inr (.inl (.inl h)), by rw [l.length]; exact q⟩) hg (by decide) (by decide) he rfl
theorem ev_lenS {y : Str} (hm : X.mg "len" = none) (ha : Er X δ a (.str y)) (hz : y.length ≤ sizeLine) (hg : Gl X "len" := by rfl) (he : starEach [a] X.env = (false, eval a X.env) :: starEach [] X.env := by rfl) : Ev X δ (.Call (.Name "len" p) [a] [] pos) .S (.int y.length) :=
  ev_cb call_len_str hm PySem.boot_len (ra_cons ha ra_nil he) rfl (fun vs H Q w q => by
    obtain ⟨x, rfl, w1⟩ := vwL1 w
    exact ⟨y, by rw [w1.sc rfl], hz, q⟩) hg (by decide) (by decide) he rfl

/-! min, max of two ints; str, int -/
theorem ev_max2 (hm : X.mg "max" = none) (ha : Er X δ a (.int i)) (hb : Er X δ b (.int j)) (hc : X.calm = true := by rfl) (hg : Gl X "max" := by rfl) (hs2 : starEach [b] X.env = (false, eval b X.env) :: starEach [] X.env := by rfl)
    (he : starEach [a, b] X.env = (false, eval a X.env) :: starEach [b] X.env := by rfl) (hpl : (backTo pos (starEach [b] X.env)).any (·.1) = false := by rfl) : Ev X δ (.Call (.Name "max" p) [a, b] [] pos) .S (.int (if j > i then j else i)) :=
  ev_cb (call_max2 hc) hm (by decide +kernel) (ra_cons ha (ra_cons hb ra_nil hs2) he) rfl (fun vs H Q w q => by
    obtain ⟨x, y, rfl, w1, w2⟩ := vwL2 w
    exact ⟨i, j, by rw [w1.sc rfl, w2.sc rfl], q⟩) hg (by decide) (by decide) he hpl
theorem ev_min2 (hm : X.mg "min" = none) (ha : Er X δ a (.int i)) (hb : Er X δ b (.int j)) (hc : X.calm = true := by rfl) (hg : Gl X "min" := by rfl) (hs2 : starEach [b] X.env = (false, eval b X.env) :: starEach [] X.env := by rfl)
    (he : starEach [a, b] X.env = (false, eval a X.env) :: starEach [b] X.env := by rfl) (hpl : (backTo pos (starEach [b] X.env)).any (·.1) = false := by rfl) : Ev X δ (.Call (.Name "min" p) [a, b] [] pos) .S (.int (if j < i then j else i)) :=
  ev_cb (call_min2 hc) hm (by decide +kernel) (ra_cons ha (ra_cons hb ra_nil hs2) he) rfl (fun vs H Q w q => by
    obtain ⟨x, y, rfl, w1, w2⟩ := vwL2 w
    exact ⟨i, j, by rw [w1.sc rfl, w2.sc rfl], q⟩) hg (by decide) (by decide) he hpl
theorem ev_strI (hm : X.mg "str" = none) (ha : Er X δ a (.int i)) (hz : i.natAbs.log2 < 1920) (hg : Gl X "str" := by rfl) (he : starEach [a] X.env = (false, eval a X.env) :: starEach [] X.env := by rfl) : Ev X δ (.Call (.Name "str" p) [a] [] pos) .S (.str (toString i)) :=
  ev_ct call_str_int hm (by decide +kernel) (ra_cons ha ra_nil he) rfl (fun vs H Q w q => by
    obtain ⟨x, rfl, w1⟩ := vwL1 w
    exact ⟨i, by rw [w1.sc rfl], hz, q⟩) hg (by decide) (by decide) he rfl
theorem ev_intB {m : Bool} (hm : X.mg "int" = none) (ha : Er X δ a (.bl m)) (hg : Gl X "int" := by rfl) (he : starEach [a] X.env = (false, eval a X.env) :: starEach [] X.env := by rfl) : Ev X δ (.Call (.Name "int" p) [a] [] pos) .S (.int (if m then 1 else 0)) :=
  ev_ct call_int1 hm (by decide +kernel) (ra_cons ha ra_nil he) rfl (fun vs H Q w q => by
    obtain ⟨x, rfl, w1⟩ := vwL1 w
    exact .inr ⟨m, by rw [w1.sc rfl], q⟩) hg (by decide) (by decide) he rfl

/-! subscripts -/
theorem atI_vw {K : PySem.W.Frag} {H : Hp} {vs : List V} (l : VwL K H vs ds) (h : atI ds i = some d) : ∃ v, atI vs i = some v ∧ Vw K H v d := by
  unfold atI at *
  rw [l.length]
  cases e : ixN ds.length i with
  | none =>
    rw [e] at h
    cases h
  | some j =>
    rw [e] at h
    obtain ⟨v, h1, h2⟩ := l.got (show ds[j]? = some d from h)
    exact ⟨v, h1, h2⟩
theorem er_ixL (ha : Er X δ a (.lst ds)) (hb : Er X δ b (.int i)) (h : atI ds i = some d) (hs : PlainIx b := by exact fun _ _ => rfl) : Er X δ (.Subscript a b pos) d := fun σ H G F o Q q =>
  ⟨_, pe_ix ix_list pe_w pe_w hs, ha σ H G F o _ fun u H1 G1 n1 w1 => hb σ H1 G1 F (o.new n1) _ fun w H2 G2 n2 w2 => by
    cases w1 with
    | lst h1 l1 =>
      obtain ⟨v, e, wv⟩ := atI_vw l1 h
      exact ⟨_, _, i, v, rfl, w2.sc rfl, .inl (same_rd n2.hh h1), e, q v H2 G2 (n1.trans n2) (wv.mono n2.hh)⟩⟩
theorem er_ixT (ha : Er X δ a (.tup ds)) (hb : Er X δ b (.int i)) (h : atI ds i = some d) (hs : PlainIx b := by exact fun _ _ => rfl) : Er X δ (.Subscript a b pos) d := fun σ H G F o Q q =>
  ⟨_, pe_ix ix_tup pe_w pe_w hs, ha σ H G F o _ fun u H1 G1 n1 w1 => hb σ H1 G1 F (o.new n1) _ fun w H2 G2 n2 w2 => by
    cases w1 with
    | tup h1 l1 =>
      obtain ⟨v, e, wv⟩ := atI_vw l1 h
      exact ⟨_, _, i, v, rfl, w2.sc rfl, .inl (.inl (n2.hh _ _ h1)), e, q v H2 G2 (n1.trans n2) (wv.mono n2.hh)⟩⟩
theorem ev_ixL (ha : Ev X δ a .S (.lst ds)) (hb : Er X δ b (.int i)) (h : atI ds i = some d) (hs : PlainIx b := by exact fun _ _ => rfl) : Ev X δ (.Subscript a b pos) .S d := fun σ H G F o Q q =>
  ⟨_, pe_ix ix_list pe_w pe_w hs, ha σ H G F o _ fun u H1 G1 F1 n1 ow w1 => hb σ H1 G1 F (o.new n1) _ fun w H2 G2 n2 w2 => by
    cases w1 with
    | S w1 =>
      cases w1 with
      | lst h1 l1 =>
        obtain ⟨v, e, wv⟩ := atI_vw l1 h
        exact ⟨_, _, i, v, rfl, w2.sc rfl, .inl (same_rd (n1.gh.trans n2.hh) h1), e, q v H2 G2 [] (n1.trans n2) own_nil (.S (wv.mono n2.gg))⟩⟩
theorem ev_ixT (ha : Ev X δ a .S (.tup ds)) (hb : Er X δ b (.int i)) (h : atI ds i = some d) (hs : PlainIx b := by exact fun _ _ => rfl) : Ev X δ (.Subscript a b pos) .S d := fun σ H G F o Q q =>
  ⟨_, pe_ix ix_tup pe_w pe_w hs, ha σ H G F o _ fun u H1 G1 F1 n1 ow w1 => hb σ H1 G1 F (o.new n1) _ fun w H2 G2 n2 w2 => by
    cases w1 with
    | S w1 =>
      cases w1 with
      | tup h1 l1 =>
        obtain ⟨v, e, wv⟩ := atI_vw l1 h
        exact ⟨_, _, i, v, rfl, w2.sc rfl, .inl (.inl (n2.hh _ _ (n1.gh _ _ h1))), e, q v H2 G2 [] (n1.trans n2) own_nil (.S (wv.mono n2.gg))⟩⟩
theorem ev_ixS {y : Str} {cc : Nat} (ha : Er X δ a (.str y)) (hb : Er X δ b (.int i)) (hz : y.length ≤ sizeLine) (h : atI y.cps.toList i = some cc) (hs : PlainIx b := by exact fun _ _ => rfl) : Ev X δ (.Subscript a b pos) .S (.str ⟨#[cc]⟩) := fun σ H G F o Q q =>
  ⟨_, pe_ix ix_str pe_w pe_w hs, ha σ H G F o _ fun u H1 G1 n1 w1 => hb σ H1 G1 F (o.new n1) _ fun w H2 G2 n2 w2 =>
    ⟨y, i, cc, w1.sc rfl, w2.sc rfl, hz, h, q _ H2 G2 [] (n1.trans n2) own_nil (.S (.str _))⟩⟩

/-! slices of lists -/
def Eo (X : Cx) (δ : Env) (e : Option Expr) (o : Option Int) : Prop := ∃ t : TO, PO X e t ∧ ∀ σ H G F, Ok X.K G H F δ σ → ∀ Q : Option Int → Hp → Prop, (∀ H' G', New G H G' H' → Q o H') → t σ H Q
theorem eo_none : Eo X δ none none := ⟨_, po_none, fun σ H G F o Q q => q H G (.refl o.gh)⟩
theorem eo_some (h : Er X δ e (.int i)) : Eo X δ (some e) (some i) := ⟨_, po_some pe_w, fun σ H G F o Q q => h σ H G F o _ fun v H1 G1 n1 w => ⟨i, w.sc rfl, q H1 G1 n1⟩⟩
def cutD (ds : List D) (lo hi : Option Int) : List D := (ds.drop (HT.sIx ds.length 0 lo)).take (HT.sIx ds.length ds.length hi - HT.sIx ds.length 0 lo)
theorem cut_vw {K : PySem.W.Frag} {H : Hp} {vs : List V} (l : VwL K H vs ds) (lo hi : Option Int) : VwL K H (cutV vs lo hi) (cutD ds lo hi) := by
  unfold cutV cutD
  rw [l.length]
  exact (l.drop _).take _
/-- a new list laid -/
theorem lay_l {G H : Hp} {vs : List V} {K : PySem.W.Frag} (gh : Same G H) (l : VwL K G vs ds) {q : Addr} (hq : H q = none) : New G H G (upd H q (.lst vs)) ∧ Own H G [q] ∧ Rep K G (upd H q (.lst vs)) (.L .S) (.ref q) (.lst ds) [q] := by
  have g1 : G q = none := gh.free hq
  exact ⟨⟨same_new hq, Same.refl _, fun b u z => same_new hq b u (gh b u z), fun b y z => absurd y z⟩, ⟨by simp, fun b hb => by rw [List.mem_singleton] at hb; rw [hb]; exact hq, fun b hb => by rw [List.mem_singleton] at hb; rw [hb]; exact g1⟩, .L upd_same (RepL.ofS l)⟩
theorem own_after {G H G1 H1 G2 : Hp} {F : List Addr} (n : New G H G1 H1) (o : Own H1 G2 F) : Own H G2 F := ⟨o.nd, fun b hb => none_of n.hh (o.fr b hb), o.un⟩
theorem ev_slL {lo hi : Option Expr} {p2 : Pos} {l h : Option Int} (ha : Ev X δ a .S (.lst ds)) (hl : Eo X δ lo l) (hh : Eo X δ hi h) : Ev X δ (.Subscript a (.Slice lo hi none p2) pos) (.L .S) (.lst (cutD ds l h)) := fun σ H G F o Q q => by
  obtain ⟨tl, pl, rl⟩ := hl
  obtain ⟨th, ph, rh⟩ := hh
  refine ⟨_, pe_slice sl_list pe_w pl ph, ha σ H G F o _ fun u H1 G1 F1 n1 ow w1 => rl σ H1 G1 F (o.new n1) _ fun H2 G2 n2 => rh σ H2 G2 F ((o.new n1).new n2) _ fun H3 G3 n3 => ?_⟩
  cases w1 with
  | S w1 =>
    cases w1 with
    | lst h1 l1 =>
      refine ⟨_, _, rfl, .inl (same_rd ((n1.gh.trans n2.hh).trans n3.hh) h1), fun r hr => ?_⟩
      obtain ⟨m1, m2, m3⟩ := lay_l n3.gh (cut_vw (l1.mono (n2.gg.trans n3.gg)) l h) hr
      exact q _ _ G3 [r] (((n1.trans n2).trans n3).trans m1) (own_after ((n1.trans n2).trans n3) m2) m3
/-! list + list, list * int, list(range) -/
theorem op_catR : OpR X (binaryOp .Add) (fun x y H Q => ∃ l b xs zs, x = .ref l ∧ y = .ref b ∧ Rd H l (.lst xs) ∧ Rd H b (.lst zs) ∧ xs.length + zs.length ≤ sizeLine ∧ ∀ p, H p = none → Q (.ref p) (upd H p (.lst (xs ++ zs)))) := by
  intro pins s σ H x y v u Q I rx ry h
  obtain ⟨l, b, xs, zs, rfl, rfl, hH, hB, hz, q⟩ := h
  cases rx
  cases ry
  obtain ⟨z, its, n, r, e⟩ := (show ObjOk X.prog X.w H s.heap l (.lst xs) from hH.ok I.hok)
  obtain ⟨z2, its2, n2, r2, e2⟩ := (show ObjOk X.prog X.w H s.heap b (.lst zs) from hB.ok I.hok)
  refine PySem.P.add_list e e2 ?_ (by have := r.length; have := r2.length; rw [List.size_toArray, List.size_toArray]; omega)
  have ea : its.toArray ++ its2.toArray = (its ++ its2).toArray := by simp
  rw [ea]
  exact ⟨.ref _, _, I.lnew (t' := s.toks) (r.append r2) (by rw [List.length_append]; omega), rfl, q _ I.fresh⟩
theorem ev_cat (ha : Ev X δ a .S (.lst ds)) (hb : Ev X δ b .S (.lst es')) (hz : ds.length + es'.length ≤ 1000000) : Ev X δ (.BinOp a .Add b pos) (.L .S) (.lst (ds ++ es')) := fun σ H G F o Q q =>
  ⟨_, pe_op op_catR pe_w pe_w, ha σ H G F o _ fun u H1 G1 F1 n1 ow1 w1 => hb σ H1 G1 F (o.new n1) _ fun w H2 G2 F2 n2 ow2 w2 => by
    cases w1 with
    | S w1 =>
      cases w1 with
      | lst h1 l1 =>
        cases w2 with
        | S w2 =>
          cases w2 with
          | lst h2 l2 =>
            refine ⟨_, _, _, _, rfl, rfl, same_rd (n1.gh.trans n2.hh) h1, same_rd n2.gh h2, by rw [l1.length, l2.length]; exact Nat.le_trans hz (by decide), fun r hr => ?_⟩
            obtain ⟨m1, m2, m3⟩ := lay_l n2.gh ((l1.mono n2.gg).app l2) hr
            exact q _ _ G2 [r] ((n1.trans n2).trans m1) (own_after (n1.trans n2) m2) m3⟩
theorem vw_rep {K : PySem.W.Frag} {H : Hp} {vs : List V} (l : VwL K H vs ds) : ∀ m : Nat, VwL K H (List.replicate m vs).flatten (List.replicate m ds).flatten
  | 0 => .nil
  | m + 1 => by
    rw [List.replicate_succ, List.replicate_succ, List.flatten_cons, List.flatten_cons]
    exact l.app (vw_rep l m)
theorem ev_rep (ha : Ev X δ a (.L .S) (.lst ds)) (hb : Er X δ b (.int i)) (h1 : -(2 ^ 63) ≤ i) (h2 : i < 2 ^ 63) (hz : ds.length * i.toNat ≤ 1000000) : Ev X δ (.BinOp a .Mult b pos) (.L .S) (.lst (List.replicate i.toNat ds).flatten) := fun σ H G F o Q q =>
  ⟨_, pe_op op_rep pe_w pe_w, ha σ H G F o _ fun u H1 G1 F1 n1 ow1 w1 => hb σ H1 G1 F (o.new n1) _ fun w H2 G2 n2 w2 => by
    cases w1 with
    | L hp rl =>
      obtain ⟨l1, rfl⟩ := rl.toS
      refine ⟨_, i, _, rfl, w2.sc rfl, n2.hh _ _ hp, h1, h2, by rw [l1.length]; exact Nat.le_trans hz (by decide), fun r hr => ?_⟩
      obtain ⟨m1, m2, m3⟩ := lay_l n2.gh (vw_rep (l1.mono n2.gg) i.toNat) hr
      exact q _ _ G2 [r] ((n1.trans n2).trans m1) (own_after (n1.trans n2) m2) m3⟩

/-! texts -/
theorem vwL_strs {K : PySem.W.Frag} {H : Hp} : ∀ {ns : List Str} {vs : List V}, VwL K H vs (ns.map D.str) → vs = ns.map V.str
  | [], _, h => by
    cases h
    rfl
  | n :: ns, _, h => by
    rw [List.map_cons] at h
    cases h with
    | cons h1 h2 =>
      rw [List.map_cons, h1.sc rfl, vwL_strs h2]
theorem ev_join {ys : List Str} {z : Str} {apos : Pos} (ha : Er X δ a (.str z)) (hb : Er X δ b (.lst (ys.map D.str))) (hz : (ys.map (·.length)).sum + ys.length * z.length ≤ 16777216) (hs : starEach [b] X.env = [(false, eval b X.env)] := by rfl)
    (hbase : attributeBase a "join" X.env (eval a X.env) = eval a X.env := by rfl) (hline : (apos.endLine == pos.line) = true := by rfl) : Ev X δ (.Call (.Attribute a "join" apos) [b] [] pos) .S (.str (Txt.join z ys)) := fun σ H G F o Q q =>
  ⟨_, pe_join pe_w pe_w hs hbase hline, ha σ H G F o _ fun u H1 G1 n1 w1 => ⟨⟨z, w1.sc rfl⟩, hb σ H1 G1 F (o.new n1) _ fun w H2 G2 n2 w2 => by
    cases w2 with
    | @lst ad vs _ h l =>
      rw [vwL_strs l] at h
      exact ⟨z, _, ys, w1.sc rfl, rfl, .inl (.inl h), hz, q _ H2 G2 [] (n1.trans n2) own_nil (.S (.str _))⟩⟩⟩
/-- f'..' -/
inductive EJ (X : Cx) (δ : Env) : List Expr → List Str → Prop
  | nil : EJ X δ [] []
  | cons {e : Expr} {es : List Expr} {y : Str} {ys : List Str} : Er X δ e (.str y) → EJ X δ es ys → EJ X δ (e :: es) (y :: ys)
def glue (acc : Str) : List Str → Str
  | [] => acc
  | y :: ys => glue (acc ++ y) ys
theorem pj_w : ∀ es : List Expr, PJ X es (es.map (wE X))
  | [] => .nil
  | _ :: es => .cons pe_w (pj_w es)
theorem len_app (x y : Str) : (x ++ y).length = x.length + y.length := by
  show (x.cps ++ y.cps).size = x.cps.size + y.cps.size
  exact Array.size_append
theorem ej_run (h : EJ X δ es rs) : ∀ (acc : Str) (σ : L2.St) (H G : Hp) (F : List Addr), Ok X.K G H F δ σ → acc.length + (rs.map (·.length)).sum ≤ sizeLine → ∀ Q : Str → Hp → Prop, (∀ H' G', New G H G' H' → Q (glue acc rs) H') → tJs (es.map (wE X)) acc σ H Q := by
  induction h with
  | nil => exact fun acc σ H G F o hz Q q => q H G (.refl o.gh)
  | @cons e es y ys he t ih =>
    intro acc σ H G F o hz Q q
    rw [List.map_cons, List.sum_cons] at hz
    refine he σ H G F o _ fun v H1 G1 n1 w => ⟨y, w.sc rfl, by rw [len_app]; omega, ih (acc ++ y) σ H1 G1 F (o.new n1) (by rw [len_app]; omega) Q fun H2 G2 n2 => q H2 G2 (n1.trans n2)⟩
theorem ev_fstr {ys : List Str} {e2 : Expr} (h : EJ X δ (e :: e2 :: es) ys) (hz : (ys.map (·.length)).sum ≤ sizeLine) : Ev X δ (.JoinedStr (e :: e2 :: es) pos) .S (.str (glue Str.empty ys)) := fun σ H G F o Q q =>
  ⟨_, pe_joined (pj_w _), ej_run h Str.empty σ H G F o (by show 0 + _ ≤ _; omega) _ fun H' G' n => q _ H' G' [] n own_nil (.S (.str _))⟩
theorem er_fmtI (h : Er X δ e (.int i)) (hz : i.natAbs.log2 < 1920) : Er X δ (.FormattedValue e (-1) none pos) (.str (toString i)) := fun σ H G F o Q q =>
  ⟨_, pe_fmt pe_w, h σ H G F o _ fun v H1 G1 n1 w => .inr ⟨i, w.sc rfl, hz, q _ H1 G1 n1 (.str _)⟩⟩
theorem er_fmtS {y : Str} (h : Er X δ e (.str y)) (hz : y.length ≤ sizeLine) : Er X δ (.FormattedValue e (-1) none pos) (.str y) := fun σ H G F o Q q =>
  ⟨_, pe_fmt pe_w, h σ H G F o _ fun v H1 G1 n1 w => .inl ⟨y, w.sc rfl, hz, q _ H1 G1 n1 (.str _)⟩⟩

/-! enumerate, zip -/
theorem lay_t {G H : Hp} {vs : List V} {K : PySem.W.Frag} (gh : Same G H) (l : VwL K G vs ds) {q : Addr} (hq : H q = none) : New G H (upd G q (.tup vs)) (upd H q (.tup vs)) ∧ Vw K (upd G q (.tup vs)) (.ref q) (.tup ds) := by
  have g1 : G q = none := gh.free hq
  refine ⟨⟨same_new hq, same_new g1, fun b u z => ?_, fun b _ z => ?_⟩, .tup upd_same (l.mono (same_new g1))⟩
  · by_cases hb : b = q
    · subst hb
      rw [upd_same] at z ⊢
      exact z
    · rw [upd_ne hb] at z ⊢
      exact gh b u z
  · by_cases hb : b = q
    · subst hb
      exact .inl hq
    · rw [upd_ne hb] at z
      rename_i y
      exact absurd y z
def enumD : Nat → List D → List D
  | _, [] => []
  | i, d :: ds => .tup [.int (i : Nat), d] :: enumD (i + 1) ds
theorem enumD_get : ∀ {ds : List D} {i m : Nat} {d : D}, (enumD m ds)[i]? = some d → ∃ x, ds[i]? = some x ∧ d = .tup [.int ((m + i : Nat) : Int), x]
  | [], i, m, d, h => by simp [enumD] at h
  | x :: ds, 0, m, d, h => by
    simp [enumD] at h
    exact ⟨x, rfl, by rw [← h] <;> rfl⟩
  | x :: ds, i + 1, m, d, h => by
    obtain ⟨y, h1, h2⟩ := enumD_get (ds := ds) (i := i) (m := m + 1) (by simpa [enumD] using h)
    exact ⟨y, by simpa using h1, by rw [h2, show m + 1 + i = m + (i + 1) by omega]⟩
theorem enumD_length : ∀ (ds : List D) (m : Nat), (enumD m ds).length = ds.length
  | [], _ => rfl
  | _ :: ds, m => by rw [enumD, List.length_cons, List.length_cons, enumD_length ds]
theorem walk_e {K : PySem.W.Frag} {G0 : Hp} {a : Addr} {xs : List V} (h : SqL K G0 a xs) (l : VwL K G0 xs ds) : Walk K (Ite K a) G0 (enumD 0 ds) where
  go := fun i H hi e => ⟨xs, xs[i]'(by rw [l.length]; rw [enumD_length] at hi; exact hi), same_l e h, by simp⟩
  stop := fun i H hi e => ⟨xs, same_l e h, by rw [l.length]; rw [enumD_length] at hi; exact hi⟩
  yld := fun i H G x H' d hd e0 e y => by
    obtain ⟨T, z, rfl, hT, rfl, y⟩ := y
    obtain ⟨d', hd', rfl⟩ := enumD_get hd
    obtain ⟨v, hv, w⟩ := l.got hd'
    have zz := y xs (same_l (e0.trans e) h)
    rw [hv] at zz
    cases zz
    obtain ⟨n, r⟩ := lay_t (ds := [.int (i : Nat), d']) e (.cons (.int _) (.cons (w.mono e0) .nil)) hT
    refine ⟨_, n, ?_⟩
    rw [Nat.zero_add]
    exact r
theorem src_enum {elts : List Expr} {kk : Nat} {tpos : Pos} (hm : X.mg "enumerate" = none) (h : Ev X δ e .S (.lst ds)) (hg : Gl X "enumerate" := by rfl) (hs : starEach [e] X.env = [(false, eval e X.env)] := by rfl) (hs2 : starEach [e] X.env = (false, eval e X.env) :: starEach [] X.env := by rfl) :
    Src X δ (.Tuple elts kk tpos) (.Call (.Name "enumerate" p) [e] [] pos) (enumD 0 ds) := fun σ H G F o R r => ⟨_, pi_enum hg hm (pa_cons pe_w pa_nil hs2) hs, h σ H G F o _ fun v H1 G1 Fv n1 ow w => by
  cases w with
  | S w =>
    cases w with
    | lst w l => exact ⟨_, _, rfl, .inl (same_rd n1.gh w), r _ H1 G1 n1 (walk_e (.inl w) l)⟩⟩
def zipD : List D → List D → List D
  | a :: as, b :: bs => .tup [a, b] :: zipD as bs
  | _, _ => []
theorem zipD_get : ∀ {as bs : List D} {i : Nat} {d : D}, (zipD as bs)[i]? = some d → ∃ x y, as[i]? = some x ∧ bs[i]? = some y ∧ d = .tup [x, y]
  | [], _, i, d, h => by simp [zipD] at h
  | _ :: _, [], i, d, h => by simp [zipD] at h
  | a :: as, b :: bs, 0, d, h => by
    simp [zipD] at h
    exact ⟨a, b, rfl, rfl, h.symm⟩
  | a :: as, b :: bs, i + 1, d, h => by
    obtain ⟨x, y, h1, h2, h3⟩ := zipD_get (as := as) (bs := bs) (i := i) (by simpa [zipD] using h)
    exact ⟨x, y, by simpa using h1, by simpa using h2, h3⟩
theorem zipD_length : ∀ (as bs : List D), (zipD as bs).length = min as.length bs.length
  | [], _ => by simp [zipD]
  | _ :: _, [] => by simp [zipD]
  | _ :: as, _ :: bs => by
    rw [zipD, List.length_cons, List.length_cons, List.length_cons, zipD_length as bs]
    omega
theorem walk_z {K : PySem.W.Frag} {G0 : Hp} {a b : Addr} {xs ys : List V} (h : SqL K G0 a xs) (l : VwL K G0 xs ds) (h' : SqL K G0 b ys) (l' : VwL K G0 ys es') : Walk K (Itz K a b) G0 (zipD ds es') where
  go := fun i H hi e => by
    rw [zipD_length] at hi
    exact ⟨xs, ys, xs[i]'(by rw [l.length]; omega), ys[i]'(by rw [l'.length]; omega), same_l e h, same_l e h', by simp, by simp⟩
  stop := fun i H hi e => by
    rw [zipD_length] at hi
    refine ⟨xs, ys, same_l e h, same_l e h', ?_⟩
    rw [l.length, l'.length]
    omega
  yld := fun i H G x H' d hd e0 e y => by
    obtain ⟨T, z1, z2, rfl, hT, rfl, y1, y2⟩ := y
    obtain ⟨d1, d2, h1, h2, rfl⟩ := zipD_get hd
    obtain ⟨v1, hv1, w1⟩ := l.got h1
    obtain ⟨v2, hv2, w2⟩ := l'.got h2
    have zz := y1 xs (same_l (e0.trans e) h)
    rw [hv1] at zz
    cases zz
    have zz := y2 ys (same_l (e0.trans e) h')
    rw [hv2] at zz
    cases zz
    obtain ⟨n, r⟩ := lay_t (ds := [d1, d2]) e (.cons (w1.mono e0) (.cons (w2.mono e0) .nil)) hT
    exact ⟨_, n, r⟩
theorem src_zip {elts : List Expr} {kk : Nat} {tpos : Pos} (hm : X.mg "zip" = none) (ha : Ev X δ a .S (.lst ds)) (hb : Ev X δ b .S (.lst es')) (hg : Gl X "zip" := by rfl) (hs : starEach [a, b] X.env = (false, eval a X.env) :: starEach [b] X.env := by rfl)
    (hpl : (backTo pos (starEach [b] X.env)).any (·.1) = false := by rfl) (hs2 : starEach [b] X.env = (false, eval b X.env) :: starEach [] X.env := by rfl) : Src X δ (.Tuple elts kk tpos) (.Call (.Name "zip" p) [a, b] [] pos) (zipD ds es') := fun σ H G F o R r =>
  ⟨_, pi_zip hg hm (pa_cons pe_w (pa_cons pe_w pa_nil hs2) hs) hs hpl, ha σ H G F o _ fun v H1 G1 F1 n1 ow1 w1 => hb σ H1 G1 F (o.new n1) _ fun u H2 G2 F2 n2 ow2 w2 => by
    cases w1 with
    | S w1 =>
      cases w1 with
      | lst w1 l1 =>
        cases w2 with
        | S w2 =>
          cases w2 with
          | lst w2 l2 => exact ⟨_, _, _, _, rfl, .inl (same_rd (n1.gh.trans n2.hh) w1), .inl (same_rd n2.gh w2), r _ H2 G2 (n1.trans n2) (walk_z (.inl (same_rd n2.gg w1)) (l1.mono n2.gg) (.inl w2) l2)⟩⟩
/-! try: nothing is raised -/
theorem st_try0 {h₀ : ExceptHandler} {hs : List ExceptHandler} {body : List Stmt} (h : Sts X.nox δ body { Φ with xc := fun _ _ => False }) : St X δ (.Try body (h₀ :: hs) [] [] pos) Φ := fun σ H G F o D W tk g =>
  ⟨_, ps_try_thru0 pb_w, h σ H G F o D (fun _ _ _ _ => False) takes0 ⟨g.nx, g.bk, g.ct, g.rt, fun _ _ _ _ _ _ _ _ z => z.elim⟩⟩
end
end W3

/-! W3e: what is changed in its place; comprehensions. -/
namespace W3
open PySem PySem.Spec L2

/-! ### a slot whose object changes in its place -/
theorem EnvR.at {K : PySem.W.Frag} {G H : Hp} : ∀ {δ : Env} {σ : L2.St} {F : List Addr} {i : Nat} {s : Shape} {d : D}, EnvR K G H δ σ F → F.Nodup → δ[i]? = some (some (s, d)) → ∃ v Fi, σ[i]? = some (some v) ∧ Rep K G H s v d Fi ∧ Fi.Nodup ∧ (∀ b ∈ Fi, b ∈ F) ∧
    ∀ (G' H' : Hp) (s' : Shape) (d' : D) (Fi' : List Addr), Same G G' → (∀ b xs, H b = some (.tup xs) → H' b = some (.tup xs)) → (∀ b ∈ F, b ∉ Fi → ∀ o, H b = some o → H' b = some o) → Rep K G' H' s' v d' Fi' → Fi'.Nodup → (∀ b ∈ Fi', b ∈ Fi ∨ b ∉ F) →
      ∃ F', EnvR K G' H' (δ.set i (some (s', d'))) σ F' ∧ F'.Nodup ∧ ∀ b ∈ F', b ∈ Fi' ∨ (b ∈ F ∧ b ∉ Fi)
  | _, _, _, _, _, _, .nil, _, h => by simp at h
  | _, _, _, 0, _, _, .any _, _, h => by simp at h
  | _, _, _, i + 1, _, _, .any t, nd, h => by
    obtain ⟨v, Fi, h1, h2, h3, h4, h5⟩ := EnvR.at (i := i) t nd (by simpa using h)
    refine ⟨v, Fi, by simpa using h1, h2, h3, h4, fun G' H' s' d' Fi' a b c d e f => ?_⟩
    obtain ⟨F', x, y, z⟩ := h5 G' H' s' d' Fi' a b c d e f
    exact ⟨F', .any x, y, z⟩
  | _, _, _, 0, _, _, .val (F1 := F1) (F2 := F2) r t, nd, h => by
    simp at h
    obtain ⟨rfl, rfl⟩ := h
    obtain ⟨n1, n2, n3⟩ := List.nodup_append.mp nd
    refine ⟨_, F1, rfl, r, n1, fun b hb => List.mem_append_left _ hb, fun G' H' s' d' Fi' a b c d e f => ?_⟩
    refine ⟨Fi' ++ F2, .val d (t.stay ⟨a, fun x hx o ho => c x (List.mem_append_right _ hx) (fun q => n3 x q x hx rfl) o ho, b⟩), List.nodup_append.mpr ⟨e, n2, fun x hx y hy z => ?_⟩, fun x hx => ?_⟩
    · subst z
      rcases f x hx with q | q
      · exact n3 x q x hy rfl
      · exact q (List.mem_append_right _ hy)
    · rcases List.mem_append.mp hx with q | q
      · exact .inl q
      · exact .inr ⟨List.mem_append_right _ q, fun z => n3 x z x q rfl⟩
  | _, _, _, i + 1, _, _, .val (F1 := F1) (F2 := F2) r t, nd, h => by
    obtain ⟨n1, n2, n3⟩ := List.nodup_append.mp nd
    obtain ⟨v, Fi, h1, h2, h3, h4, h5⟩ := EnvR.at (i := i) t n2 (by simpa using h)
    refine ⟨v, Fi, by simpa using h1, h2, h3, fun b hb => List.mem_append_right _ (h4 b hb), fun G' H' s' d' Fi' a b c d e f => ?_⟩
    obtain ⟨F', x, y, z⟩ := h5 G' H' s' d' Fi' a b (fun u hu k => c u (List.mem_append_right _ hu) k) d e fun u hu => (f u hu).imp id fun k m => k (List.mem_append_right _ m)
    have out : ∀ u ∈ F1, u ∉ Fi := fun u hu k => n3 u hu u (h4 u k) rfl
    refine ⟨F1 ++ F', .val (r.stay ⟨a, fun u hu o ho => c u (List.mem_append_left _ hu) (out u hu) o ho, b⟩) x, List.nodup_append.mpr ⟨n1, y, fun u hu u' hu' q => ?_⟩, fun u hu => ?_⟩
    · subst q
      rcases z u hu' with q | q
      · rcases f u q with m | m
        · exact out u hu m
        · exact m (List.mem_append_left _ hu)
      · exact n3 u hu u q.1 rfl
    · rcases List.mem_append.mp hu with q | q
      · exact .inr ⟨List.mem_append_left _ q, out u q⟩
      · exact (z u q).imp id fun k => ⟨List.mem_append_right _ k.1, k.2⟩
theorem stay_upd {G H : Hp} {a : Addr} {o : HO} {F : List Addr} (ha : a ∉ F) (hn : ∀ xs, H a ≠ some (.tup xs)) : Stay G H G (upd H a o) F := ⟨Same.refl _, fun b hb u e => by
  rw [upd_ne (fun z => ha (by rw [← z]; exact hb))]
  exact e, fun b xs e => by
  rw [upd_ne (fun z => hn xs (by rw [← z]; exact e))]
  exact e⟩
theorem Ok.change {K : PySem.W.Frag} {G H : Hp} {F : List Addr} {δ : Env} {σ : L2.St} {i : Nat} {s : Shape} {d : D} (ok : Ok K G H F δ σ) (hd : δ[i]? = some (some (s, d))) : ∃ v Fi, σ[i]? = some (some v) ∧ Rep K G H s v d Fi ∧ Fi.Nodup ∧ (∀ b ∈ Fi, b ∈ F) ∧
    ∀ (H' : Hp) (s' : Shape) (d' : D) (Fi' : List Addr), (∀ b, b ∉ Fi → ∀ o, H b = some o → H' b = some o) → Rep K G H' s' v d' Fi' → Fi'.Nodup → (∀ b ∈ Fi', b ∈ Fi ∨ (b ∉ F ∧ G b = none)) →
      ∃ F', Ok K G H' F' (δ.set i (some (s', d'))) σ ∧ ∀ b ∈ F', b ∈ Fi' ∨ b ∈ F := by
  obtain ⟨v, Fi, h1, h2, h3, h4, h5⟩ := ok.env.at ok.nd hd
  refine ⟨v, Fi, h1, h2, h3, h4, fun H' s' d' Fi' keep r' nd' sub' => ?_⟩
  obtain ⟨F', a, b, c⟩ := h5 G H' s' d' Fi' (Same.refl _) (fun b xs e => keep b (fun z => h2.nt b z xs e) _ e) (fun b _ hn o e => keep b hn o e) r' nd' fun b hb => (sub' b hb).imp id (·.1)
  refine ⟨F', ⟨fun b o e => keep b (fun z => ?_) o (ok.gh b o e), b, fun x hx => ?_, a⟩, fun x hx => (c x hx).imp id (·.1)⟩
  · have := ok.own b (h4 b z)
    rw [e] at this
    cases this
  · rcases c x hx with q | q
    · rcases sub' x q with z | z
      · exact ok.own x (h4 x z)
      · exact z.2
    · exact ok.own x q.1
theorem keep_upd {H : Hp} {a : Addr} {o : HO} {Fi : List Addr} (ha : a ∈ Fi) : ∀ b, b ∉ Fi → ∀ u, H b = some u → upd H a o b = some u := fun b hb u e => by
  rw [upd_ne (fun z => hb (by rw [z]; exact ha))]
  exact e
theorem al_upd {H : Hp} {a : Addr} {o : HO} : ∀ b u, H b = some u → ∃ w, upd H a o b = some w := fun b u e => by
  by_cases h : b = a
  · subst h
    exact ⟨_, upd_same⟩
  · exact ⟨u, by rw [upd_ne h]; exact e⟩
/-- behind an expression, then a change of the cell a of F -/
theorem tr_change {G H G1 H1 : Hp} {F F' Fv : List Addr} {a : Addr} {o : HO} (n : New G H G1 H1) (ha : a ∈ F) (hv : ∀ b ∈ Fv, H b = none) (hF : ∀ b ∈ F', b ∈ Fv ∨ b ∈ F) : Tr G H F G1 (upd H1 a o) F' :=
  ⟨n.gg, fun b u e hb => by
    rw [upd_ne (fun z => hb (by rw [z]; exact ha))]
    exact n.hh b u e, fun b hb => (hF b hb).elim (fun z => .inr (hv b z)) .inl, fun b h k => .inr (n.nw b h k), fun b u e => al_upd b u (n.hh b u e)⟩

theorem Rep.invL {K : PySem.W.Frag} {G H : Hp} {s : Shape} {v : V} {ds : List D} {F : List Addr} (h : Rep K G H (.L s) v (.lst ds) F) : ∃ a vs Fe, v = .ref a ∧ H a = some (.lst vs) ∧ RepL K G H s vs ds Fe ∧ F = a :: Fe := by
  cases h with
  | L h l => exact ⟨_, _, _, rfl, h, l, rfl⟩
theorem Rep.invMT {K : PySem.W.Frag} {G H : Hp} {s : Shape} {v : V} {kds : List (List Key × D)} {F : List Addr} (h : Rep K G H (.MT s) v (.dT kds) F) : ∃ a kvs Fe, v = .ref a ∧ H a = some (.dT kvs) ∧ kvs.map (·.1) = kds.map (·.1) ∧ RepL K G H s (kvs.map (·.2)) (kds.map (·.2)) Fe ∧ F = a :: Fe := by
  cases h with
  | MT h k l => exact ⟨_, _, _, rfl, h, k, l, rfl⟩
theorem Rep.invMK {K : PySem.W.Frag} {G H : Hp} {s : Shape} {v : V} {kds : List (Key × D)} {F : List Addr} (h : Rep K G H (.MK s) v (.dK kds) F) : ∃ a kvs Fe, v = .ref a ∧ H a = some (.dK kvs) ∧ kvs.map (·.1) = kds.map (·.1) ∧ RepL K G H s (kvs.map (·.2)) (kds.map (·.2)) Fe ∧ F = a :: Fe := by
  cases h with
  | MK h k l => exact ⟨_, _, _, rfl, h, k, l, rfl⟩
theorem Rep.invS {K : PySem.W.Frag} {G H : Hp} {v : V} {d : D} {F : List Addr} (h : Rep K G H .S v d F) : Vw K G v d ∧ F = [] := by
  cases h with
  | S h => exact ⟨h, rfl⟩
/-- what is owned as s stands where all else of F stands: the cells that are not its own are no cells of an expression behind -/
theorem fresh_out {K : PySem.W.Frag} {G H G' : Hp} {F Fv : List Addr} {δ : Env} {σ : L2.St} (o : Ok K G H F δ σ) (ow : Own H G' Fv) : ∀ b ∈ Fv, b ∉ F := fun b hb hF => by
  obtain ⟨⟨u, hu⟩, _⟩ := o.env.there b hF
  have := ow.fr b hb
  rw [hu] at this
  cases this

section
variable {X : Cx} {δ δ' : Env} {e a b c : Expr} {es rest : List Expr} {s : Shape} {d da db : D} {ds es' : List D} {pos p : Pos} {n : Str} {k : Nat} {i j : Int} {Φ : Post}
/-- xs.append(e) -/
theorem st_app (m : Nat) {p1 p2 : Pos} (h : Ev X δ e s d) (hd : δ[m]? = some (some (.L s, .lst ds))) (q : Φ.nx (δ.set m (some (.L s, .lst (ds ++ [d]))))) (hz : ds.length ≤ 1000000) (hN : X.N[m]? = some n := by rfl) (hv : Vis X.env.scope n := by first | exact Or.inl rfl | exact Or.inr (Or.inl rfl) | exact Or.inr (Or.inr rfl))
    (h1 : (n == ("__debug__" : Str)) = false := by decide) (h2 : (n == ("__classdict__" : Str)) = false := by decide) (hs2 : starEach [e] X.env = (false, eval e X.env) :: starEach [] X.env := by rfl)
    (hbase : attributeBase (.Name n p1) "append" X.env (eval (.Name n p1) X.env) = eval (.Name n p1) X.env := by rfl)
    (hfew : ((backTo pos (starEach [e] X.env)).all (fun x => !x.1) && (backToKw pos (keywordEach [] X.env)).all (fun x => x.1.isSome) && decide (([e] : List Expr).length + ([] : List Keyword).length + (if ([] : List Keyword).isEmpty then 0 else 1) < 30)) = true := by rfl)
    (hline : (p2.endLine == pos.line) = true := by rfl) (hplain : (backTo pos (starEach [] X.env)).any (·.1) = false := by rfl) (hsw : swapsWith (.Call (.Attribute (.Name n p1) "append" p2) [e] [] pos) none p.line X.env = pure false := by rfl) :
    St X δ (.Expr (.Call (.Attribute (.Name n p1) "append" p2) [e] [] pos) p) Φ := fun σ H G F o D W tk g => by
  obtain ⟨v, Fi, e1, r, nd, sub, _⟩ := o.change hd
  obtain ⟨ad, vs0, Fe0, rfl, hr, rl, rfl⟩ := r.invL
  refine ⟨_, ps_expr (pe_bm PySem.F.plainAttrs_list PySem.F.slot_list_append PySem.F.type_list_append mt_append (pe_var hN hv h1 h2) (pa_cons pe_w pa_nil hs2) hbase hfew hline hs2 hplain) hsw, _, e1, .inl ⟨rfl, _, .inl (.inl hr)⟩, h σ H G F o _ fun y H1 G1 Fv n1 ow ry => ?_⟩
  obtain ⟨v', Fi', e1', r', nd', sub', ch⟩ := (o.new n1).change hd
  rw [e1] at e1'
  cases e1'
  obtain ⟨ad', vs, Fe, ea, hr', rl', rfl⟩ := r'.invL
  cases ea
  have hlen := rl'.vw n1.gh |>.length
  refine ⟨_, _, _, rfl, rfl, hr', by rw [hlen]; exact Nat.lt_of_le_of_lt hz (by decide), ?_⟩
  have nta : ∀ xs, H1 ad ≠ some (.tup xs) := fun xs z => by rw [hr'] at z; cases z
  obtain ⟨ma, nd2⟩ := List.nodup_cons.mp nd'
  have hin : ad ∈ F := sub' ad (List.mem_cons_self ..)
  have fresh := fresh_out o ow
  obtain ⟨F2, ok2, sub2⟩ := ch (upd H1 ad (.lst (vs ++ [y]))) (.L s) (.lst (ds ++ [d])) (ad :: (Fe ++ Fv)) (keep_upd (List.mem_cons_self ..))
    (.L upd_same (RepL.snoc (ry.stay (stay_upd (fun z => fresh ad z hin) nta)) (rl'.stay (stay_upd ma nta)))) (by
      refine List.nodup_cons.mpr ⟨fun z => ?_, List.nodup_append.mpr ⟨nd2, ow.nd, fun x hx y hy z => ?_⟩⟩
      · rcases List.mem_append.mp z with z | z
        · exact ma z
        · exact fresh ad z hin
      · subst z
        exact fresh x hy (sub' x (List.mem_cons_of_mem _ hx))) (fun b hb => by
      rcases List.mem_cons.mp hb with z | z
      · exact .inl (by rw [z]; exact List.mem_cons_self ..)
      · rcases List.mem_append.mp z with z | z
        · exact .inl (List.mem_cons_of_mem _ z)
        · exact .inr ⟨fresh b z, ow.un b z⟩)
  refine g.nx _ σ G1 _ F2 q (tr_change (Fv := Fv) n1 hin ow.fr fun b hb => ?_) ok2
  rcases sub2 b hb with z | z
  · rcases List.mem_cons.mp z with z | z
    · exact .inr (by rw [z]; exact hin)
    · rcases List.mem_append.mp z with z | z
      · exact .inr (sub' b (List.mem_cons_of_mem _ z))
      · exact .inl z
  · exact .inr z
/-- xs.extend(ys), ys a list -/
def rExtendR : V → List V → Hp → VK → Prop := fun x vs H Q => ∃ l b xs zs, x = .ref l ∧ vs = [.ref b] ∧ H l = some (.lst xs) ∧ Rd H b (.lst zs) ∧ xs.length + zs.length ≤ sizeLine ∧ Q .non (upd H l (.lst (xs ++ zs)))
theorem mt_extendR : MtR X "list.extend" rExtendR := by
  intro pins s σ H x vs v us Q I rx rv h
  obtain ⟨l, b, xs, zs, rfl, rfl, hH, hB, hz, q⟩ := h
  cases rx
  obtain ⟨u, rfl, ru⟩ := rv.one
  cases ru
  obtain ⟨z, its, n, r, hl, e⟩ := I.lstM hH
  obtain ⟨z2, its2, n2, r2, e2⟩ := (show ObjOk X.prog X.w H s.heap b (.lst zs) from hB.ok I.hok)
  have hl2 := r2.length
  have hsz : its.toArray.size + its2.toArray.size ≤ sizeLine := by rw [List.size_toArray, List.size_toArray]; omega
  have hlong : ¬ (!its.toArray.isEmpty && Builtin.List.listTooLong (its.toArray.size + its2.toArray.size)) = true := by
    rw [notLongL hsz, Bool.and_false]
    exact Bool.false_ne_true
  refine call_meets PySem.F.slot_list_extend ⟨_, e, rfl⟩ PySem.F.entry_list_extend (PySem.F.args_list_extend_2 _ _)
    (AutoSeq1.list_extend_list_list_0 l its.toArray n b its2.toArray n2 hlong (by rw [List.size_toArray]; omega) (by omega)) ⟨e, e2, ?_⟩
  refine ⟨.non, _, I.lset (its' := its ++ its2) hH e (by simp) (r.append r2) ?_, rfl, q⟩
  rw [List.length_append]
  omega
theorem st_ext (m : Nat) {p1 p2 : Pos} (h : Ev X δ e .S (.lst es')) (hd : δ[m]? = some (some (.L .S, .lst ds))) (q : Φ.nx (δ.set m (some (.L .S, .lst (ds ++ es'))))) (hz : ds.length + es'.length ≤ 1000000) (hN : X.N[m]? = some n := by rfl) (hv : Vis X.env.scope n := by first | exact Or.inl rfl | exact Or.inr (Or.inl rfl) | exact Or.inr (Or.inr rfl))
    (h1 : (n == ("__debug__" : Str)) = false := by decide) (h2 : (n == ("__classdict__" : Str)) = false := by decide) (hs2 : starEach [e] X.env = (false, eval e X.env) :: starEach [] X.env := by rfl)
    (hbase : attributeBase (.Name n p1) "extend" X.env (eval (.Name n p1) X.env) = eval (.Name n p1) X.env := by rfl)
    (hfew : ((backTo pos (starEach [e] X.env)).all (fun x => !x.1) && (backToKw pos (keywordEach [] X.env)).all (fun x => x.1.isSome) && decide (([e] : List Expr).length + ([] : List Keyword).length + (if ([] : List Keyword).isEmpty then 0 else 1) < 30)) = true := by rfl)
    (hline : (p2.endLine == pos.line) = true := by rfl) (hplain : (backTo pos (starEach [] X.env)).any (·.1) = false := by rfl) (hsw : swapsWith (.Call (.Attribute (.Name n p1) "extend" p2) [e] [] pos) none p.line X.env = pure false := by rfl) :
    St X δ (.Expr (.Call (.Attribute (.Name n p1) "extend" p2) [e] [] pos) p) Φ := fun σ H G F o D W tk g => by
  obtain ⟨v, Fi, e1, r, nd, sub, _⟩ := o.change hd
  obtain ⟨ad, vs0, Fe0, rfl, hr, rl, rfl⟩ := r.invL
  refine ⟨_, ps_expr (pe_bm PySem.F.plainAttrs_list PySem.F.slot_list_extend PySem.F.type_list_extend mt_extendR (pe_var hN hv h1 h2) (pa_cons pe_w pa_nil hs2) hbase hfew hline hs2 hplain) hsw, _, e1, .inl ⟨rfl, _, .inl (.inl hr)⟩, h σ H G F o _ fun y H1 G1 Fv n1 ow ry => ?_⟩
  obtain ⟨v', Fi', e1', r', nd', sub', ch⟩ := (o.new n1).change hd
  rw [e1] at e1'
  cases e1'
  obtain ⟨ad', vs, Fe, ea, hr', rl', rfl⟩ := r'.invL
  cases ea
  obtain ⟨l', rfl⟩ := rl'.toS
  obtain ⟨wy, rfl⟩ := ry.invS
  cases wy with
  | lst hy ly =>
    refine ⟨_, _, _, _, rfl, rfl, hr', same_rd n1.gh hy, by rw [l'.length, ly.length]; exact Nat.le_trans hz (by decide), ?_⟩
    have hin : ad ∈ F := sub' ad (List.mem_cons_self ..)
    obtain ⟨F2, ok2, sub2⟩ := ch _ (.L .S) (.lst (ds ++ es')) [ad] (keep_upd (List.mem_cons_self ..)) (.L upd_same (RepL.ofS (l'.app ly))) (by simp) (fun b hb => .inl hb)
    refine g.nx _ σ G1 _ F2 q (tr_change (Fv := []) n1 hin (fun _ z => by simp at z) fun b hb => ?_) ok2
    rcases sub2 b hb with z | z
    · exact .inr (sub' b z)
    · exact .inr z
/-- xs[i] = e -/
theorem VwL.set {K : PySem.W.Frag} {H : Hp} {y : V} (w : Vw K H y d) : ∀ {vs : List V} {ds : List D} (j : Nat), VwL K H vs ds → VwL K H (vs.set j y) (ds.set j d)
  | _, _, _, .nil => .nil
  | _, _, 0, .cons _ t => .cons w t
  | _, _, j + 1, .cons h t => .cons h (VwL.set w j t)
theorem st_setL (m : Nat) {p1 p2 : Pos} {l : Nat} (h : Ev X δ e .S d) (hi : Er X δ a (.int i)) (hd : δ[m]? = some (some (.L .S, .lst ds))) (hl : ixN ds.length i = some l) (q : Φ.nx (δ.set m (some (.L .S, .lst (ds.set l d))))) (hg : PG X (.Subscript (.Name n p1) a p2) (gSub (tVar m) (wE X a) rSetL))
    (hs : swapsWithSole [.Subscript (.Name n p1) a p2] e pos.line X.env = pure false := by rfl) (hw : swappedStores [.Subscript (.Name n p1) a p2] e X.env = pure none := by rfl)
    (hq : (assignEach [.Subscript (.Name n p1) a p2] X.env).map (·.2) = [assign (.Subscript (.Name n p1) a p2) X.env] := by rfl) : St X δ (.Assign [.Subscript (.Name n p1) a p2] e pos) Φ := fun σ H G F o D W tk g => by
  obtain ⟨v, Fi, e1, r, nd, sub, _⟩ := o.change hd
  obtain ⟨ad, vs0, Fe0, rfl, hr, rl, rfl⟩ := r.invL
  refine ⟨_, ps_asg pe_w hg hs hw hq, h σ H G F o _ fun y H1 G1 Fv n1 ow ry => ⟨_, e1, hi σ H1 G1 F (o.new n1) _ fun z H2 G2 n2 wz => ?_⟩⟩
  obtain ⟨wy, rfl⟩ := ry.invS
  obtain ⟨v', Fi', e1', r', nd', sub', ch⟩ := ((o.new n1).new n2).change hd
  rw [e1] at e1'
  cases e1'
  obtain ⟨ad', vs, Fe, ea, hr', rl', rfl⟩ := r'.invL
  cases ea
  obtain ⟨l', rfl⟩ := rl'.toS
  refine ⟨_, _, i, l, rfl, wz.sc rfl, hr', by rw [l'.length]; exact hl, ?_⟩
  have hin : ad ∈ F := sub' ad (List.mem_cons_self ..)
  obtain ⟨F2, ok2, sub2⟩ := ch _ (.L .S) (.lst (ds.set l d)) [ad] (keep_upd (List.mem_cons_self ..)) (.L upd_same (RepL.ofS (VwL.set (wy.mono n2.gg) l l'))) (by simp) (fun b hb => .inl hb)
  refine g.nx _ σ G2 _ F2 q (tr_change (Fv := []) (n1.trans n2) hin (fun _ z => by simp at z) fun b hb => ?_) ok2
  rcases sub2 b hb with z | z
  · exact .inr (sub' b z)
  · exact .inr z

/-! ### dicts -/
def getD {κ : Type} [DecidableEq κ] (kds : List (κ × D)) (k : κ) : Option D := (kds.find? fun kd => decide (kd.1 = k)).map (·.2)
def putD {κ : Type} [DecidableEq κ] (kds : List (κ × D)) (k : κ) (d : D) : List (κ × D) :=
  if (kds.any fun kd => decide (kd.1 = k)) = true then kds.map (fun kd => if kd.1 = k then (kd.1, d) else kd) else kds ++ [(k, d)]
def dropD {κ : Type} [DecidableEq κ] (kds : List (κ × D)) (k : κ) : List (κ × D) := kds.filter fun kd => decide (kd.1 ≠ k)
section
variable {κ : Type} [DecidableEq κ] {K : PySem.W.Frag} {H : Hp}
/-- entries side by side -/
inductive KVw (K : PySem.W.Frag) (H : Hp) : List (κ × V) → List (κ × D) → Prop
  | nil : KVw K H [] []
  | cons {k : κ} {v : V} {d : D} {kvs : List (κ × V)} {kds : List (κ × D)} : Vw K H v d → KVw K H kvs kds → KVw K H ((k, v) :: kvs) ((k, d) :: kds)
theorem KVw.of : ∀ {kvs : List (κ × V)} {kds : List (κ × D)}, kvs.map (·.1) = kds.map (·.1) → VwL K H (kvs.map (·.2)) (kds.map (·.2)) → KVw K H kvs kds
  | [], [], _, _ => .nil
  | [], _ :: _, h, _ => by simp at h
  | _ :: _, [], h, _ => by simp at h
  | (k, v) :: kvs, (k', d) :: kds, h, l => by
    simp at h
    obtain ⟨rfl, h⟩ := h
    cases l with
    | cons l1 l2 => exact .cons l1 (KVw.of h l2)
theorem KVw.keys : ∀ {kvs : List (κ × V)} {kds : List (κ × D)}, KVw K H kvs kds → kvs.map (·.1) = kds.map (·.1)
  | _, _, .nil => rfl
  | _, _, .cons _ t => by
    rw [List.map_cons, List.map_cons, KVw.keys t]
theorem KVw.vals : ∀ {kvs : List (κ × V)} {kds : List (κ × D)}, KVw K H kvs kds → VwL K H (kvs.map (·.2)) (kds.map (·.2))
  | _, _, .nil => .nil
  | _, _, .cons h t => .cons h (KVw.vals t)
theorem KVw.mono {H' : Hp} (e : Same H H') : ∀ {kvs : List (κ × V)} {kds : List (κ × D)}, KVw K H kvs kds → KVw K H' kvs kds
  | _, _, .nil => .nil
  | _, _, .cons h t => .cons (h.mono e) (KVw.mono e t)
theorem KVw.length {kvs : List (κ × V)} {kds : List (κ × D)} (h : KVw K H kvs kds) : kvs.length = kds.length := by
  have := congrArg List.length h.keys
  simpa using this
theorem KVw.get {k : κ} : ∀ {kvs : List (κ × V)} {kds : List (κ × D)}, KVw K H kvs kds → (valV kvs k = none ∧ getD kds k = none) ∨ ∃ v d, valV kvs k = some v ∧ getD kds k = some d ∧ Vw K H v d
  | _, _, .nil => .inl ⟨rfl, rfl⟩
  | _, _, .cons (k := k') h t => by
    unfold valV getD
    rw [List.find?_cons, List.find?_cons]
    by_cases e : k' = k
    · simp only [e, decide_true]
      exact .inr ⟨_, _, rfl, rfl, h⟩
    · simp only [e, decide_false]
      exact KVw.get t
theorem KVw.app {kvs ws : List (κ × V)} {kds es : List (κ × D)} (h : KVw K H kvs kds) (t : KVw K H ws es) : KVw K H (kvs ++ ws) (kds ++ es) := by
  induction h with
  | nil => exact t
  | cons h _ ih => exact .cons h ih
theorem KVw.map {k : κ} {y : V} {d : D} (w : Vw K H y d) : ∀ {kvs : List (κ × V)} {kds : List (κ × D)}, KVw K H kvs kds → KVw K H (kvs.map fun kv => if kv.1 = k then (kv.1, y) else kv) (kds.map fun kd => if kd.1 = k then (kd.1, d) else kd)
  | _, _, .nil => .nil
  | _, _, .cons (k := k') h t => by
    rw [List.map_cons, List.map_cons]
    by_cases e : k' = k
    · rw [if_pos e, if_pos e]
      exact .cons w (KVw.map w t)
    · rw [if_neg e, if_neg e]
      exact .cons h (KVw.map w t)
theorem KVw.any {k : κ} : ∀ {kvs : List (κ × V)} {kds : List (κ × D)}, KVw K H kvs kds → (kvs.any fun kv => decide (kv.1 = k)) = (kds.any fun kd => decide (kd.1 = k))
  | _, _, .nil => rfl
  | _, _, .cons h t => by
    rw [List.any_cons, List.any_cons, KVw.any t]
theorem KVw.put {k : κ} {y : V} {d : D} (w : Vw K H y d) {kvs : List (κ × V)} {kds : List (κ × D)} (h : KVw K H kvs kds) : KVw K H (putK kvs k y) (putD kds k d) := by
  unfold putK putD
  rw [h.any (k := k)]
  split
  · exact h.map w
  · exact h.app (.cons w .nil)
theorem KVw.drop {k : κ} : ∀ {kvs : List (κ × V)} {kds : List (κ × D)}, KVw K H kvs kds → KVw K H (dropK kvs k) (dropD kds k)
  | _, _, .nil => .nil
  | _, _, .cons (k := k') h t => by
    unfold dropK dropD
    rw [List.filter_cons, List.filter_cons]
    by_cases e : k' = k
    · rw [if_neg (by simp [e]), if_neg (by simp [e])]
      exact KVw.drop t
    · rw [if_pos (by simp [e]), if_pos (by simp [e])]
      exact .cons h (KVw.drop t)
end
def kD : Key → D
  | .inl i => .int i
  | .inr x => .str x
theorem kD_sc (k : Key) : sc (kD k) = some (kV k) := by
  cases k <;> rfl
theorem vwL_keys {K : PySem.W.Frag} {H : Hp} : ∀ {ks : List Key} {vs : List V}, VwL K H vs (ks.map kD) → vs = ks.map kV
  | [], _, h => by
    cases h
    rfl
  | k :: ks, _, h => by
    rw [List.map_cons] at h
    cases h with
    | cons h1 h2 => rw [List.map_cons, h1.sc (kD_sc k), vwL_keys h2]
theorem vw_key {K : PySem.W.Frag} {H : Hp} {ks : List Key} {v : V} (h : Vw K H v (.tup (ks.map kD))) : ∃ b, v = .ref b ∧ H b = some (.tup (ks.map kV)) := by
  cases h with
  | tup h l =>
    rw [vwL_keys l] at h
    exact ⟨_, rfl, h⟩
theorem ev_dnewT : Ev X δ (.Dict [] [] pos) (.MT .S) (.dT []) := fun σ H G F o Q q => ⟨_, pe_dnewT, fun p hp =>
  q _ _ G [p] ⟨same_new hp, Same.refl _, fun b u z => same_new hp b u (o.gh b u z), fun b y z => absurd y z⟩ ⟨by simp, fun b hb => by rw [List.mem_singleton] at hb; rw [hb]; exact hp, fun b hb => by rw [List.mem_singleton] at hb; rw [hb]; exact o.gh.free hp⟩ (.MT (kvs := []) upd_same rfl .nil)⟩
theorem ev_dnewK : Ev X δ (.Dict [] [] pos) (.MK .S) (.dK []) := fun σ H G F o Q q => ⟨_, pe_dnewK, fun p hp =>
  q _ _ G [p] ⟨same_new hp, Same.refl _, fun b u z => same_new hp b u (o.gh b u z), fun b y z => absurd y z⟩ ⟨by simp, fun b hb => by rw [List.mem_singleton] at hb; rw [hb]; exact hp, fun b hb => by rw [List.mem_singleton] at hb; rw [hb]; exact o.gh.free hp⟩ (.MK (kvs := []) upd_same rfl .nil)⟩
/-- d[k] = e, k a tuple -/
theorem st_dputT (m : Nat) {p1 p2 : Pos} {kds : List (List Key × D)} (ks : List Key) (hr : Rm k X.A) (h : Ev X δ e .S d) (hi : Ev X δ a .S (.tup (ks.map kD))) (hd : δ[m]? = some (some (.MT .S, .dT kds))) (q : Φ.nx (δ.set m (some (.MT .S, .dT (putD kds ks d))))) (hz : kds.length ≤ 1000000)
    (hn : PE X (.Name n p1) (tVar m)) (hs : swapsWith e (some (.Subscript (.Name n p1) a p2)) pos.line X.env = pure false := by rfl) : St X δ (.Assign [.Subscript (.Name n p1) a p2] e pos) Φ := fun σ H G F o D W tk g => by
  obtain ⟨v, Fi, e1, r, nd, sub, _⟩ := o.change hd
  obtain ⟨ad, kvs0, Fe0, rfl, hr0, kk0, rl, rfl⟩ := r.invMT
  refine ⟨_, ps_dput (hu_of hr.rm) hn pe_w pe_w hs, h σ H G F o _ fun y H1 G1 Fv n1 ow ry => ⟨_, e1, hi σ H1 G1 F (o.new n1) _ fun z H2 G2 Fz n2 owz wz => ?_⟩⟩
  obtain ⟨wy, rfl⟩ := ry.invS
  obtain ⟨wk, rfl⟩ := wz.invS
  obtain ⟨v', Fi', e1', r', nd', sub', ch⟩ := ((o.new n1).new n2).change hd
  rw [e1] at e1'
  cases e1'
  obtain ⟨ad', kvs, Fe, ea, hr', kk, rl', rfl⟩ := r'.invMT
  cases ea
  obtain ⟨l', rfl⟩ := rl'.toS
  obtain ⟨kb, rfl, hkb⟩ := vw_key wk
  have kw := KVw.of kk l'
  have kw2 := kw.put (k := ks) (wy.mono n2.gg)
  refine ⟨ad, _, rfl, DPut.t hr' (n2.gh _ _ hkb) (by rw [kw.length]; exact Nat.lt_of_le_of_lt hz (by decide)), ?_⟩
  have hin : ad ∈ F := sub' ad (List.mem_cons_self ..)
  obtain ⟨F2, ok2, sub2⟩ := ch _ (.MT .S) (.dT (putD kds ks d)) [ad] (keep_upd (List.mem_cons_self ..)) (.MT upd_same kw2.keys (RepL.ofS kw2.vals)) (by simp) (fun b hb => .inl hb)
  refine g.nx _ σ G2 _ F2 q (tr_change (Fv := []) (n1.trans n2) hin (fun _ z => by simp at z) fun b hb => ?_) ok2
  rcases sub2 b hb with z | z
  · exact .inr (sub' b z)
  · exact .inr z

/-! ### expressions that change a slot's object -/
def Evm (X : Cx) (δ : Env) (e : Expr) (s : Shape) (d : D) (δ' : Env) : Prop := ∀ σ H G F, Ok X.K G H F δ σ → ∀ Q : VK,
  (∀ v H' G' F' Fv, Tr G H F G' H' (F' ++ Fv) → Ok X.K G' H' F' δ' σ → (F' ++ Fv).Nodup → (∀ b ∈ Fv, G' b = none) → Rep X.K G' H' s v d Fv → Q v H') → wE X e σ H Q
theorem Ev.evm (h : Ev X δ e s d) : Evm X δ e s d δ := fun σ H G F o Q q => h σ H G F o _ fun v H' G' Fv n ow r =>
  q v H' G' F Fv ⟨n.gg, fun b u e _ => n.hh b u e, fun b hb => (List.mem_append.mp hb).imp id (ow.fr b), fun b h k => .inr (n.nw b h k), fun b u e => ⟨u, n.hh b u e⟩⟩ (o.new n)
    (List.nodup_append.mpr ⟨o.nd, ow.nd, fun x hx y hy z => fresh_out o ow y hy (z ▸ hx)⟩) ow.un r
/-- xs.pop(i) -/
theorem VwL.erase {K : PySem.W.Frag} {H : Hp} : ∀ {vs : List V} {ds : List D} (j : Nat), VwL K H vs ds → VwL K H (vs.eraseIdx j) (ds.eraseIdx j)
  | _, _, _, .nil => .nil
  | _, _, 0, .cons _ t => t
  | _, _, j + 1, .cons h t => .cons h (VwL.erase j t)
theorem seqIx {i : Int} {n : Nat} (h0 : 0 ≤ i) (hl : i < n) : seqIndex? i n = some i.toNat := by
  unfold seqIndex?
  have e : (if i < 0 then i + (n : Int) else i) = i := if_neg (by omega)
  simp only [e]
  rw [if_pos (by simp [h0, hl])]
theorem evm_popAt (m : Nat) {p1 p2 : Pos} (hi : Er X δ a (.int i)) (hd : δ[m]? = some (some (.L .S, .lst ds))) (h0 : 0 ≤ i) (hl : i < ds.length) (h63 : i < 2 ^ 63) (hx : ds[i.toNat]? = some d)
    (hp : PE X (.Call (.Attribute (.Name n p1) "pop" p2) [a] [] pos) (tBM X.K "list" rPopAt (tVar m) (tCons (wE X a) tNil))) : Evm X δ (.Call (.Attribute (.Name n p1) "pop" p2) [a] [] pos) .S d (δ.set m (some (.L .S, .lst (ds.eraseIdx i.toNat)))) := fun σ H G F o Q q => by
  obtain ⟨v, Fi, e1, r, nd, sub, _⟩ := o.change hd
  obtain ⟨ad, vs0, Fe0, rfl, hr, rl, rfl⟩ := r.invL
  refine ⟨_, hp, _, e1, .inl ⟨rfl, _, .inl (.inl hr)⟩, hi σ H G F o _ fun z H2 G2 n2 wz => ?_⟩
  obtain ⟨v', Fi', e1', r', nd', sub', ch⟩ := (o.new n2).change hd
  rw [e1] at e1'
  cases e1'
  obtain ⟨ad', vs, Fe, ea, hr', rl', rfl⟩ := r'.invL
  cases ea
  obtain ⟨l', rfl⟩ := rl'.toS
  obtain ⟨y, hy, wy⟩ := l'.got hx
  have hin : ad ∈ F := sub' ad (List.mem_cons_self ..)
  refine ⟨ad, vs, i, i.toNat, y, rfl, by rw [wz.sc rfl], hr', by omega, h63, ?_, hy, ?_⟩
  · rw [l'.length]
    exact seqIx h0 hl
  obtain ⟨F2, ok2, sub2⟩ := ch _ (.L .S) (.lst (ds.eraseIdx i.toNat)) [ad] (keep_upd (List.mem_cons_self ..)) (.L upd_same (RepL.ofS (VwL.erase i.toNat l'))) (by simp) (fun b hb => .inl hb)
  refine q y _ G2 F2 [] ?_ ok2 (by rw [List.append_nil]; exact ok2.nd) (fun _ z => by simp at z) (.S wy)
  rw [List.append_nil]
  refine tr_change (Fv := []) n2 hin (fun _ z => by simp at z) fun b hb => ?_
  rcases sub2 b hb with z | z
  · exact .inr (sub' b z)
  · exact .inr z
theorem st_setM (m : Nat) {pos' : Pos} (hN : X.N.Nodup) (h : Evm X δ e s d δ') (q : Φ.nx (δ'.set m (some (s, d)))) (hi : X.N[m]? = some n := by rfl) (hl : Nat.blt m δ'.length = true := by rfl) (hx : Loc X.env.scope n := by first | exact Or.inl rfl | exact Or.inr rfl)
    (hs : swapsWith e (some (.Name n pos')) pos.line X.env = pure false := by rfl) (hf : X.fn n = true ∨ X.env.scope.names.lookup n = some .local := by first | exact .inl rfl | exact .inr rfl | assumption) : St X δ (.Assign [.Name n pos'] e pos) Φ := fun σ H G F o D W tk g =>
  ⟨_, ps_set hN hi hx pe_w hs hf, h σ H G F o _ fun v H1 G1 F1 Fv tr o1 nd un r => by
    obtain ⟨F', a, b, c⟩ := o1.env.set r m (Nat.blt_eq.mp hl)
    obtain ⟨n1, n2, n3⟩ := List.nodup_append.mp nd
    refine g.nx _ _ G1 H1 F' q (tr.sub fun x hx => ?_) ⟨o1.gh, b n1 n2 fun x hx hF => n3 x hF x hx rfl, fun x hx => (c x hx).elim (o1.own x) (un x), a⟩
    exact List.mem_append.mpr (c x hx)⟩
theorem st_retM (h : Evm X δ e s d δ') (q : Φ.rt s d) : St X δ (.Return (some e) pos) Φ := fun σ H G F o D W tk g =>
  ⟨_, ps_ret pe_w, h σ H G F o _ fun v H1 G1 F1 Fv tr o1 nd un r => g.rt s d v G1 H1 Fv q (tr.sub fun b hb => List.mem_append_right _ hb) o1.gh (List.nodup_append.mp nd).2.1 un r⟩
theorem st_exprM (h : Evm X δ e s d δ') (q : Φ.nx δ') (hs : swapsWith e none pos.line X.env = pure false := by rfl) : St X δ (.Expr e pos) Φ := fun σ H G F o D W tk g =>
  ⟨_, ps_expr pe_w hs, h σ H G F o _ fun v H1 G1 F1 Fv tr o1 nd un r => g.nx δ' σ G1 H1 F1 q (tr.sub fun b hb => List.mem_append_left _ hb) o1⟩
end
end W3

/-! W3f: comprehensions. -/
namespace W3
open PySem PySem.Spec L2
section
variable {X : Cx}
def wTs (X : Cx) (ifs : List Expr) : TT := fun σ H Q => ∃ t, PTs X ifs t ∧ t σ H Q
theorem pts_w {ifs : List Expr} : PTs X ifs (wTs X ifs) := ⟨fun pins s σ H Q I ⟨_, h, q⟩ => h.run pins s σ H Q I q⟩
def EtL (X : Cx) (δ : Env) (ifs : List Expr) (b : Bool) : Prop := ∀ σ H G F, Ok X.K G H F δ σ → ∀ Q : Bool → Hp → Prop, (∀ H' G', New G H G' H' → Q b H') → wTs X ifs σ H Q
theorem etl_nil {δ : Env} : EtL X δ [] true := fun σ H G F o Q q => ⟨_, pts_nil, q H G (.refl o.gh)⟩
theorem etl_one {δ : Env} {c : Expr} {b : Bool} (h : Et X δ c b) : EtL X δ [c] b := fun σ H G F o Q q => by
  obtain ⟨t, p, r⟩ := h σ H G F o Q q
  exact ⟨t, pts_one p, r⟩
end
/-- a block's contexts -/
def Blk (X : Cx) (scope : Scope) (X' : Cx) : Prop := ∃ (s : Shared) (H : Hp) (C : Addr) (cl : List (Str × Addr)) (fp : List Addr), X' = X.blk s H scope (compEnvC scope cl C X.env) fp
theorem EnvR.other {K : PySem.W.Frag} {G H : Hp} : ∀ {δ : Env} {σ σ' : L2.St} {F : List Addr}, EnvR K G H δ σ F → σ'.length = σ.length → (∀ (i : Nat) x, δ[i]? = some (some x) → σ'[i]? = σ[i]?) → EnvR K G H δ σ' F
  | _, _, σ', _, .nil, hl, _ => by
    rw [List.length_nil, List.length_eq_zero_iff] at hl
    subst hl
    exact .nil
  | _, _, [], _, .any _, hl, _ => by simp at hl
  | _, _, _ :: _, _, .any t, hl, h => .any (EnvR.other t (by simpa using hl) fun i x e => by simpa using h (i + 1) x (by simpa using e))
  | _, _, [], _, .val _ _, hl, _ => by simp at hl
  | _, _, y :: _, _, .val r t, hl, h => by
    have e := h 0 _ rfl
    simp at e
    subst e
    exact .val r (EnvR.other t (by simpa using hl) fun i x e => by simpa using h (i + 1) x (by simpa using e))
def Free (δ : Env) (vs : List Nat) : Prop := ∀ j ∈ vs, ∀ x, δ[j]? ≠ some (some x)
theorem wipe_out' {σ σ2 : L2.St} {vs : List Nat} (h : wipe σ2 vs = wipe σ vs) {i : Nat} (hi : i ∉ vs) : σ2[i]? = σ[i]? := by
  have := congrArg (fun l : L2.St => l[i]?) h
  simp only [wipe_at, if_neg hi] at this
  exact this
theorem wipe_wipe (σ : L2.St) (vs : List Nat) : wipe (wipe σ vs) vs = wipe σ vs := by
  apply List.ext_getElem?
  intro k
  simp only [wipe_at, wipe_length]
  by_cases m : k ∈ vs
  · simp [m]
  · simp [m]
theorem wipe_len {σ σ2 : L2.St} {vs : List Nat} (h : wipe σ2 vs = wipe σ vs) : σ2.length = σ.length := by
  have := congrArg List.length h
  rw [wipe_length, wipe_length] at this
  exact this
theorem Ok.wiped {K : PySem.W.Frag} {G H : Hp} {F : List Addr} {δ : Env} {σ : L2.St} {vs : List Nat} (o : Ok K G H F δ σ) (hf : Free δ vs) : Ok K G H F δ (wipe σ vs) :=
  ⟨o.gh, o.nd, o.own, o.env.other (wipe_length σ vs) fun i x e => by
    rw [wipe_at, if_neg fun hi => hf i hi x e]⟩
theorem Ok.unwiped {K : PySem.W.Frag} {G H : Hp} {F : List Addr} {δ : Env} {σ σ2 : L2.St} {vs : List Nat} (o : Ok K G H F δ σ2) (hf : Free δ vs) (h : wipe σ2 vs = wipe σ vs) : Ok K G H F δ σ :=
  ⟨o.gh, o.nd, o.own, o.env.other (wipe_len h).symm fun i x e => (wipe_out' h fun hi => hf i hi x e).symm⟩

section
variable {X : Cx} {δ : Env} {elt tg iter : Expr} {ifs : List Expr} {scope : Scope} {own : List (Str × Nat)} {pos : Pos} {α : Type} {items : List α} {enc : α → D} {sh : Shape}
/-- the readings of a comprehension's parts in all contexts of its block -/
theorem lc_pe (hc : X.calm = true) (hN : X.N.Nodup) (ok : BlkOk X.N X.env.scope scope own) (hs : ∀ x, foldedSetIterable iter X.env x = pure x) : PE X (.ListComp elt [⟨tg, iter, ifs, 0⟩] scope pos)
    (tLc (wI X tg iter) (fun v σ H Q => ∀ X', Blk X scope X' → wG X' tg v σ H Q) (fun σ H Q => ∀ X', Blk X scope X' → wTs X' ifs σ H Q) (fun σ H Q => ∀ X', Blk X scope X' → wE X' elt σ H Q) (own.map (·.2))) :=
  pe_lc hc hN pi_w ok (fun s H C cl fp => ⟨fun pins s' σ H' v u Q I r h => pg_w.run pins s' σ H' v u Q I r (h _ ⟨s, H, C, cl, fp, rfl⟩)⟩) (fun s H C cl fp => ⟨fun pins s' σ H' Q I h => pts_w.run pins s' σ H' Q I (h _ ⟨s, H, C, cl, fp, rfl⟩)⟩)
    (fun s H C cl fp => ⟨fun pins s' σ H' Q I h => pe_w.run pins s' σ H' Q I (h _ ⟨s, H, C, cl, fp, rfl⟩)⟩) hs
/-- as a statement y = [..] -/
theorem lc_ps {i : Nat} {y : Str} {py spos : Pos} (hc : X.calm = true) (hN : X.N.Nodup) (hy : X.N[i]? = some y) (hyl : X.env.scope.names.lookup y = some .local)
    (hsw : swapsWith (.ListComp elt [⟨tg, iter, ifs, 0⟩] scope pos) (some (.Name y py)) spos.line X.env = pure true) (ok : BlkOk X.N X.env.scope scope own) (hs : ∀ x, foldedSetIterable iter X.env x = pure x) : PS X (.Assign [.Name y py] (.ListComp elt [⟨tg, iter, ifs, 0⟩] scope pos) spos)
    (tAsg (tLc (wI X tg iter) (fun v σ H Q => ∀ X', Blk X scope X' → wG X' tg v σ H Q) (fun σ H Q => ∀ X', Blk X scope X' → wTs X' ifs σ H Q) (fun σ H Q => ∀ X', Blk X scope X' → wE X' elt σ H Q) (own.map (·.2))) (gName i)) :=
  ps_setLc hc hN hy hyl hsw pi_w ok (fun s H C cl fp => ⟨fun pins s' σ H' v u Q I r h => pg_w.run pins s' σ H' v u Q I r (h _ ⟨s, H, C, cl, fp, rfl⟩)⟩) (fun s H C cl fp => ⟨fun pins s' σ H' Q I h => pts_w.run pins s' σ H' Q I (h _ ⟨s, H, C, cl, fp, rfl⟩)⟩)
    (fun s H C cl fp => ⟨fun pins s' σ H' Q I h => pe_w.run pins s' σ H' Q I (h _ ⟨s, H, C, cl, fp, rfl⟩)⟩) hs
theorem filter_take_succ {keep : α → Bool} {f : α → D} {i : Nat} {d : α} (hd : items[i]? = some d) : ((items.take (i + 1)).filter keep).map f = ((items.take i).filter keep).map f ++ (if keep d = true then [f d] else []) := by
  rw [List.take_succ, hd, List.filter_append, List.map_append]
  show _ ++ (List.filter keep [d]).map f = _
  rw [List.filter_cons]
  cases keep d <;> rfl
/-- what one turn of a pure comprehension does -/
def Turn1 (X : Cx) (δ : Env) (tg elt : Expr) (ifs : List Expr) (scope : Scope) (vs : List Nat) (d : D) (keep : Bool) (sh : Shape) (f : D) : Prop :=
  ∃ δ' js, (∀ j ∈ js, j ∈ vs) ∧ ∀ X', Blk X scope X' → Tgt X' tg d δ δ' js ∧ EtL X' δ' ifs keep ∧ (keep = true → Ev X' δ' elt sh f)
theorem blk_K {X' : Cx} (b : Blk X scope X') : X'.K = X.K := by
  obtain ⟨_, _, _, _, _, rfl⟩ := b
  rfl
/-- the comprehension's reading -/
theorem lc_run (hs : Src X δ tg iter (items.map enc)) (hf : Free δ (own.map (·.2))) (keep : α → Bool) (f : α → D) (hz : items.length ≤ 1000000) (hb : ∀ x ∈ items, Turn1 X δ tg elt ifs scope (own.map (·.2)) (enc x) (keep x) sh (f x))
    (σ : L2.St) (H G : Hp) (F : List Addr) (o : Ok X.K G H F δ σ) (Q : VK) (q : ∀ v H' G' Fv, New G H G' H' → Own H G' Fv → Rep X.K G' H' (.L sh) v (.lst ((items.filter keep).map f)) Fv → Q v H') :
    tLc (wI X tg iter) (fun v σ H Q => ∀ X', Blk X scope X' → wG X' tg v σ H Q) (fun σ H Q => ∀ X', Blk X scope X' → wTs X' ifs σ H Q) (fun σ H Q => ∀ X', Blk X scope X' → wE X' elt σ H Q) (own.map (·.2)) σ H Q := by
  refine hs σ H G F o _ fun J H1 G1 n1 wk Dl hD => ?_
  have gD : G1 Dl = none := n1.gh.free hD
  refine ⟨fun i m H' => m = items.length - i ∧ i ≤ items.length ∧ ∃ G' Fa acc, New G1 H1 G' H' ∧ H' Dl = some (.lst acc) ∧ RepL X.K G' H' sh acc (((items.take i).filter keep).map f) Fa ∧ (Dl :: Fa).Nodup ∧ (∀ b ∈ Dl :: Fa, G' b = none ∧ H1 b = none) ∧ acc.length ≤ i, ⟨items.length, by simp, Nat.zero_le _, ?_⟩, ?_⟩
  · obtain ⟨m1, m2, m3⟩ := lay_l (K := X.K) (ds := []) n1.gh .nil hD
    refine ⟨G1, [], [], m1, upd_same, .nil, by simp, fun b hb => ?_, Nat.le_refl _⟩
    rw [List.mem_singleton] at hb
    rw [hb]
    exact ⟨gD, hD⟩
  rintro i m H' ⟨rfl, hi, G', Fa, acc, n2, hacc, rl, nd, un, hal⟩
  by_cases hlt : i < items.length
  · refine .inr ⟨wk.go i H' (by rw [List.length_map]; exact hlt) (n2.gg.trans n2.gh), fun H2 => i + 1 ≤ items.length ∧ ∃ G2 Fa acc, New G1 H1 G2 H2 ∧ H2 Dl = some (.lst acc) ∧ RepL X.K G2 H2 sh acc (((items.take (i + 1)).filter keep).map f) Fa ∧ (Dl :: Fa).Nodup ∧ (∀ b ∈ Dl :: Fa, G2 b = none ∧ H1 b = none) ∧ acc.length ≤ i + 1,
      fun H2 q => ⟨items.length - (i + 1), by omega, rfl, q⟩, fun x H2 y => ?_⟩
    have hdi : items[i]? = some items[i] := by simp [hlt]
    obtain ⟨G2, n3, w2⟩ := wk.yld i H' G' x H2 (enc items[i]) (by rw [List.getElem?_map, hdi]; rfl) n2.gg n2.gh y
    obtain ⟨δ', js, hjs, hb'⟩ := hb items[i] (List.getElem_mem hlt)
    have o2 : Ok X.K G2 H2 F δ (wipe σ (own.map (·.2))) := (((o.new n1).new n2).new n3).wiped hf
    -- what is owned here stays over what is pure
    have carry : ∀ {G3 H3 : Hp}, New G' H' G3 H3 → H3 Dl = some (.lst acc) ∧ RepL X.K G3 H3 sh acc (((items.take i).filter keep).map f) Fa ∧ ∀ b ∈ Dl :: Fa, G3 b = none ∧ H1 b = none := fun {G3 H3} n => by
      refine ⟨n.hh _ _ hacc, rl.stay (n.stay Fa), fun b hb => ⟨?_, (un b hb).2⟩⟩
      refine n.own (F := Dl :: Fa) (fun b hb => (un b hb).1) (fun b hb => ?_) b hb
      rcases List.mem_cons.mp hb with z | z
      · rw [z]
        exact ⟨⟨_, hacc⟩, fun xs e => by rw [hacc] at e; cases e⟩
      · exact ⟨rl.there b z, rl.nt b z⟩
    intro X1 b1
    have e1 := blk_K b1
    refine (hb' X1 b1).1 (wipe σ (own.map (·.2))) H2 G2 F x (by rw [e1]; exact o2) (by rw [e1]; exact w2) _ ?_
    intro σ3 F3 o3 s3 p3
    refine ⟨(p3 _ hjs).trans (wipe_wipe σ _), fun X2 b2 => ?_⟩
    have e2 := blk_K b2
    rw [e1] at o3
    refine (hb' X2 b2).2.1 σ3 H2 G2 F3 (by rw [e2]; exact o3) _ fun H3 G3 n4 => ?_
    have n34 := n3.trans n4
    cases hk : keep items[i] with
    | false =>
      refine iteF ⟨hlt, G3, Fa, acc, n2.trans n34, ?_⟩
      obtain ⟨c1, c2, c3⟩ := carry n34
      rw [filter_take_succ hdi, hk]
      refine ⟨c1, ?_, nd, c3, Nat.le_succ_of_le hal⟩
      show RepL _ _ _ _ _ (_ ++ []) _
      rw [List.append_nil]
      exact c2
    | true =>
      refine iteT fun X4 b4 => ?_
      have e4 := blk_K b4
      refine (hb' X4 b4).2.2 hk σ3 H3 G3 F3 (by rw [e4]; exact o3.new n4) _ fun y H4 G4 Fv n5 ow r => ?_
      rw [e4] at r
      have n345 := n34.trans n5
      obtain ⟨c1, c2, c3⟩ := carry n345
      have fr : ∀ b ∈ Fv, H' b = none := fun b hb => none_of n34.hh (ow.fr b hb)
      have out : ∀ b ∈ Fv, b ∉ Dl :: Fa := fun b hb z => by
        have : ∃ u, H' b = some u := by
          rcases List.mem_cons.mp z with z | z
          · exact ⟨_, by rw [z]; exact hacc⟩
          · exact rl.there b z
        obtain ⟨u, hu⟩ := this
        rw [fr b hb] at hu
        cases hu
      have nt : ∀ xs, H4 Dl ≠ some (.tup xs) := fun xs z => by rw [c1] at z; cases z
      obtain ⟨nd1, nd2⟩ := List.nodup_cons.mp nd
      refine ⟨acc, c1, Nat.lt_of_le_of_lt hal (Nat.lt_of_lt_of_le hlt (Nat.le_trans hz (by decide))), hlt, G4, Fa ++ Fv, acc ++ [y], ?_, upd_same, ?_, ?_, ?_, by rw [List.length_append, List.length_singleton]; omega⟩
      · have nn := n2.trans n345
        refine ⟨fun b u e => ?_, nn.gg, fun b u e => ?_, nn.nw⟩
        · rw [upd_ne (ne_of_none e hD)]
          exact nn.hh b u e
        · rw [upd_ne (fun z => by rw [z, (c3 Dl (List.mem_cons_self ..)).1] at e; cases e)]
          exact nn.gh b u e
      · rw [filter_take_succ hdi, hk]
        exact RepL.snoc (r.stay (stay_upd (fun z => out Dl z (List.mem_cons_self ..)) nt)) (c2.stay (stay_upd nd1 nt))
      · refine List.nodup_cons.mpr ⟨fun z => ?_, List.nodup_append.mpr ⟨nd2, ow.nd, fun u hu u' hu' z => ?_⟩⟩
        · rcases List.mem_append.mp z with z | z
          · exact nd1 z
          · exact out Dl z (List.mem_cons_self ..)
        · subst z
          exact out u hu' (List.mem_cons_of_mem _ hu)
      · intro b hb
        rcases List.mem_cons.mp hb with z | z
        · exact c3 b (by rw [z]; exact List.mem_cons_self ..)
        · rcases List.mem_append.mp z with z | z
          · exact c3 b (List.mem_cons_of_mem _ z)
          · exact ⟨ow.un b z, none_of n2.hh (fr b z)⟩
  · have e : i = items.length := by omega
    subst e
    rw [List.take_length] at rl
    exact .inl ⟨wk.stop _ H' (Nat.le_of_eq (List.length_map ..)) (n2.gg.trans n2.gh), q (.ref Dl) H' G' (Dl :: Fa) (n1.trans n2) ⟨nd, fun b hb => none_of n1.hh (un b hb).2, fun b hb => (un b hb).1⟩ (.L hacc rl)⟩
theorem ev_lc (own : List (Str × Nat)) (hN : X.N.Nodup) (hs : Src X δ tg iter (items.map enc)) (keep : α → Bool) (f : α → D) (hz : items.length ≤ 1000000) (hb : ∀ x ∈ items, Turn1 X δ tg elt ifs scope (own.map (·.2)) (enc x) (keep x) sh (f x)) (ok : BlkOk X.N X.env.scope scope own) (hf : Free δ (own.map (·.2))) (hc : X.calm = true := by rfl)
    (hfo : ∀ x, foldedSetIterable iter X.env x = pure x := by intro _; rfl) : Ev X δ (.ListComp elt [⟨tg, iter, ifs, 0⟩] scope pos) (.L sh) (.lst ((items.filter keep).map f)) := fun σ H G F o Q q =>
  ⟨_, lc_pe hc hN ok hfo, lc_run hs hf keep f hz hb σ H G F o Q q⟩
theorem st_setlc (own : List (Str × Nat)) (m : Nat) {Φ : Post} {y : Str} {py spos : Pos} (hN : X.N.Nodup) (hs : Src X δ tg iter (items.map enc)) (keep : α → Bool) (f : α → D) (hz : items.length ≤ 1000000) (hb : ∀ x ∈ items, Turn1 X δ tg elt ifs scope (own.map (·.2)) (enc x) (keep x) sh (f x)) (ok : BlkOk X.N X.env.scope scope own) (hf : Free δ (own.map (·.2)))
    (q : Φ.nx (δ.set m (some (.L sh, .lst ((items.filter keep).map f))))) (hsw : swapsWith (.ListComp elt [⟨tg, iter, ifs, 0⟩] scope pos) (some (.Name y py)) spos.line X.env = pure true) (hl : Nat.blt m δ.length = true := by rfl) (hy : X.N[m]? = some y := by rfl) (hyl : X.env.scope.names.lookup y = some .local := by rfl) (hc : X.calm = true := by rfl)
    (hfo : ∀ x, foldedSetIterable iter X.env x = pure x := by intro _; rfl) : St X δ (.Assign [.Name y py] (.ListComp elt [⟨tg, iter, ifs, 0⟩] scope pos) spos) Φ := fun σ H G F o D W tk g =>
  ⟨_, lc_ps hc hN hy hyl hsw ok hfo, lc_run hs hf keep f hz hb σ H G F o _ fun v H1 G1 Fv n1 ow r => set_ok (Q := D.nx) m (Nat.blt_eq.mp hl) o n1 ow r fun F' tr o' => g.nx _ _ _ _ _ q tr o'⟩
/-- without a test -/
theorem ev_lcA (own : List (Str × Nat)) (hN : X.N.Nodup) (hs : Src X δ tg iter (items.map enc)) (f : α → D) (hz : items.length ≤ 1000000) (hb : ∀ x ∈ items, Turn1 X δ tg elt ifs scope (own.map (·.2)) (enc x) true sh (f x)) (ok : BlkOk X.N X.env.scope scope own) (hf : Free δ (own.map (·.2))) (hc : X.calm = true := by rfl)
    (hfo : ∀ x, foldedSetIterable iter X.env x = pure x := by intro _; rfl) : Ev X δ (.ListComp elt [⟨tg, iter, ifs, 0⟩] scope pos) (.L sh) (.lst (items.map f)) := by
  have h := ev_lc (pos := pos) own hN hs (fun _ => true) f hz hb ok hf hc hfo
  rw [List.filter_eq_self.mpr fun _ _ => rfl] at h
  exact h
theorem st_setlcA (own : List (Str × Nat)) (m : Nat) {Φ : Post} {y : Str} {py spos : Pos} (hN : X.N.Nodup) (hs : Src X δ tg iter (items.map enc)) (f : α → D) (hz : items.length ≤ 1000000) (hb : ∀ x ∈ items, Turn1 X δ tg elt ifs scope (own.map (·.2)) (enc x) true sh (f x)) (ok : BlkOk X.N X.env.scope scope own) (hf : Free δ (own.map (·.2)))
    (q : Φ.nx (δ.set m (some (.L sh, .lst (items.map f))))) (hsw : swapsWith (.ListComp elt [⟨tg, iter, ifs, 0⟩] scope pos) (some (.Name y py)) spos.line X.env = pure true) (hl : Nat.blt m δ.length = true := by rfl) (hy : X.N[m]? = some y := by rfl) (hyl : X.env.scope.names.lookup y = some .local := by rfl) (hc : X.calm = true := by rfl)
    (hfo : ∀ x, foldedSetIterable iter X.env x = pure x := by intro _; rfl) : St X δ (.Assign [.Name y py] (.ListComp elt [⟨tg, iter, ifs, 0⟩] scope pos) spos) Φ :=
  st_setlc own m hN hs (fun _ => true) f hz hb ok hf (by rw [List.filter_eq_self.mpr fun _ _ => rfl]; exact q) hsw hl hy hyl hc hfo
end
theorem free_of {δ : Env} {vs : List Nat} (h : (vs.all fun j => match δ[j]? with | some (some _) => false | _ => true) = true) : Free δ vs := fun j hj x e => by
  have := List.all_eq_true.mp h j hj
  rw [e] at this
  cases this
end W3

/-! W3g: == and repr of data, sorted, list(range), comprehensions that change a slot. -/
namespace W3
open PySem PySem.Spec L2

/-! ### as the library's data -/
mutual
def pd : D → PyData
  | .non => .none
  | .bl b => .bool b
  | .int i => .int i
  | .str x => .str x
  | .tup ds => .tuple (pdL ds)
  | .lst ds => .list (pdL ds)
  | _ => .none
def pdL : List D → List PyData
  | [] => []
  | d :: ds => pd d :: pdL ds
end
mutual
/-- no object, no dict within -/
def okD : D → Bool
  | .non | .bl _ | .int _ | .str _ => true
  | .tup ds => okL ds
  | .lst ds => okL ds
  | _ => false
def okL : List D → Bool
  | [] => true
  | d :: ds => okD d && okL ds
end
theorem pdL_map : ∀ ds : List D, pdL ds = ds.map pd
  | [] => by simp [pdL]
  | d :: ds => by
    rw [pdL, pdL_map ds, List.map_cons]
theorem okL_all : ∀ ds : List D, okL ds = ds.all okD
  | [] => by simp [okL]
  | d :: ds => by
    rw [okL, okL_all ds, List.all_cons]
mutual
theorem Vw.dp {K : PySem.W.Frag} {H : Hp} : ∀ {v : V} {d : D}, Vw K H v d → okD d = true → Dp K H v (pd d)
  | _, _, .non, _ => by rw [pd]; exact .non
  | _, _, .bl b, _ => by rw [pd]; exact .bl b
  | _, _, .int i, _ => by rw [pd]; exact .int i
  | _, _, .str x, _ => by rw [pd]; exact .str x
  | _, _, .ty n, h => by simp [okD] at h
  | _, _, .obj a, h => by simp [okD] at h
  | _, _, .tup h l, k => by
    rw [okD] at k
    rw [pd]
    exact .tup (.inl (.inl h)) (VwL.dp l k)
  | _, _, .lst h l, k => by
    rw [okD] at k
    rw [pd]
    exact .lst (.inl h) (VwL.dp l k)
  | _, _, .dK _ _ _, h => by simp [okD] at h
  | _, _, .dT _ _ _, h => by simp [okD] at h
theorem VwL.dp {K : PySem.W.Frag} {H : Hp} : ∀ {vs : List V} {ds : List D}, VwL K H vs ds → okL ds = true → DpAll K H vs (pdL ds)
  | _, _, .nil, _ => by rw [pdL]; exact .nil
  | _, _, .cons h t, k => by
    rw [okL, Bool.and_eq_true] at k
    rw [pdL]
    exact .cons (Vw.dp h k.1) (VwL.dp t k.2)
end
section
variable {X : Cx} {δ δ' : Env} {e a b c : Expr} {d da db : D} {ds es' : List D} {pos p : Pos} {n : Str} {k : Nat} {i j : Int} {Φ : Post}
/-! ### == of data -/
theorem cm_eqD (hr : Rm k X.A) (h1 : okD da = true) (h2 : okD db = true) (s1 : SeqAt.shaped (pd da) = true) (s2 : SeqAt.shaped (pd db) = true) : CmpD X .Eq b da db (PyData.eqv (pd da) (pd db)) :=
  ⟨_, op_eqD hr.units, nomark _, fun u w H Q w1 w2 q => ⟨_, _, w1.dp h1, w2.dp h2, s1, s2, q⟩⟩
theorem cm_neD (hr : Rm k X.A) (h1 : okD da = true) (h2 : okD db = true) (s1 : SeqAt.shaped (pd da) = true) (s2 : SeqAt.shaped (pd db) = true) : CmpD X .NotEq b da db (!PyData.eqv (pd da) (pd db)) :=
  ⟨_, op_neD hr.units, nomark _, fun u w H Q w1 w2 q => ⟨_, _, w1.dp h1, w2.dp h2, s1, s2, q⟩⟩

/-! ### repr -/
def rReprD (K : PySem.W.Frag) : List V → Hp → VK → Prop := fun xs H Q => ∃ x q, xs = [x] ∧ Dp K H x q ∧ q.showable = true ∧ q.hasDict = false ∧ q.depth ≤ 60 ∧ q.shown.length ≤ sizeLine ∧ Q (.str q.shown) H
theorem cr_reprD (hr : Rm k X.A) : CallR X (.builtin "repr") (rReprD X.K) := by
  intro pins s σ H xs us Q I r h
  obtain ⟨x, q, rfl, hd, h1, h2, h3, h4, hq⟩ := h
  obtain ⟨u, rfl, rx⟩ := vals1 r
  obtain ⟨as, rd⟩ := Dp.reads I q x u hd rx
  have hun := hr.units
  cases rd with
  | none => exact PySem.P.repr_of_none ⟨.str _, H, I.tok _, ⟨_, rfl⟩, hq⟩
  | bool b => exact PySem.P.repr_of_bool ⟨.str _, H, I.tok _, ⟨_, rfl⟩, hq⟩
  | int i t => exact PySem.P.repr_of_int (of_decide_eq_true h1) ⟨.str _, H, I.tok _, ⟨_, rfl⟩, hq⟩
  | str y t => exact PySem.P.repr_of_str (hsz := h4) ⟨.str _, H, I.tok _, ⟨_, rfl⟩, hq⟩
  | list a1 a2 a3 a4 => exact repr_of_reads' (.list a1 a2 a3 a4) h1 (PyData.noDict_hsm h2) hr.gd (by omega) (fun _ _ z => z) (fun h' u tk hk => ⟨.str _, H, I.kept hk, ⟨_, rfl⟩, hq⟩) h4
  | tuple a1 a2 a3 a4 => exact repr_of_reads' (.tuple a1 a2 a3 a4) h1 (PyData.noDict_hsm h2) hr.gd (by omega) (fun _ _ z => z) (fun h' u tk hk => ⟨.str _, H, I.kept hk, ⟨_, rfl⟩, hq⟩) h4
  | dict => cases h2
theorem ev_repr (hm : X.mg "repr" = none) (hr : Rm k X.A) (ha : Er X δ a d) (h0 : okD d = true) (h1 : (pd d).showable = true) (h2 : (pd d).hasDict = false) (h3 : (pd d).depth ≤ 60) (h4 : (pd d).shown.length ≤ sizeLine) (hg : Gl X "repr" := by rfl)
    (he : starEach [a] X.env = (false, eval a X.env) :: starEach [] X.env := by rfl) : Ev X δ (.Call (.Name "repr" p) [a] [] pos) .S (.str (pd d).shown) :=
  ev_cb (cr_reprD hr) hm (by decide +kernel) (ra_cons ha ra_nil he) rfl (fun vs H Q w q => by
    obtain ⟨x, rfl, w1⟩ := vwL1 w
    exact ⟨x, _, rfl, w1.dp h0, h1, h2, h3, h4, q⟩) hg (by decide) (by decide) he rfl

/-! ### list(range(n)) -/
theorem vw_rng {K : PySem.W.Frag} {H : Hp} (lo : Int) (n : Nat) : VwL K H ((List.range n).map fun i => V.int (lo + (i : Nat))) (rng lo n) := by
  unfold rng
  generalize List.range n = l
  induction l with
  | nil => exact .nil
  | cons x l ih => exact .cons (.int _) ih
theorem ev_listR {p2 p3 : Pos} (hm : X.mg "list" = none) (hm2 : X.mg "range" = none) (ha : Er X δ a (.int j)) (hj : 0 ≤ j ∧ j ≤ 1000000) (hg : Gl X "list" := by rfl) (hg2 : Gl X "range" := by rfl) (hc : X.calm = true := by rfl)
    (h1 : starEach [a] X.env = (false, eval a X.env) :: starEach [] X.env := by rfl) (h2 : starEach [(.Call (.Name "range" p2) [a] [] p3 : Expr)] X.env = (false, eval (.Call (.Name "range" p2) [a] [] p3) X.env) :: starEach [] X.env := by rfl) :
    Ev X δ (.Call (.Name "list" p) [.Call (.Name "range" p2) [a] [] p3] [] pos) (.L .S) (.lst (rng 0 j.toNat)) := fun σ H G F o Q q =>
  ⟨_, pe_listRg hc hg hm (prg_1 hg2 hm2 pe_w h1) h2, ha σ H G F o _ fun v H1 G1 n1 w => ⟨j, w.sc rfl, RgOk.of_le (by omega) (by omega) (by omega) (by omega), fun r hr => by
    obtain ⟨m1, m2, m3⟩ := lay_l n1.gh (vw_rng (K := X.K) (H := G1) 0 (j - 0).toNat) hr
    have e0 : (j - 0).toNat = j.toNat := by rw [Int.sub_zero]
    have e1 : rgV 0 j = (List.range j.toNat).map fun i => V.int (0 + (i : Nat)) := by
      unfold rgV
      rw [e0]
    rw [e0] at m1 m3
    rw [← e1] at m1 m3
    exact q _ _ G1 [r] (n1.trans m1) (own_after n1 m2) m3⟩⟩
end

/-! ### sorted -/
mutual
theorem reads_in {h : Heap} : ∀ {v : Value} {d : PyData} {as : List Addr}, Reads h v d as → ∀ b ∈ as, b < h.objs.size
  | _, _, _, .none, b, hb => by simp at hb
  | _, _, _, .bool _, b, hb => by simp at hb
  | _, _, _, .int _ _, b, hb => by simp at hb
  | _, _, _, .str _ _, b, hb => by simp at hb
  | _, _, _, .list h1 _ _ h4, b, hb => by
    rcases List.mem_cons.mp hb with e | hb
    · rw [e]
      exact Heap.lt_size h1
    · exact readsAll_in h4 b hb
  | _, _, _, .tuple _ _ _ h4, b, hb => readsAll_in h4 b hb
  | _, _, _, .dict h1 _ _ h4 h5, b, hb => by
    rcases List.mem_append.mp hb with hb | hb
    · rcases List.mem_cons.mp hb with e | hb
      · rw [e]
        exact Heap.lt_size h1
      · exact readsAll_in h4 b hb
    · exact readsAll_in h5 b hb
theorem readsAll_in {h : Heap} : ∀ {vs : List Value} {ds : List PyData} {as : List Addr}, ReadsAll h vs ds as → ∀ b ∈ as, b < h.objs.size
  | _, _, _, .nil, b, hb => by simp at hb
  | _, _, _, .cons h t, b, hb => by
    rcases List.mem_append.mp hb with hb | hb
    · exact reads_in h b hb
    · exact readsAll_in t b hb
end
open PySem.W (EachIs AllAlike Sortable dataLe)
section
variable {β : Type} {X : Cx}
/-- what holds of the items pair by pair holds of the sorted ones -/
def Sorts (enc : β → PyData) (vs : List V) (bs : List β) (ys : List V) : Prop := ∀ R : V → β → Prop, EachIs R vs bs → EachIs R ys (bs.mergeSort (dataLe false enc))
def rSortedL (K : PySem.W.Frag) (enc : β → PyData) : List V → Hp → VK → Prop := fun xs H Q => ∃ (a : Addr) (vs : List V) (bs : List β), xs = [.ref a] ∧ Rd H a (.lst vs) ∧ EachIs (fun v b => Dp K H v (enc b)) vs bs ∧ AllAlike (bs.map enc) ∧ Sortable (bs.map enc) ∧ bs.length ≤ 1000000 ∧ (∀ b ∈ bs, (enc b).depth ≤ 30) ∧
  ∀ p ys, H p = none → Sorts enc vs bs ys → Q (.ref p) (upd H p (.lst ys))
theorem each_ix {α γ : Type} {R : α → γ → Prop} : ∀ {as : List α} {bs : List γ}, EachIs R as bs → EachIs (fun a b => ∃ i : Nat, as[i]? = some a ∧ bs[i]? = some b) as bs
  | _, _, .nil => .nil
  | _, _, .cons _ t => .cons ⟨0, by simp, by simp⟩ ((each_ix t).mono fun _ _ ⟨i, h1, h2⟩ => ⟨i + 1, by simpa using h1, by simpa using h2⟩)
theorem each_at {α γ : Type} {R : α → γ → Prop} : ∀ {as : List α} {bs : List γ} {i : Nat} {a : α} {b : γ}, EachIs R as bs → as[i]? = some a → bs[i]? = some b → R a b
  | _, _, 0, _, _, .cons r _, h1, h2 => by
    simp at h1 h2
    subst h1 h2
    exact r
  | _, _, i + 1, _, _, .cons _ t, h1, h2 => each_at (i := i) t (by simpa using h1) (by simpa using h2)
  | _, _, 0, _, _, .nil, h1, _ => by simp at h1
  | _, _, i + 1, _, _, .nil, h1, _ => by simp at h1
theorem each_vals {γ : Type} {R : V → γ → Prop} : ∀ {vs : List V} {us : List Value} {bs : List γ}, Vals vs us → EachIs R vs bs → EachIs (fun u b => ∃ v, RelV v u ∧ R v b) us bs
  | _, _, _, .nil, .nil => .nil
  | _, _, _, .cons r t, .cons q z => .cons ⟨_, r, q⟩ (each_vals t z)
theorem each_pick {γ : Type} {R : V → γ → Prop} : ∀ {us : List Value} {bs : List γ}, EachIs (fun u b => ∃ v, RelV v u ∧ R v b) us bs → ∃ vs, Vals vs us ∧ EachIs R vs bs
  | _, _, .nil => ⟨[], .nil, .nil⟩
  | _, _, .cons ⟨v, r, q⟩ t => by
    obtain ⟨vs, h1, h2⟩ := each_pick t
    exact ⟨v :: vs, .cons r h1, .cons q h2⟩
theorem each_len {α γ : Type} {R : α → γ → Prop} : ∀ {as : List α} {bs : List γ}, EachIs R as bs → as.length = bs.length
  | _, _, .nil => rfl
  | _, _, .cons _ t => by rw [List.length_cons, List.length_cons, each_len t]
theorem sorts_of {enc : β → PyData} {vs ys : List V} {bs : List β} (h : EachIs (fun v b => ∃ i : Nat, vs[i]? = some v ∧ bs[i]? = some b) ys (bs.mergeSort (dataLe false enc))) : Sorts enc vs bs ys := fun R r => h.mono fun v b ⟨i, h1, h2⟩ => each_at r h1 h2
theorem cr_sortedL {k : Nat} (enc : β → PyData) (hr : Rm k X.A) : CallR X (.builtin "sorted") (rSortedL X.K enc) := by
  intro pins s σ H xs us Q I r h
  obtain ⟨a, vs, bs, rfl, hd, he, hal, hk, hL, hdp, q⟩ := h
  obtain ⟨u, rfl, rx⟩ := vals1 r
  cases rx
  obtain ⟨z, its, n, rv, e⟩ := (show ObjOk X.prog X.w H s.heap a (.lst vs) from hd.ok I.hok)
  have hun := hr.units
  have er : EachIs (fun u b => ∃ as, Reads s.heap u (enc b) as) its bs := (each_vals rv he).mono fun u b ⟨v, rvu, dpv⟩ => Dp.reads I (enc b) v u dpv rvu
  have e1 := each_vals rv (each_ix he)
  have hlen : its.length = bs.length := each_len er
  refine PySem.W.sorted_data (s := s) (vs := its) (bs := bs) (enc := enc) (R := fun u b => ∃ v, RelV v u ∧ ∃ i : Nat, vs[i]? = some v ∧ bs[i]? = some b) ⟨_, e, rfl, n, rfl⟩ e1 er hal hk (Nat.le_trans hL (by decide)) (fun b hb => by have := hdp b hb; omega) fun out ho eo => ?_
  obtain ⟨ys, v1, v2⟩ := each_pick eo
  have hoL : (((s.heap.push (PyProof.Rows.seqObj "list" #[] 0)).update s.heap.objs.size (Obj.mapSeq (· ++ its.toArray))).push (PyProof.Rows.seqObj "list" its.toArray 0)).get? (s.heap.objs.size + 1) = some (PyProof.Rows.seqObj "list" its.toArray 0) := by
    have := Heap.get?_push_size ((s.heap.push (PyProof.Rows.seqObj "list" #[] 0)).update s.heap.objs.size (Obj.mapSeq (· ++ its.toArray))) (o := PyProof.Rows.seqObj "list" its.toArray 0) rfl
    rw [Heap.size_update, PyProof.Rows.size_push'] at this
    exact this
  obtain ⟨ep, he'⟩ := PyProof.Rows.sortedHeap_at (vs := its) (out := out.toArray) hoL
  have keep : ∀ b u, s.heap.get? b = some u → (PyProof.Rows.sortedAll s.heap its out.toArray).get? b = some u := fun b u eb => by
    have hb : b < s.heap.objs.size := Heap.lt_size eb
    unfold PyProof.Rows.sortedAll
    rw [PyProof.Rows.sortedHeap_old (Nat.ne_of_lt (Nat.lt_succ_of_lt hb)) (by rw [PyProof.Rows.size_push', Heap.size_update, PyProof.Rows.size_push']; exact Nat.lt_succ_of_lt (Nat.lt_succ_of_lt hb))]
    rw [Heap.get?_push_ne _ _ _ (by rw [Heap.size_update, PyProof.Rows.size_push']; exact Nat.ne_of_lt (Nat.lt_succ_of_lt hb)), Heap.get?_update_ne _ _ _ _ (Nat.ne_of_lt hb)]
    exact Heap.get?_push_of_some _ eb
  have fr : H (s.heap.objs.size + 1) = none := I.hok.fresh (Nat.le_succ _)
  have hyl : ys.length ≤ sizeLine := by
    have := each_len v2
    rw [List.length_mergeSort] at this
    rw [this]
    exact Nat.le_trans hL (by decide)
  exact ⟨.ref (s.heap.objs.size + 1), upd H (s.heap.objs.size + 1) (.lst ys), I.laid (t' := s.toks) keep (Nat.le_succ _) ⟨hyl, out, ep, v1, he'⟩, rfl, q _ ys fr (sorts_of v2)⟩
/-- of a dict whose keys are tuples: its keys -/
def rSortedT (K : PySem.W.Frag) (enc : β → PyData) (key : β → List Key) : List V → Hp → VK → Prop := fun xs H Q => ∃ (a : Addr) (kvs : List (List Key × V)) (bs : List β), xs = [.ref a] ∧ Rd H a (.dT kvs) ∧ kvs.map (·.1) = bs.map key ∧ (∀ b, enc b = .tuple ((key b).map fun k => match k with | .inl i => .int i | .inr x => .str x)) ∧ AllAlike (bs.map enc) ∧ Sortable (bs.map enc) ∧ bs.length ≤ 1000000 ∧
  ∀ p ys, H p = none → EachIs (fun y b => ∃ ad, y = V.ref ad ∧ H ad = some (.tup ((key b).map kV))) ys (bs.mergeSort (dataLe false enc)) → Q (.ref p) (upd H p (.lst ys))
theorem dp_key {K : PySem.W.Frag} {H : Hp} : ∀ ks : List Key, DpAll K H (ks.map kV) (ks.map fun k => match k with | .inl i => PyData.int i | .inr x => .str x)
  | [] => .nil
  | .inl i :: ks => .cons (.int i) (dp_key ks)
  | .inr x :: ks => .cons (.str x) (dp_key ks)
theorem depth_key : ∀ ks : List Key, PyData.depthAll (ks.map fun k => match k with | .inl i => PyData.int i | .inr x => .str x) = 0
  | [] => by simp [PyData.depthAll]
  | .inl i :: ks => by
    rw [List.map_cons, PyData.depthAll, depth_key ks]
    simp [PyData.depth]
  | .inr i :: ks => by
    rw [List.map_cons, PyData.depthAll, depth_key ks]
    simp [PyData.depth]
theorem cr_sortedT {k : Nat} (enc : β → PyData) (key : β → List Key) (hr : Rm k X.A) (hc : X.calm = true) : CallR X (.builtin "sorted") (rSortedT X.K enc key) := by
  intro pins s σ H xs us Q I r h
  obtain ⟨a, kvs, bs, rfl, hd, hks, henc, hal, hk, hL, q⟩ := h
  obtain ⟨u, rfl, rx⟩ := vals1 r
  cases rx
  obtain ⟨z, hs, ks, pr, o, es, ep, ho, hx, hdt, he, hn⟩ := (show ObjOk X.prog X.w H s.heap a (.dT kvs) from hd.ok I.hok)
  have l1 : es.size = ks.length := size_of_entries he
  have l2 : kvs.length = ks.length := Paired.length pr
  have hun := hr.units
  have lb : kvs.length = bs.length := by
    have := congrArg List.length hks
    simpa using this
  refine Calls.call_function_entry PyProof.Rows.kind_sorted PyProof.Rows.plain_sorted PyProof.Rows.entry_sorted (PyProof.Rows.args_sorted1 _) ?_
  unfold Builtin.«sorted»
  refine wpAny_bind (m := checkCount "sorted" 1 1 _) (wpAny_pure ?_)
  refine wpAny_bind (PySem.W.kdu_collect (A := X.A.in1) (kdl_raw hs hx hdt) (I.ok.hd hc) ho (by omega) fun h' tk acc hkeep hacc => ?_)
  have hl : acc.toList.length = ks.length := by rw [Array.length_toList, hacc.1, l1]
  have ea : acc.toList = ks.map fun x => Value.ref x.2.1 := by
    apply List.ext_getElem?
    intro jj
    rw [List.getElem?_map]
    cases hj : acc.toList[jj]? with
    | none =>
      have h1 := List.getElem?_eq_none_iff.mp hj
      rw [List.getElem?_eq_none (by omega)]
      rfl
    | some v =>
      obtain ⟨en, hen, hv⟩ := hacc.2 jj v (by rw [← Array.getElem?_toList]; exact hj)
      have qe := entry_at he jj
      rw [hen] at qe
      cases hb : ks[jj]? with
      | none =>
        rw [hb] at qe
        exact nomatch (show some en = none from qe)
      | some b =>
        rw [hb] at qe
        have e2 := Option.some.inj qe
        rw [hv, e2]
        rfl
  have I1 : Inv X pins σ H { s with heap := h', toks := tk } := I.kept hkeep
  -- the keys' tuples, pair by pair
  have hpair : EachIs (fun v b => ∃ ad, v = V.ref ad ∧ H ad = some (.tup ((key b).map kV))) (ks.map fun x => V.ref x.2.1) bs := by
    clear q hal hk hL ea hl hacc l1 l2 lb he hn hd
    induction pr generalizing bs with
    | nil =>
      cases bs with
      | nil => exact .nil
      | cons b bs => simp at hks
    | cons h t ih =>
      cases bs with
      | nil => simp at hks
      | cons b bs =>
        rw [List.map_cons, List.map_cons] at hks
        injection hks with k1 k2
        exact .cons ⟨_, rfl, by rw [← k1]; exact h.2.1⟩ (ih _ k2 (Nat.le_of_succ_le (by assumption)))
  have rv : Vals (ks.map fun x => V.ref x.2.1) acc.toList := by
    rw [ea]
    clear q hal hk hL ea hl hacc l1 l2 lb he hn hd hpair pr
    induction ks with
    | nil => exact .nil
    | cons x l ih => exact .cons rfl ih
  refine wpAny_bind (wpAny_newList ?_ (by rw [hl, ← l2, lb]; exact Nat.le_trans hL (by decide)))
  have hoL : (h'.push (PyProof.Rows.seqObj "list" acc.toList.toArray 0)).get? h'.objs.size = some (PyProof.Rows.seqObj "list" acc.toList.toArray 0) := Heap.get?_push_size _ rfl
  have er : EachIs (fun u b => ∃ as, Reads (h'.push (PyProof.Rows.seqObj "list" acc.toList.toArray 0)) u (enc b) as ∧ h'.objs.size ∉ as) acc.toList bs := by
    refine (each_vals rv hpair).mono fun u b hb => ?_
    obtain ⟨v, rvu, ad, rfl, had⟩ := hb
    have dp : Dp X.K H (.ref ad) (enc b) := by
      rw [henc b]
      exact .tup (.inl (.inl had)) (dp_key _)
    obtain ⟨as, rd⟩ := Dp.reads I1 (enc b) _ u dp rvu
    have rd' := PyProof.Rows.Reads.keeps (h' := h'.push (PyProof.Rows.seqObj "list" acc.toList.toArray 0)) (fun b o eb => Heap.get?_push_of_some _ eb) rd
    refine ⟨as, rd', fun hm => ?_⟩
    exact absurd (reads_in rd _ hm) (Nat.lt_irrefl _)
  have e1 := each_vals rv (each_ix hpair)
  show wpAny _ _ _ _ _ { s with heap := h'.push (PyProof.Rows.seqObj "list" acc.toList.toArray 0), toks := tk }
  refine wpAny_bind (wpAny_holding (PySem.W.list_sort_data (s := { s with heap := h'.push (PyProof.Rows.seqObj "list" acc.toList.toArray 0), toks := tk }) (vs := acc.toList) (bs := bs) (enc := enc) (R := fun u b => ∃ v, RelV v u ∧ ∃ i : Nat, (ks.map fun x => V.ref x.2.1)[i]? = some v ∧ bs[i]? = some b) hoL e1 er hal hk (Nat.le_trans hL (by decide)) (fun b hb => ?_) fun out hol eo => ?_))
  · rw [henc b]
    show X.A.units + 1 + 1 + (PyData.depthAll _ + 1) < _
    rw [depth_key]
    omega
  obtain ⟨ys, v1, v2⟩ := each_pick eo
  obtain ⟨ep', he'⟩ := PyProof.Rows.sortedHeap_at (vs := acc.toList) (out := out.toArray) hoL
  have hyl : ys.length ≤ sizeLine := by
    have := each_len v2
    rw [List.length_mergeSort] at this
    rw [this]
    exact Nat.le_trans hL (by decide)
  refine wpAny_pure ⟨_, rfl, .ref h'.objs.size, upd H h'.objs.size (.lst ys), I1.laid (t' := tk) (fun b u eb => ?_) (Nat.le_refl _) ⟨hyl, out, ep', v1, he'⟩, rfl, q _ ys (I1.hok.fresh (Nat.le_refl _)) (v2.mono fun v b ⟨i, x1, x2⟩ => each_at hpair x1 x2)⟩
  have hb : b < h'.objs.size := Heap.lt_size eb
  rw [PyProof.Rows.sortedHeap_old (Nat.ne_of_lt hb) (by rw [PyProof.Rows.size_push']; exact Nat.lt_succ_of_lt hb)]
  exact Heap.get?_push_of_some _ eb
end
end W3

/-! W3h: sorted over data, comprehensions that change a slot. -/
namespace W3
open PySem PySem.Spec L2
open PySem.W (EachIs AllAlike Sortable dataLe)
/-! ### pairs of ints -/
def leP (s t : Int × Int) : Bool := decide (s.1 < t.1 ∨ (s.1 = t.1 ∧ s.2 ≤ t.2))
def kP (t : Int × Int) : List Key := [.inl t.1, .inl t.2]
def dP (t : Int × Int) : D := .tup [.int t.1, .int t.2]
def eP (t : Int × Int) : PyData := .tuple [.int t.1, .int t.2]
theorem leP_data : dataLe false eP = leP := PySem.W.dataLe_ii (β := Int × Int) (fun t => t.1) (fun t => t.2)
theorem alikeP (bs : List (Int × Int)) : AllAlike (bs.map eP) := AllAlike.of fun b b' => by simp [eP, PySem.W.alike, PySem.W.alikeAll]
theorem sortP (bs : List (Int × Int)) : Sortable (bs.map eP) := Sortable.tuples fun b => ⟨_, _, rfl⟩
section
variable {X : Cx} {δ : Env} {a : Expr} {pos p : Pos} {k : Nat}
theorem vwL_pairs {K : PySem.W.Frag} {G H : Hp} (e : Same G H) : ∀ {ys : List V} {bs : List (Int × Int)}, EachIs (fun y b => ∃ ad, y = V.ref ad ∧ H ad = some (.tup ((kP b).map kV))) ys bs → VwL K (frzC G H []) ys (bs.map dP)
  | _, _, .nil => .nil
  | _, _, .cons ⟨ad, h1, h2⟩ t => by
    subst h1
    exact .cons (.tup (frz_tup e h2) (.cons (.int _) (.cons (.int _) .nil))) (vwL_pairs e t)
/-- sorted(d), the keys of d pairs of ints -/
theorem ev_sortedT {kds : List (List Key × D)} {bs : List (Int × Int)} (hm : X.mg "sorted" = none) (hr : Rm k X.A) (ha : Er X δ a (.dT kds)) (hk : kds.map (·.1) = bs.map kP) (hL : bs.length ≤ 1000000) (hc : X.calm = true := by rfl) (hg : Gl X "sorted" := by rfl)
    (he : starEach [a] X.env = (false, eval a X.env) :: starEach [] X.env := by rfl) : Ev X δ (.Call (.Name "sorted" p) [a] [] pos) (.L .S) (.lst ((bs.mergeSort leP).map dP)) := fun σ H G F o Q q =>
  ⟨_, pe_callB (cr_sortedT eP kP hr hc) hg hm (by decide +kernel) pa_w (by decide) (by decide) he rfl, ra_cons ha ra_nil he σ H G F o _ fun vs H1 G1 n1 w => by
    obtain ⟨x, rfl, w1⟩ := vwL1 w
    cases w1 with
    | dT h1 hkk l =>
      refine ⟨_, _, bs, rfl, h1, hkk.trans hk, fun b => rfl, alikeP bs, sortP bs, hL, fun r ys hq e => ?_⟩
      rw [leP_data] at e
      have g1 : G1 r = none := n1.gh.free hq
      have f1 : frzC G1 H1 [] r = none := by
        cases z : frzC G1 H1 [] r with
        | none => rfl
        | some o =>
          have := frz_in n1.gh r o z
          rw [hq] at this
          cases this
      have l2 := vwL_pairs (K := X.K) n1.gh e
      refine q (.ref r) _ (frzC G1 H1 []) [r] ⟨fun b u z => ?_, n1.gg.trans frz_old, fun b u z => same_new hq b u (frz_in n1.gh b u z), fun b y z => ?_⟩ ⟨by simp, fun b hb => ?_, fun b hb => ?_⟩ (.L upd_same (RepL.ofS l2))
      · exact same_new hq b u (n1.hh b u z)
      · by_cases g : G1 b = none
        · rcases frz_new g z with y2 | ⟨xs, y2⟩
          · simp at y2
          · cases e2 : H b with
            | none => exact .inl rfl
            | some o2 =>
              have z2 := n1.hh b o2 e2
              rw [y2] at z2
              exact .inr ⟨xs, z2.symm ▸ rfl⟩
        · exact n1.nw b y g
      · rw [List.mem_singleton] at hb
        rw [hb]
        exact none_of n1.hh hq
      · rw [List.mem_singleton] at hb
        rw [hb]
        exact f1⟩
end

/-! ### [f(x) for x in xs], f changes a slot -/
section
variable {X : Cx} {elt tg iter : Expr} {scope : Scope} {pos : Pos} {α : Type} {items : List α} {enc : α → D}
theorem lay_tr {G H : Hp} {F : List Addr} {q : Addr} {vs : List V} {ds : List D} {K : PySem.W.Frag} {δ : Env} {σ : L2.St} (o : Ok K G H F δ σ) (l : VwL K G vs ds) (hq : H q = none) : Tr G H F G (upd H q (.lst vs)) (F ++ [q]) ∧ Ok K G (upd H q (.lst vs)) F δ σ ∧ q ∉ F ∧ G q = none := by
  obtain ⟨m1, m2, m3⟩ := lay_l o.gh l hq
  refine ⟨⟨m1.gg, fun b u e _ => m1.hh b u e, fun b hb => ?_, fun b h k => .inr (m1.nw b h k), fun b u e => ⟨u, m1.hh b u e⟩⟩, o.new m1, fun h => ?_, o.gh.free hq⟩
  · rcases List.mem_append.mp hb with z | z
    · exact .inl z
    · rw [List.mem_singleton] at z
      rw [z]
      exact .inr hq
  · obtain ⟨⟨u, hu⟩, _⟩ := o.env.there q h
    rw [hq] at hu
    cases hu
theorem lcM_run (own : List (Str × Nat)) (δs : Nat → Env) (hs : Src X (δs 0) tg iter (items.map enc)) (f : Nat → D) (hz : items.length ≤ 1000000)
    (hb : ∀ i x, items[i]? = some x → ∃ δ' js, (∀ j ∈ js, j ∈ own.map (·.2)) ∧ ∀ X', Blk X scope X' → Tgt X' tg (enc x) (δs i) δ' js ∧ ∃ δ'', Evm X' δ' elt .S (f i) δ'' ∧ Le δ'' (δs (i + 1))) (hf : ∀ i, Free (δs i) (own.map (·.2)))
    (σ : L2.St) (H G : Hp) (F : List Addr) (o : Ok X.K G H F (δs 0) σ) (Q : VK)
    (q : ∀ v H' G' F' Fv, Tr G H F G' H' (F' ++ Fv) → Ok X.K G' H' F' (δs items.length) σ → (F' ++ Fv).Nodup → (∀ b ∈ Fv, G' b = none) → Rep X.K G' H' (.L .S) v (.lst ((List.range items.length).map f)) Fv → Q v H') :
    tLc (wI X tg iter) (fun v σ H Q => ∀ X', Blk X scope X' → wG X' tg v σ H Q) (fun σ H Q => ∀ X', Blk X scope X' → wTs X' [] σ H Q) (fun σ H Q => ∀ X', Blk X scope X' → wE X' elt σ H Q) (own.map (·.2)) σ H Q := by
  refine hs σ H G F o _ fun J H1 G1 n1 wk Dl hD => ?_
  refine ⟨fun i m H' => m = items.length - i ∧ i ≤ items.length ∧ ∃ G' F' acc, Tr G1 H1 F G' H' (F' ++ [Dl]) ∧ Ok X.K G' H' F' (δs i) σ ∧ H' Dl = some (.lst acc) ∧ G' Dl = none ∧ Dl ∉ F' ∧ VwL X.K G' acc ((List.range i).map f), ⟨items.length, by simp, Nat.zero_le _, ?_⟩, ?_⟩
  · obtain ⟨t1, t2, t3, t4⟩ := lay_tr (o.new n1) (.nil (K := X.K)) hD
    exact ⟨G1, F, [], t1, t2, upd_same, t4, t3, .nil⟩
  rintro i m H' ⟨rfl, hi, G', F', acc, tr1, o1, hacc, gD, nD, vl⟩
  by_cases hlt : i < items.length
  · refine .inr ⟨wk.go i H' (by rw [List.length_map]; exact hlt) (tr1.gg.trans o1.gh), fun H2 => i + 1 ≤ items.length ∧ ∃ G' F' acc, Tr G1 H1 F G' H2 (F' ++ [Dl]) ∧ Ok X.K G' H2 F' (δs (i + 1)) σ ∧ H2 Dl = some (.lst acc) ∧ G' Dl = none ∧ Dl ∉ F' ∧ VwL X.K G' acc ((List.range (i + 1)).map f),
      fun H2 q => ⟨items.length - (i + 1), by omega, rfl, q⟩, fun x H2 y => ?_⟩
    have hdi : items[i]? = some items[i] := by simp [hlt]
    obtain ⟨G2, n2, w2⟩ := wk.yld i H' G' x H2 (enc items[i]) (by rw [List.getElem?_map, hdi]; rfl) tr1.gg o1.gh y
    obtain ⟨δ', js, hjs, hb'⟩ := hb i items[i] hdi
    have o2 : Ok X.K G2 H2 F' (δs i) (wipe σ (own.map (·.2))) := (o1.new n2).wiped (hf i)
    have gD2 : G2 Dl = none := n2.own (F := [Dl]) (fun b hb => by rw [List.mem_singleton] at hb; rw [hb]; exact gD) (fun b hb => by
      rw [List.mem_singleton] at hb
      rw [hb]
      exact ⟨⟨_, hacc⟩, fun xs e => by rw [hacc] at e; cases e⟩) Dl (by simp)
    intro X1 b1
    have e1 := blk_K b1
    refine (hb' X1 b1).1 (wipe σ (own.map (·.2))) H2 G2 F' x (by rw [e1]; exact o2) (by rw [e1]; exact w2) _ ?_
    intro σ3 F3 o3 s3 p3
    have pw : wipe σ3 (own.map (·.2)) = wipe σ (own.map (·.2)) := (p3 _ hjs).trans (wipe_wipe σ _)
    refine ⟨pw, fun X2 b2 => ?_⟩
    have e2 := blk_K b2
    rw [e1] at o3
    refine etl_nil σ3 H2 G2 F3 (by rw [e2]; exact o3) _ fun H3 G3 n4 => ?_
    refine iteT fun X4 b4 => ?_
    have e4 := blk_K b4
    obtain ⟨δ'', hel, hle⟩ := (hb' X4 b4).2
    refine hel σ3 H3 G3 F3 (by rw [e4]; exact o3.new n4) _ fun v H4 G4 F4 Fv tr4 o4 nd4 un4 r4 => ?_
    rw [e4] at o4 r4
    obtain ⟨wv, rfl⟩ := r4.invS
    rw [List.append_nil] at tr4
    have nF3 : Dl ∉ F3 := fun z => nD (s3 Dl z)
    have hD3 : H3 Dl = some (.lst acc) := n4.hh _ _ (n2.hh _ _ hacc)
    have hD4 : H4 Dl = some (.lst acc) := tr4.keep Dl _ hD3 nF3
    have gD3 : G3 Dl = none := n4.own (F := [Dl]) (fun b hb => by rw [List.mem_singleton] at hb; rw [hb]; exact gD2) (fun b hb => by
      rw [List.mem_singleton] at hb
      rw [hb]
      exact ⟨⟨_, n2.hh _ _ hacc⟩, fun xs e => by rw [n2.hh _ _ hacc] at e; cases e⟩) Dl (by simp)
    have gD4 : G4 Dl = none := by
      cases z : G4 Dl with
      | none => rfl
      | some u =>
        rcases tr4.nw Dl gD3 (by rw [z]; intro h; cases h) with y | y | ⟨xs, y⟩
        · exact absurd y nF3
        · rw [hD3] at y
          cases y
        · rw [hD3] at y
          cases y
    have nF4 : Dl ∉ F4 := fun z => by
      rcases tr4.own Dl z with y | y
      · exact nF3 y
      · rw [hD3] at y
        cases y
    have nt4 : ∀ xs, H4 Dl ≠ some (.tup xs) := fun xs z => by rw [hD4] at z; cases z
    have o5 : Ok X.K G4 (upd H4 Dl (.lst (acc ++ [v]))) F4 δ'' σ3 := ⟨fun b u e => by
      rw [upd_ne (fun z => by rw [z, gD4] at e; cases e)]
      exact o4.gh b u e, o4.nd, o4.own, o4.env.stay (stay_upd nF4 nt4)⟩
    obtain ⟨F5, o6, sub6⟩ := o5.weak hle
    have o7 : Ok X.K G4 (upd H4 Dl (.lst (acc ++ [v]))) F5 (δs (i + 1)) σ := o6.unwiped (hf (i + 1)) pw
    have vl4 : VwL X.K G4 acc ((List.range i).map f) := vl.mono ((n2.gg.trans n4.gg).trans tr4.gg)
    have hal : acc.length = i := by rw [vl.length, List.length_map, List.length_range]
    refine ⟨acc, hD4, Nat.lt_of_le_of_lt (Nat.le_of_eq hal) (Nat.lt_of_lt_of_le hlt (Nat.le_trans hz (by decide))), hlt, G4, F5, acc ++ [v], ?_, o7, upd_same, gD4, fun z => nF4 (sub6 Dl z), ?_⟩
    · have n24 := n2.trans n4
      refine tr1.trans ⟨n24.gg.trans tr4.gg, fun b u e hb => ?_, fun b hb => ?_, fun b h k => ?_, fun b u e => ?_⟩
      · rw [List.mem_append, not_or, List.mem_singleton] at hb
        rw [upd_ne hb.2]
        exact tr4.keep b u (n24.hh b u e) fun z => hb.1 (s3 b z)
      · rcases List.mem_append.mp hb with z | z
        · rcases tr4.own b (sub6 b z) with y | y
          · exact .inl (List.mem_append_left _ (s3 b y))
          · exact .inr (none_of n24.hh y)
        · exact .inl (List.mem_append_right _ z)
      · by_cases g : G3 b = none
        · rcases tr4.nw b g k with y | y | ⟨xs, y⟩
          · exact .inl (List.mem_append_left _ (s3 b y))
          · exact .inr (.inl (none_of n24.hh y))
          · cases e2 : H' b with
            | none => exact .inr (.inl rfl)
            | some u2 =>
              have z2 := n24.hh b u2 e2
              rw [y] at z2
              exact .inr (.inr ⟨xs, z2.symm ▸ rfl⟩)
        · rcases n24.nw b h g with y | y
          · exact .inr (.inl y)
          · exact .inr (.inr y)
      · obtain ⟨u2, h2⟩ := tr4.al b u (n24.hh b u e)
        exact al_upd b u2 h2
    · rw [List.range_succ, List.map_append]
      exact vl4.app (.cons wv .nil)
  · have e : i = items.length := by omega
    subst e
    refine .inl ⟨wk.stop _ H' (Nat.le_of_eq (List.length_map ..)) (tr1.gg.trans o1.gh), q (.ref Dl) H' G' F' [Dl] (n1.tr.trans tr1) o1 (List.nodup_append.mpr ⟨o1.nd, by simp, fun x hx y hy z => ?_⟩) (fun b hb => ?_) (.L hacc (RepL.ofS vl))⟩
    · rw [List.mem_singleton] at hy
      subst z
      rw [hy] at hx
      exact nD hx
    · rw [List.mem_singleton] at hb
      rw [hb]
      exact gD
theorem evm_lcM (own : List (Str × Nat)) (hN : X.N.Nodup) (δs : Nat → Env) (hs : Src X (δs 0) tg iter (items.map enc)) (f : Nat → D) (hz : items.length ≤ 1000000)
    (hb : ∀ i x, items[i]? = some x → ∃ δ' js, (∀ j ∈ js, j ∈ own.map (·.2)) ∧ ∀ X', Blk X scope X' → Tgt X' tg (enc x) (δs i) δ' js ∧ ∃ δ'', Evm X' δ' elt .S (f i) δ'' ∧ Le δ'' (δs (i + 1))) (ok : BlkOk X.N X.env.scope scope own) (hf : ∀ i, Free (δs i) (own.map (·.2))) (hc : X.calm = true := by rfl)
    (hfo : ∀ x, foldedSetIterable iter X.env x = pure x := by intro _; rfl) : Evm X (δs 0) (.ListComp elt [⟨tg, iter, [], 0⟩] scope pos) (.L .S) (.lst ((List.range items.length).map f)) (δs items.length) := fun σ H G F o Q q =>
  ⟨_, lc_pe hc hN ok hfo, lcM_run own δs hs f hz hb hf σ H G F o Q q⟩
end
theorem turn_of {X : Cx} {δ δ' : Env} {tg elt : Expr} {ifs : List Expr} {scope : Scope} {vs js : List Nat} {d f : D} {keep : Bool} {sh : Shape} (h : ∀ X', Blk X scope X' → Tgt X' tg d δ δ' js ∧ EtL X' δ' ifs keep ∧ (keep = true → Ev X' δ' elt sh f)) (hj : ∀ j ∈ js, j ∈ vs) : Turn1 X δ tg elt ifs scope vs d keep sh f := ⟨δ', js, hj, h⟩
/-- return x, what is owned there goes out -/
theorem st_retO {X : Cx} {δ : Env} {Φ : Post} {s : Shape} {d : D} {n : Str} {p pos : Pos} (i : Nat) (q : Φ.rt s d) (hN : X.N[i]? = some n := by rfl) (hd : δ[i]? = some (some (s, d)) := by rfl) (hv : Vis X.env.scope n := by first | exact Or.inl rfl | exact Or.inr (Or.inl rfl) | exact Or.inr (Or.inr rfl))
    (h1 : (n == ("__debug__" : Str)) = false := by decide) (h2 : (n == ("__classdict__" : Str)) = false := by decide) : W3.St X δ (.Return (some (.Name n p)) pos) Φ :=
  st_retx i q hN hd hv h1 h2 fun {K G H σ F} e nd => by
    obtain ⟨v, Fi, a, b, c, u, _⟩ := e.at nd hd
    exact ⟨v, Fi, a, b, c, u⟩
/-- what a slot owns is frozen -/
theorem Ok.frz {K : PySem.W.Frag} {G H : Hp} {F : List Addr} {δ : Env} {σ : L2.St} {i : Nat} {s : Shape} {d : D} (ok : Ok K G H F δ σ) (hd : δ[i]? = some (some (s, d))) : ∃ G' F', Ok K G' H F' (δ.set i (some (.S, d))) σ ∧ Tr G H F G' H F' := by
  obtain ⟨v, Fi, h1, h2, h3, h4, h5⟩ := ok.env.at ok.nd hd
  obtain ⟨F', a, b, c⟩ := h5 (frzC G H Fi) H .S d [] frz_old (fun _ _ e => e) (fun _ _ _ _ e => e) (.S (h2.frzd ok.gh Fi fun _ z => z)) List.nodup_nil (fun b hb => by simp at hb)
  have cc : ∀ x ∈ F', x ∈ F ∧ x ∉ Fi := fun x hx => (c x hx).elim (fun z => by simp at z) id
  refine ⟨frzC G H Fi, F', ⟨frz_in ok.gh, b, fun x hx => ?_, a⟩, frz_old, fun _ _ e _ => e, fun x hx => .inl (cc x hx).1, fun x g k => ?_, fun _ o e => ⟨o, e⟩⟩
  · obtain ⟨p, q⟩ := cc x hx
    cases e : frzC G H Fi x with
    | none => rfl
    | some o =>
      rcases frz_new (F := Fi) (ok.own x p) (by rw [e]; intro z; cases z) with z | ⟨xs, z⟩
      · exact absurd z q
      · exact absurd z ((ok.env.there x p).2 xs)
  · rcases frz_new g k with z | z
    · exact .inl (h4 x z)
    · exact .inr (.inr z)
theorem sts_frz {X : Cx} {δ : Env} {sts : List Stmt} {Φ : Post} {s : Shape} {d : D} (i : Nat) (t : Sts X (δ.set i (some (.S, d))) sts Φ) (hd : δ[i]? = some (some (s, d)) := by rfl) : Sts X δ sts Φ := fun σ H G F o D W tk g => by
  obtain ⟨G', F', o', tr⟩ := o.frz hd
  exact t σ H G' F' o' D W tk (g.at tr)
end W3

/-! W3i: texts taken apart, pairs that own a list, borrowed slots. -/
namespace W3
open PySem PySem.Spec L2
section
variable {X : Cx} {δ δ' : Env} {e a b c : Expr} {es rest : List Expr} {s : Shape} {d da db : D} {ds es' : List D} {pos p : Pos} {n : Str} {k : Nat} {i j : Int} {Φ : Post}
/-- in a test a slot may be frozen -/
theorem Et.frz {l : Bool} (m : Nat) (h : Et X (δ.set m (some (.S, d))) e l) (hd : δ[m]? = some (some (s, d)) := by rfl) : Et X δ e l := fun σ H G F o Q q => by
  obtain ⟨G', F', o', tr⟩ := o.frz hd
  exact h σ H G' F' o' Q fun H1 G1 n => q H1 G ⟨n.hh, Same.refl _, o.gh.trans n.hh, fun b g k => absurd g k⟩
theorem Ev.bor {x : V} (m : Nat) (h : Er X (δ.set m (some (.S, da))) e d) (hs : sc d = some x) (hd : δ[m]? = some (some (s, da)) := by rfl) : Ev X δ e .S d := fun σ H G F o Q q => by
  obtain ⟨G', F', o', tr⟩ := o.frz hd
  exact h σ H G' F' o' Q fun v H1 G1 n w => by
    have z := w.sc hs
    subst z
    exact q v H1 G [] ⟨n.hh, Same.refl _, o.gh.trans n.hh, fun b g k => absurd g k⟩ own_nil (.S (vw_sc hs))
/-- what the items own is frozen, the list stays one's own -/
theorem Ok.frzIn {K : PySem.W.Frag} {G H : Hp} {F : List Addr} {δ : Env} {σ : L2.St} {i : Nat} {s : Shape} {ds : List D} (ok : Ok K G H F δ σ) (hd : δ[i]? = some (some (.L s, .lst ds))) : ∃ G' F', Ok K G' H F' (δ.set i (some (.L .S, .lst ds))) σ ∧ Tr G H F G' H F' := by
  obtain ⟨v, Fi, h1, h2, h3, h4, h5⟩ := ok.env.at ok.nd hd
  obtain ⟨ad, vs, Fe, rfl, hr, rl, rfl⟩ := h2.invL
  have fz : VwL K (frzC G H Fe) vs ds := rl.frzd ok.gh Fe fun _ z => z
  obtain ⟨na, _⟩ := List.nodup_cons.mp h3
  obtain ⟨F', a, b, c⟩ := h5 (frzC G H Fe) H (.L .S) (.lst ds) [ad] frz_old (fun _ _ e => e) (fun _ _ _ _ e => e) (.L hr (RepL.ofS fz)) (by simp) (fun b hb => .inl (by
    rw [List.mem_singleton] at hb
    rw [hb]
    exact List.mem_cons_self ..))
  have cc : ∀ x ∈ F', x ∈ F ∧ x ∉ Fe := fun x hx => (c x hx).elim (fun z => by
    rw [List.mem_singleton] at z
    rw [z]
    exact ⟨h4 ad (List.mem_cons_self ..), na⟩) fun z => ⟨z.1, fun y => z.2 (List.mem_cons_of_mem _ y)⟩
  refine ⟨frzC G H Fe, F', ⟨frz_in ok.gh, b, fun x hx => ?_, a⟩, frz_old, fun _ _ e _ => e, fun x hx => .inl (cc x hx).1, fun x g k => ?_, fun _ o e => ⟨o, e⟩⟩
  · obtain ⟨p, q⟩ := cc x hx
    cases e : frzC G H Fe x with
    | none => rfl
    | some o =>
      rcases frz_new (F := Fe) (ok.own x p) (by rw [e]; intro z; cases z) with z | ⟨xs, z⟩
      · exact absurd z q
      · exact absurd z ((ok.env.there x p).2 xs)
  · rcases frz_new g k with z | z
    · exact .inl (h4 x (List.mem_cons_of_mem _ z))
    · exact .inr (.inr z)
theorem sts_frzIn {sts : List Stmt} (i : Nat) (t : Sts X (δ.set i (some (.L .S, .lst ds))) sts Φ) (hd : δ[i]? = some (some (.L s, .lst ds)) := by rfl) : Sts X δ sts Φ := fun σ H G F o D W tk g => by
  obtain ⟨G', F', o', tr⟩ := o.frzIn hd
  exact t σ H G' F' o' D W tk (g.at tr)
/-- an item of one's own list of frozen items -/
theorem ev_ixO (m : Nat) {p1 : Pos} (hb : Er X δ b (.int i)) (hd : δ[m]? = some (some (.L .S, .lst ds))) (h : atI ds i = some d) (hN : X.N[m]? = some n := by rfl) (hv : Vis X.env.scope n := by first | exact Or.inl rfl | exact Or.inr (Or.inl rfl) | exact Or.inr (Or.inr rfl))
    (h1 : (n == ("__debug__" : Str)) = false := by decide) (h2 : (n == ("__classdict__" : Str)) = false := by decide) (hs : PlainIx b := by exact fun _ _ => rfl) : Ev X δ (.Subscript (.Name n p1) b pos) .S d := fun σ H G F o Q q => by
  obtain ⟨v, Fi, e1, r, sub⟩ := o.env.get hd
  obtain ⟨ad, vs, Fe, rfl, hr, rl, rfl⟩ := r.invL
  obtain ⟨l, _⟩ := rl.toS
  obtain ⟨y, ey, wy⟩ := atI_vw l h
  exact ⟨_, pe_ix ix_list (pe_var hN hv h1 h2) pe_w hs, _, e1, hb σ H G F o _ fun w H1 G1 n1 ww => ⟨_, _, i, y, rfl, ww.sc rfl, .inl (.inl (n1.hh _ _ hr)), ey, q y H1 G1 [] n1 own_nil (.S (wy.mono n1.gg))⟩⟩

/-! texts -/
theorem vwL_of_strs {K : PySem.W.Frag} {H : Hp} : ∀ ys : List Str, VwL K H (ys.map V.str) (ys.map D.str)
  | [] => .nil
  | y :: ys => .cons (.str y) (vwL_of_strs ys)
theorem ev_split {x y : Str} {apos : Pos} (ha : Er X δ a (.str x)) (hb : Er X δ b (.str y)) (h0 : (y.length == 0) = false) (hz : x.length ≤ 1000000) (hs : starEach [b] X.env = [(false, eval b X.env)] := by rfl)
    (hbase : attributeBase a "split" X.env (eval a X.env) = eval a X.env := by rfl) (hline : (apos.endLine == pos.line) = true := by rfl) : Ev X δ (.Call (.Attribute a "split" apos) [b] [] pos) (.L .S) (.lst ((Txt.split x y).map D.str)) := fun σ H G F o Q q =>
  ⟨_, pe_split pe_w pe_w hs hbase hline, ha σ H G F o _ fun u H1 G1 n1 w1 => ⟨⟨x, w1.sc rfl⟩, hb σ H1 G1 F (o.new n1) _ fun w H2 G2 n2 w2 => ⟨x, y, w1.sc rfl, by rw [w2.sc rfl], h0, by
    have : sizeLine = 16777216 := rfl
    omega, fun r hr => by
    obtain ⟨m1, m2, m3⟩ := lay_l n2.gh (vwL_of_strs (K := X.K) (H := G2) (Txt.split x y)) hr
    exact q _ _ G2 [r] ((n1.trans n2).trans m1) (own_after (n1.trans n2) m2) m3⟩⟩⟩
theorem ev_part {x y : Str} {apos : Pos} (ha : Er X δ a (.str x)) (hb : Er X δ b (.str y)) (h0 : (y.length == 0) = false) (hz : x.length ≤ 1000000) (hs : starEach [b] X.env = [(false, eval b X.env)] := by rfl)
    (hbase : attributeBase a "partition" X.env (eval a X.env) = eval a X.env := by rfl) (hline : (apos.endLine == pos.line) = true := by rfl) : Ev X δ (.Call (.Attribute a "partition" apos) [b] [] pos) .S (.tup [.str (Txt.partition x y).1, .str (Txt.partition x y).2.1, .str (Txt.partition x y).2.2]) := fun σ H G F o Q q =>
  ⟨_, pe_partition pe_w pe_w hs hbase hline, ha σ H G F o _ fun u H1 G1 n1 w1 => ⟨⟨x, w1.sc rfl⟩, hb σ H1 G1 F (o.new n1) _ fun w H2 G2 n2 w2 => ⟨x, y, w1.sc rfl, by rw [w2.sc rfl], h0, by
    have : sizeLine = 16777216 := rfl
    omega, fun r hr => by
    obtain ⟨m1, m2⟩ := lay_t (ds := [.str (Txt.partition x y).1, .str (Txt.partition x y).2.1, .str (Txt.partition x y).2.2]) (K := X.K) n2.gh (.cons (.str _) (.cons (.str _) (.cons (.str _) .nil))) hr
    exact q _ _ _ [] ((n1.trans n2).trans m1) own_nil (.S m2)⟩⟩⟩
theorem walk_s {K : PySem.W.Frag} {G0 : Hp} {x : Str} : Walk K (Its x) G0 (x.cps.toList.map fun c => D.str ⟨#[c]⟩) where
  go := fun i H hi e => by
    rw [List.length_map] at hi
    exact hi
  stop := fun i H hi e => by
    rw [List.length_map] at hi
    exact hi
  yld := fun i H G v H' d hd e0 e y => by
    obtain ⟨rfl, c, hc, rfl⟩ := y
    rw [List.getElem?_map, Array.getElem?_toList, hc] at hd
    cases hd
    exact ⟨G, .refl e, .str _⟩
theorem src_s {tg : Expr} {x : Str} (h : Er X δ e (.str x)) : Src X δ tg e (x.cps.toList.map fun c => D.str ⟨#[c]⟩) := fun σ H G F o R r => ⟨_, pi_str pe_w, h σ H G F o _ fun v H1 G1 n1 w => ⟨x, w.sc rfl, r _ H1 G1 n1 walk_s⟩⟩
theorem vwL_bls {K : PySem.W.Frag} {H : Hp} : ∀ {bs : List Bool} {vs : List V}, VwL K H vs (bs.map D.bl) → vs = bs.map V.bl
  | [], _, h => by
    cases h
    rfl
  | x :: bs, _, h => by
    rw [List.map_cons] at h
    cases h with
    | cons h1 h2 => rw [List.map_cons, h1.sc rfl, vwL_bls h2]
theorem ev_allL {bs : List Bool} (hm : X.mg "all" = none) (ha : Er X δ a (.lst (bs.map D.bl))) (hc : X.calm = true := by rfl) (hg : Gl X "all" := by rfl) (he : starEach [a] X.env = (false, eval a X.env) :: starEach [] X.env := by rfl) : Ev X δ (.Call (.Name "all" p) [a] [] pos) .S (.bl (bs.all id)) :=
  ev_cb (cr_all hc) hm (by decide +kernel) (ra_cons ha ra_nil he) rfl (fun vs H Q w q => by
    obtain ⟨x, rfl, w1⟩ := vwL1 w
    cases w1 with
    | lst h l =>
      rw [vwL_bls l] at h
      exact ⟨_, bs, rfl, .inl h, q⟩) hg (by decide) (by decide) he rfl
theorem ev_intS {y : Str} {z : Int} (hm : X.mg "int" = none) (ha : Er X δ a (.str y)) (hz : intText? y = some z) (hl : y.length ≤ 640) (hg : Gl X "int" := by rfl) (he : starEach [a] X.env = (false, eval a X.env) :: starEach [] X.env := by rfl) : Ev X δ (.Call (.Name "int" p) [a] [] pos) .S (.int z) :=
  ev_ct call_int_str hm (by decide +kernel) (ra_cons ha ra_nil he) rfl (fun vs H Q w q => by
    obtain ⟨x, rfl, w1⟩ := vwL1 w
    exact ⟨y, z, by rw [w1.sc rfl], hz, hl, q⟩) hg (by decide) (by decide) he rfl

/-! a pair that owns its second -/
theorem ev_tup2 {kk} (ha : Ev X δ a .S da) (hb : Ev X δ b s db) (hs2 : starEach [b] X.env = (false, eval b X.env) :: starEach [] X.env := by rfl) (hs1 : starEach [a, b] X.env = (false, eval a X.env) :: starEach [b] X.env := by rfl) : Ev X δ (.Tuple [a, b] kk pos) (.T [.S, s]) (.tup [da, db]) := fun σ H G F o Q q =>
  ⟨_, pe_tup (pa_cons pe_w (pa_cons pe_w pa_nil hs2) hs1), ha σ H G F o _ fun u H1 G1 F1 n1 ow1 r1 => hb σ H1 G1 F (o.new n1) _ fun w H2 G2 F2 n2 ow2 r2 => ⟨by show 2 ≤ sizeLine; decide, fun r hr => by
    obtain ⟨w1, rfl⟩ := r1.invS
    have g2 : G2 r = none := n2.gh.free hr
    have nx : New G2 H2 G2 (upd H2 r (.tup [u, w])) := ⟨same_new hr, Same.refl _, fun b x z => same_new hr b x (n2.gh b x z), fun b y z => absurd y z⟩
    have rt : RepT X.K G2 (upd H2 r (.tup [u, w])) [.S, s] [u, w] [da, db] ([] ++ (F2 ++ [])) := .cons (.S (w1.mono n2.gg)) (.cons (r2.stay (nx.stay F2)) .nil)
    rw [List.nil_append, List.append_nil] at rt
    exact q _ _ G2 F2 ((n1.trans n2).trans nx) (own_after n1 ow2) (.T upd_same rt)⟩⟩
theorem Rep.invT2 {K : PySem.W.Frag} {G H : Hp} {v : V} {dm : D} {ds : List D} {F : List Addr} (h : Rep K G H (.T [.S, .L .S]) v (.tup [dm, .lst ds]) F) : ∃ a u b vs, v = .ref a ∧ H a = some (.tup [u, .ref b]) ∧ Vw K G u dm ∧ H b = some (.lst vs) ∧ VwL K G vs ds ∧ F = [b] := by
  cases h with
  | T ha rt =>
    cases rt with
    | cons r1 rt =>
      cases rt with
      | cons r2 rt =>
        cases rt
        obtain ⟨w1, rfl⟩ := r1.invS
        obtain ⟨b, vs, Fe, rfl, hb, rl, rfl⟩ := r2.invL
        obtain ⟨l, rfl⟩ := rl.toS
        exact ⟨_, _, b, vs, rfl, ha, w1, hb, l, rfl⟩
theorem rep_T2 {K : PySem.W.Frag} {G H : Hp} {a b : Addr} {u : V} {vs : List V} {dm : D} {ds : List D} (ha : H a = some (.tup [u, .ref b])) (w : Vw K G u dm) (hb : H b = some (.lst vs)) (l : VwL K G vs ds) : Rep K G H (.T [.S, .L .S]) (.ref a) (.tup [dm, .lst ds]) [b] := by
  have rt : RepT K G H [.S, .L .S] [u, .ref b] [dm, .lst ds] ([] ++ ((b :: []) ++ [])) := .cons (.S w) (.cons (.L hb (RepL.ofS l)) .nil)
  exact .T ha rt
/-- x[1].append(e), x such a pair -/
theorem st_app1 (m : Nat) {p1 p2 p3 p4 : Pos} {jj} (h : Ev X δ e .S d) (hd : δ[m]? = some (some (.T [.S, .L .S], .tup [da, .lst ds]))) (q : Φ.nx (δ.set m (some (.T [.S, .L .S], .tup [da, .lst (ds ++ [d])])))) (hz : ds.length ≤ 1000000) (hN : X.N[m]? = some n := by rfl) (hv : Vis X.env.scope n := by first | exact Or.inl rfl | exact Or.inr (Or.inl rfl) | exact Or.inr (Or.inr rfl))
    (h1 : (n == ("__debug__" : Str)) = false := by decide) (h2 : (n == ("__classdict__" : Str)) = false := by decide) (hs2 : starEach [e] X.env = (false, eval e X.env) :: starEach [] X.env := by rfl)
    (hix : PlainIx (.Constant (.int 1) jj p4) := by exact fun _ _ => rfl)
    (hbase : attributeBase (.Subscript (.Name n p1) (.Constant (.int 1) jj p4) p3) "append" X.env (eval (.Subscript (.Name n p1) (.Constant (.int 1) jj p4) p3) X.env) = eval (.Subscript (.Name n p1) (.Constant (.int 1) jj p4) p3) X.env := by rfl)
    (hfew : ((backTo pos (starEach [e] X.env)).all (fun x => !x.1) && (backToKw pos (keywordEach [] X.env)).all (fun x => x.1.isSome) && decide (([e] : List Expr).length + ([] : List Keyword).length + (if ([] : List Keyword).isEmpty then 0 else 1) < 30)) = true := by rfl)
    (hline : (p2.endLine == pos.line) = true := by rfl) (hplain : (backTo pos (starEach [] X.env)).any (·.1) = false := by rfl) (hsw : swapsWith (.Call (.Attribute (.Subscript (.Name n p1) (.Constant (.int 1) jj p4) p3) "append" p2) [e] [] pos) none p.line X.env = pure false := by rfl) :
    St X δ (.Expr (.Call (.Attribute (.Subscript (.Name n p1) (.Constant (.int 1) jj p4) p3) "append" p2) [e] [] pos) p) Φ := fun σ H G F o D W tk g => by
  obtain ⟨v, Fi, e1, r, nd, sub, _⟩ := o.change hd
  obtain ⟨ad, u0, b0, vs0, rfl, hr, w0, hb0, l0, rfl⟩ := r.invT2
  refine ⟨_, ps_expr (pe_bm PySem.F.plainAttrs_list PySem.F.slot_list_append PySem.F.type_list_append mt_append (pe_ix ix_tup (pe_var hN hv h1 h2) pe_int hix) (pa_cons pe_w pa_nil hs2) hbase hfew hline hs2 hplain) hsw, _, e1, _, _, 1, .ref b0, rfl, rfl, .inl (.inl hr), rfl, .inl ⟨rfl, _, .inl (.inl hb0)⟩, h σ H G F o _ fun y H1 G1 Fv n1 ow ry => ?_⟩
  obtain ⟨v', Fi', e1', r', nd', sub', ch⟩ := (o.new n1).change hd
  rw [e1] at e1'
  cases e1'
  obtain ⟨ad', u, b1, vs, ea, hr', w1, hb1, l1, rfl⟩ := r'.invT2
  cases ea
  have hrr := n1.hh _ _ hr
  rw [hr'] at hrr
  cases hrr
  obtain ⟨wy, rfl⟩ := ry.invS
  refine ⟨_, _, _, rfl, rfl, hb1, by rw [l1.length]; exact Nat.lt_of_le_of_lt hz (by decide), ?_⟩
  have hin : b0 ∈ F := sub' b0 (List.mem_cons_self ..)
  have ne : ad ≠ b0 := fun z => by rw [z, hb1] at hr'; cases hr'
  obtain ⟨F2, ok2, sub2⟩ := ch (upd H1 b0 (.lst (vs ++ [y]))) (.T [.S, .L .S]) (.tup [da, .lst (ds ++ [d])]) [b0] (keep_upd (List.mem_cons_self ..))
    (rep_T2 (by rw [upd_ne ne]; exact hr') w1 upd_same (l1.app (.cons wy .nil))) (by simp) (fun b hb => .inl hb)
  refine g.nx _ σ G1 _ F2 q (tr_change (Fv := []) n1 hin (fun _ z => by simp at z) fun b hb => ?_) ok2
  rcases sub2 b hb with z | z
  · exact .inr (sub' b z)
  · exact .inr z
end
/-! for x in xs: x[1].append(e) -/
theorem RepL.at {K : PySem.W.Frag} {G H : Hp} {s : Shape} : ∀ {vs : List V} {ds : List D} {F : List Addr} {i : Nat} {x : V}, RepL K G H s vs ds F → F.Nodup → vs[i]? = some x → ∃ d Fx, ds[i]? = some d ∧ Rep K G H s x d Fx ∧ (∀ b ∈ Fx, b ∈ F) ∧
    ∀ (H' : Hp) (d' : D), (∀ c, c ∉ Fx → ∀ o, H c = some o → H' c = some o) → Rep K G H' s x d' Fx → RepL K G H' s vs (ds.set i d') F
  | _, _, _, _, _, .nil, _, h => by simp at h
  | _, _, _, 0, _, .cons (F1 := F1) (F2 := F2) r t, nd, h => by
    simp at h
    subst h
    refine ⟨_, F1, rfl, r, fun b hb => List.mem_append_left _ hb, fun H' d' keep r' => .cons r' (t.stay ⟨Same.refl _, fun b hb o e => keep b (fun z => (List.nodup_append.mp nd).2.2 b z b hb rfl) o e, fun b xs e => keep b (fun z => r.nt b z xs e) _ e⟩)⟩
  | _, _, _, i + 1, _, .cons (F1 := F1) (F2 := F2) r t, nd, h => by
    obtain ⟨d, Fx, a1, a2, a3, a4⟩ := RepL.at (i := i) t (List.nodup_append.mp nd).2.1 (by simpa using h)
    refine ⟨d, Fx, by simpa using a1, a2, fun b hb => List.mem_append_right _ (a3 b hb), fun H' d' keep r' => ?_⟩
    exact .cons (r.stay ⟨Same.refl _, fun b hb o e => keep b (fun z => (List.nodup_append.mp nd).2.2 b hb b (a3 b z) rfl) o e, fun b xs e => keep b (fun z => a2.nt b z xs e) _ e⟩) (a4 H' d' keep r')
theorem EnvR.skip {K : PySem.W.Frag} {G H : Hp} {o : Option V} : ∀ {δ : Env} {σ : L2.St} {F : List Addr} (j : Nat), δ[j]? = some none → EnvR K G H δ σ F → EnvR K G H δ (σ.set j o) F
  | _, _, _, _, h, .nil => by simp at h
  | _, _, _, 0, _, .any t => .any t
  | _, _, _, 0, h, .val _ _ => by simp at h
  | _, _, _, j + 1, h, .any t => .any (EnvR.skip j (by simpa using h) t)
  | _, _, _, j + 1, h, .val r t => .val r (EnvR.skip j (by simpa using h) t)
/-- the data of pairs -/
def pairD (t : D × List D) : D := .tup [t.1, .lst t.2]
section
variable {X : Cx} {δ : Env} {e : Expr} {d : D} {pos p : Pos} {n n2 : Str} {Φ : Post}
theorem st_forApp (m j : Nat) {items : List (D × List D)} {p0 p1 p2 p3 p4 px py : Pos} {jj} (hNd : X.N.Nodup) (h : ∀ ε, Ev X ε e .S d) (hj : δ[j]? = some none) (hd : δ[m]? = some (some (.L (.T [.S, .L .S]), .lst (items.map pairD)))) (q : Φ.nx (δ.set m (some (.L (.T [.S, .L .S]), .lst (items.map fun t => pairD (t.1, t.2 ++ [d])))))) (hz : ∀ t ∈ items, t.2.length ≤ 1000000)
    (hN : X.N[m]? = some n := by rfl) (hN2 : X.N[j]? = some n2 := by rfl) (hv : Vis X.env.scope n := by first | exact Or.inl rfl | exact Or.inr (Or.inl rfl) | exact Or.inr (Or.inr rfl)) (hv2 : Vis X.env.scope n2 := by first | exact Or.inl rfl | exact Or.inr (Or.inl rfl) | exact Or.inr (Or.inr rfl))
    (h1 : (n == ("__debug__" : Str)) = false := by decide) (h2 : (n == ("__classdict__" : Str)) = false := by decide) (h3 : (n2 == ("__debug__" : Str)) = false := by decide) (h4 : (n2 == ("__classdict__" : Str)) = false := by decide) (hs2 : starEach [e] X.env = (false, eval e X.env) :: starEach [] X.env := by rfl)
    (hx : Loc X.env.scope n2 := by first | exact Or.inl rfl | exact Or.inr rfl) (hfn : X.fn n2 = true ∨ X.env.scope.names.lookup n2 = some .local := by first | exact .inl rfl | exact .inr rfl | assumption)
    (hix : PlainIx (.Constant (.int 1) jj p4) := by exact fun _ _ => rfl) (hc : X.calm = true := by rfl) (hf : ∀ x, foldedSetIterable (.Name n p0) X.env x = pure x := by intro _; rfl)
    (hbase : attributeBase (.Subscript (.Name n2 p1) (.Constant (.int 1) jj p4) p3) "append" X.env (eval (.Subscript (.Name n2 p1) (.Constant (.int 1) jj p4) p3) X.env) = eval (.Subscript (.Name n2 p1) (.Constant (.int 1) jj p4) p3) X.env := by rfl)
    (hfew : ((backTo pos (starEach [e] X.env)).all (fun x => !x.1) && (backToKw pos (keywordEach [] X.env)).all (fun x => x.1.isSome) && decide (([e] : List Expr).length + ([] : List Keyword).length + (if ([] : List Keyword).isEmpty then 0 else 1) < 30)) = true := by rfl)
    (hline : (p2.endLine == pos.line) = true := by rfl) (hplain : (backTo pos (starEach [] X.env)).any (·.1) = false := by rfl) (hsw : swapsWith (.Call (.Attribute (.Subscript (.Name n2 p1) (.Constant (.int 1) jj p4) p3) "append" p2) [e] [] pos) none p.line X.env = pure false := by rfl)
    (hp : PassesOwn (model X.prog X.w) X.A X.env X.xe) :
    St X δ (.For (.Name n2 px) (.Name n p0) [.Expr (.Call (.Attribute (.Subscript (.Name n2 p1) (.Constant (.int 1) jj p4) p3) "append" p2) [e] [] pos) p] [] py) Φ := fun σ H G F o D W tk g => by
  obtain ⟨v, Fi, e1, r, sub⟩ := o.env.get hd
  obtain ⟨ad, vs, Fe, rfl, hr, rl, rfl⟩ := r.invL
  have hlen : vs.length = items.length := by rw [(rl.vw o.gh).length, List.length_map]
  have jm : j ≠ m := fun z => by rw [z, hd] at hj; cases hj
  have hdl : m < δ.length := (List.getElem?_eq_some_iff.mp hd).1
  refine ⟨_, ps_for hp hc (pi_list (pe_var hN hv h1 h2)) (pg_name hNd hN2 hx hfn) (pss_one (ps_expr (pe_bm PySem.F.plainAttrs_list PySem.F.slot_list_append PySem.F.type_list_append mt_append (pe_ix ix_tup (pe_var hN2 hv2 h3 h4) pe_int hix) (pa_cons pe_w pa_nil hs2) hbase hfew hline hs2 hplain) hsw)) hf, _, e1, ad, rfl, ⟨_, .inl (.inl hr)⟩, ?_⟩
  refine ⟨fun i z σ' H' => z = items.length - i ∧ i ≤ items.length ∧ ∃ G' F', Tr G H F G' H' F' ∧ Ok X.K G' H' F' (δ.set m (some (.L (.T [.S, .L .S]), .lst ((items.take i).map (fun t => pairD (t.1, t.2 ++ [d])) ++ (items.drop i).map pairD)))) σ' ∧ σ'[m]? = some (some (.ref ad)) ∧ H' ad = some (.lst vs), ⟨items.length, by simp, Nat.zero_le _, G, F, .refl, ?_, e1, hr⟩, ?_⟩
  · have e0 : (items.take 0).map (fun t => pairD (t.1, t.2 ++ [d])) ++ (items.drop 0).map pairD = items.map pairD := by simp
    rw [e0]
    have e2 : δ.set m (some (.L (.T [.S, .L .S]), .lst (items.map pairD))) = δ := by
      apply List.ext_getElem?
      intro k
      by_cases hk : k = m
      · subst hk
        rw [List.getElem?_set_self hdl, hd]
      · rw [List.getElem?_set_ne (fun z => hk z.symm)]
    rw [e2]
    exact o
  rintro i z σ' H' ⟨rfl, hi, G', F', tr, o', em, hv'⟩
  by_cases hlt : i < items.length
  · have hxi : vs[i]? = some (vs[i]'(by omega)) := List.getElem?_eq_getElem (by omega)
    refine .inr ⟨⟨vs, _, .inl (.inl hv'), hxi⟩, fun σ2 H2 => i + 1 ≤ items.length ∧ ∃ G' F', Tr G H F G' H2 F' ∧ Ok X.K G' H2 F' (δ.set m (some (.L (.T [.S, .L .S]), .lst ((items.take (i + 1)).map (fun t => pairD (t.1, t.2 ++ [d])) ++ (items.drop (i + 1)).map pairD)))) σ2 ∧ σ2[m]? = some (some (.ref ad)) ∧ H2 ad = some (.lst vs), fun σ2 H2 q => ⟨items.length - (i + 1), by omega, rfl, q⟩, fun x H2 y => ?_⟩
    obtain ⟨rfl, y⟩ := y
    have yx := y vs (.inl (.inl hv'))
    rw [hxi] at yx
    cases yx
    -- the slot of the item is written
    have hj2 : (δ.set m (some (.L (.T [.S, .L .S]), .lst ((items.take i).map (fun t => pairD (t.1, t.2 ++ [d])) ++ (items.drop i).map pairD))))[j]? = some none := by
      rw [List.getElem?_set_ne (fun z => jm z.symm)]
      exact hj
    have jlen : j < σ'.length := by
      rw [← o'.env.len]
      exact (List.getElem?_eq_some_iff.mp hj2).1
    have o2 : Ok X.K G' H2 F' _ (σ'.set j (some (vs[i]'(by omega)))) := ⟨o'.gh, o'.nd, o'.own, o'.env.skip j hj2⟩
    have ex : (σ'.set j (some (vs[i]'(by omega))))[j]? = some (some (vs[i]'(by omega))) := List.getElem?_set_self jlen
    have em2 : (σ'.set j (some (vs[i]'(by omega))))[m]? = some (some (.ref ad)) := by
      rw [List.getElem?_set_ne jm]
      exact em
    -- what it is
    have hd2 : (δ.set m (some (.L (.T [.S, .L .S]), .lst ((items.take i).map (fun t => pairD (t.1, t.2 ++ [d])) ++ (items.drop i).map pairD))))[m]? = some (some (.L (.T [.S, .L .S]), .lst ((items.take i).map (fun t => pairD (t.1, t.2 ++ [d])) ++ (items.drop i).map pairD))) := List.getElem?_set_self hdl
    have hdi : ((items.take i).map (fun t => pairD (t.1, t.2 ++ [d])) ++ (items.drop i).map pairD)[i]? = some (pairD items[i]) := by
      rw [List.getElem?_append_right (by simp; omega), List.length_map, List.length_take, Nat.min_eq_left hi, Nat.sub_self, List.getElem?_map, List.getElem?_drop, Nat.add_zero, List.getElem?_eq_getElem hlt]
      rfl
    obtain ⟨v3, Fi3, e3, r3, nd3, sub3, _⟩ := o2.change hd2
    rw [em2] at e3
    cases e3
    obtain ⟨ad3, vs3, Fe3, ea3, hr3, rl3, rfl⟩ := r3.invL
    cases ea3
    rw [hv'] at hr3
    cases hr3
    obtain ⟨d3, Fx3, f1, f2, f3, f4⟩ := rl3.at (List.nodup_cons.mp nd3).2 hxi
    rw [hdi] at f1
    cases f1
    obtain ⟨ta, u0, b0, ws0, ev0, ht0, w0, hb0, l0, rfl⟩ := f2.invT2
    refine ⟨_, ex, ?_⟩
    refine ⟨_, _, 1, .ref b0, ev0, rfl, .inl (.inl ht0), rfl, .inl ⟨rfl, _, .inl (.inl hb0)⟩, h _ _ H2 G' F' o2 _ fun yv H4 G4 Fv n4 ow ry => ?_⟩
    obtain ⟨wy, rfl⟩ := ry.invS
    have o4 := o2.new n4
    obtain ⟨v5, Fi5, e5, r5, nd5, sub5, ch5⟩ := o4.change hd2
    rw [em2] at e5
    cases e5
    obtain ⟨ad5, vs5, Fe5, ea5, hr5, rl5, rfl⟩ := r5.invL
    cases ea5
    have hv4 := n4.hh _ _ hv'
    rw [hv4] at hr5
    cases hr5
    obtain ⟨na5, ndd5⟩ := List.nodup_cons.mp nd5
    obtain ⟨d5, Fx5, g1, g2, g3, g4⟩ := rl5.at ndd5 hxi
    rw [hdi] at g1
    cases g1
    obtain ⟨tb, u5, b5, ws5, ev5, ht5, w5, hb5, l5, rfl⟩ := g2.invT2
    rw [ev0] at ev5
    cases ev5
    have hh := n4.hh _ _ ht0
    rw [ht5] at hh
    cases hh
    have inFe : b0 ∈ Fe5 := g3 b0 (by simp)
    have nad : ad ≠ b0 := fun z => na5 (z ▸ inFe)
    have nta : ta ≠ b0 := fun z => by rw [z, hb5] at ht5; cases ht5
    have hzi := hz _ (List.getElem_mem hlt)
    refine ⟨_, _, _, rfl, rfl, hb5, by rw [l5.length]; exact Nat.lt_of_le_of_lt hzi (by decide), ?_⟩
    have keep0 : ∀ c, c ∉ [b0] → ∀ o, H4 c = some o → upd H4 b0 (.lst (ws5 ++ [yv])) c = some o := fun c hc o e => by
      rw [upd_ne (fun z => hc (by rw [z]; simp))]
      exact e
    have newL := g4 (upd H4 b0 (.lst (ws5 ++ [yv]))) (pairD (items[i].1, items[i].2 ++ [d])) keep0 (by
      rw [ev0]
      exact rep_T2 (by rw [upd_ne nta]; exact ht5) w5 upd_same (l5.app (.cons wy .nil)))
    have eset : ((items.take i).map (fun t => pairD (t.1, t.2 ++ [d])) ++ (items.drop i).map pairD).set i (pairD (items[i].1, items[i].2 ++ [d])) = (items.take (i + 1)).map (fun t => pairD (t.1, t.2 ++ [d])) ++ (items.drop (i + 1)).map pairD := by
      rw [List.set_append_right _ _ (by simp; omega), List.length_map, List.length_take, Nat.min_eq_left hi, Nat.sub_self, List.drop_eq_getElem_cons hlt, List.map_cons, List.set_cons_zero, List.take_succ, List.getElem?_eq_getElem hlt, List.map_append, List.append_assoc]
      rfl
    rw [eset] at newL
    have hinF : b0 ∈ F' := sub5 b0 (List.mem_cons_of_mem _ inFe)
    obtain ⟨F6, ok6, sub6⟩ := ch5 (upd H4 b0 (.lst (ws5 ++ [yv]))) (.L (.T [.S, .L .S])) _ (ad :: Fe5) (fun c hc o e => keep0 c (fun z => hc (by rw [List.mem_singleton] at z; rw [z]; exact List.mem_cons_of_mem _ inFe)) o e)
      (.L (by rw [upd_ne nad]; exact hv4) newL) nd5 (fun b hb => .inl hb)
    rw [List.set_set] at ok6
    have tr4 : Tr G' H2 F' G4 (upd H4 b0 (.lst (ws5 ++ [yv]))) F6 := tr_change (Fv := []) n4 hinF (fun _ z => by simp at z) fun b hb => (sub6 b hb).elim (fun z => .inr (sub5 b z)) .inr
    exact ⟨hlt, G4, F6, tr.trans tr4, ok6, em2, by rw [upd_ne nad]; exact hv4⟩
  · have e : i = items.length := by omega
    subst e
    rw [List.take_length, List.drop_length, List.map_nil, List.append_nil] at o'
    exact .inl ⟨⟨vs, .inl (.inl hv'), by omega⟩, g.nx _ _ _ _ _ q tr o'⟩
end
theorem Ev.nil {X : Cx} {δ : Env} {e : Expr} {s : Shape} (h : Ev X δ e (.L .S) (.lst [])) : Ev X δ e (.L s) (.lst []) := fun σ H G F o Q q => h σ H G F o Q fun v H' G' Fv n ow r => by
  obtain ⟨a, vs, Fe, rfl, hr, rl, rfl⟩ := r.invL
  cases rl
  exact q _ H' G' [a] n ow (.L hr .nil)
end W3

/-! W3z: from the promise of law to the statement. -/
namespace W3
open PySem PySem.Spec L2
open PyProof.Rows
/-- no object of the module is a list: the script is none of them -/
def noLists (K : PySem.W.Frag) : Bool := K.all fun p => match p.2.cls with | .type t => !(t == "list") | _ => true
theorem noLists_at {o : Obj} {b : Addr} : ∀ {K : PySem.W.Frag}, noLists K = true → K.lookup b = some o → o.cls ≠ .type "list"
  | [], _, e => by cases e
  | (c, q) :: K, h, e => by
    unfold noLists at h
    rw [List.all_cons, Bool.and_eq_true] at h
    rw [List.lookup_cons] at e
    split at e
    · cases e
      intro z
      have h1 := h.1
      rw [z] at h1
      exact absurd h1 (by decide)
    · exact noLists_at (K := K) h.2 e
/-- what is tracked at first: the script alone -/
def seen0 (b0 : Addr) (us : List Value) (zs : List Int) : Hp := fun b => if b = b0 then some (.frz { cls := .type "list", data := .seq us.toArray } (.lst (zs.map V.int))) else none
theorem seen0_at {b0 : Addr} {us : List Value} {zs : List Int} : seen0 b0 us zs b0 = some (.frz { cls := .type "list", data := .seq us.toArray } (.lst (zs.map V.int))) := if_pos rfl
theorem seen0_off {b0 b : Addr} {us : List Value} {zs : List Int} (h : b ≠ b0) : seen0 b0 us zs b = none := if_neg h
section
variable {P : Program} {w : World} {K : PySem.W.Frag} {mg mb : Str → Option Value} {k : Nat} {fa b0 : Addr} {fd : FuncData} {x : Str} {C : Con} {t : Shared} {us : List Value} {zs : List Int}
theorem end_call (kin : K.In t.heap) (top : t.heap.Ns mainGlobals mg) (blt : t.heap.Ns builtinsNs mb) (boot : ∀ y : Str, y ≠ "__name__" → mb y = bootBuiltins y) (free : t.heap.NoLimit) (gen : t.gens = #[])
    (there : t.heap.get? b0 = some { cls := .type "list", data := .seq us.toArray }) (inz : IntsAre us zs) (few : zs.length ≤ sizeLine) (room : Rm k callerA) (nl : noLists K = true)
    (fn : ∀ base : Heap, K.In base → base.Ns mainGlobals mg → FnG P w K mg base k fa fd [x] (spC K C)) (bd : ∀ (s : Shared) (u : Value), BindsTo s fd ⟨[u], []⟩ [(x, u)]) (due : C [.lst (zs.map D.int)] (.ok .S (.bl true))) :
    codeAny (model P w) callerA (.call (.ref fa) ⟨[.ref b0], []⟩) (fun res z => res = .ok (.ret (.bool true)) ∧ OldK t.heap z.heap ∧ z.os = t.os ∧ AllBare z.gens) t := by
  have vz := vals_ints inz
  have lz := inz.length
  have notK : K.lookup b0 = none := by
    cases e : K.lookup b0 with
    | none => rfl
    | some o =>
      have e2 := kin b0 o e
      rw [there] at e2
      cases e2
      exact absurd rfl (noLists_at nl e)
  have okH : HOk P w (seen0 b0 us zs) t.heap := fun b u e => by
    by_cases hb : b = b0
    · subst hb
      have e2 := seen0_at.symm.trans e
      cases e2
      exact ⟨there, by rw [List.length_map]; exact few, us, _, vz, there⟩
    · have e2 := (seen0_off hb).symm.trans e
      cases e2
  have hides : ∀ {b : Addr} {o : Obj}, t.heap.get? b = some o → b ≠ b0 → (hidT t.heap (seen0 b0 us zs)).get? b = some o := fun e hb => hidT_get e (seen0_off hb)
  have dicts : ∀ {b : Addr} {o : Obj} {es : Array DictEntry} {ep : Nat}, t.heap.get? b = some o → o.data = .dict es ep → b ≠ b0 := fun {b o es ep} e hd hb => by
    subst hb
    rw [there] at e
    cases e
    exact nomatch (show Data.seq us.toArray 0 = Data.dict es ep from hd)
  have spaces : ∀ {b : Addr} {m : Str → Option Value}, t.heap.Ns b m → (hidT t.heap (seen0 b0 us zs)).Ns b m := fun ⟨o, es, ep, e, hd, rest⟩ => ⟨o, es, ep, hides e (dicts e hd), hd, rest⟩
  have kbase : K.In (hidT t.heap (seen0 b0 us zs)) := fun b o e => hides (kin b o e) fun hb => by
    rw [hb, notK] at e
    cases e
  have md : Mod K mg (hidT t.heap (seen0 b0 us zs)) := by
    obtain ⟨mc, f1, f2⟩ := free
    exact ⟨kbase, spaces top, ⟨mb, spaces blt, boot⟩, ⟨mc, spaces f1, f2⟩⟩
  have env : Env0 P w K mg (hidT t.heap (seen0 b0 us zs)) callerA [] t (seen0 b0 us zs) :=
    ⟨rfl, md, fun b o e => of_hidT e, Nat.le_of_eq (hidT_size _ _), trivial, (fun b hb => by cases hb), okH, .of_eq gen⟩
  have start : spC K C [.ref b0] (seen0 b0 us zs) (fun v _ => v = .bl true) fun _ _ _ => False :=
    ⟨[.lst (zs.map D.int)], .ok .S (.bl true), seen0 b0 us zs, due, Same.refl _, .cons (.lst (.inr ⟨_, seen0_at⟩) (vwL_of_ints zs)) .nil, fun v H' G' Fv _ _ r => (r.invS).1.sc rfl⟩
  refine codeAny_mono ((fn _ kbase (spaces top)).run callerA [] t (seen0 b0 us zs) ⟨[.ref b0], []⟩ [.ref b0] [.ref b0] _ _ room env (bd t (.ref b0)) (.cons rfl .nil) start) fun res z h => ?_
  match res, h with
  | .error e, h =>
    obtain ⟨_, _, _, _, _, _, _, _, _, _, _, _, no⟩ := h
    exact no.elim
  | .ok .next, h => exact False.elim h
  | .ok .brk, h => exact False.elim h
  | .ok .cont, h => exact False.elim h
  | .ok (.ret u), h =>
    obtain ⟨v, H', os, bare, un, okH', ru, hv⟩ := h
    cases (show v = .bl true from hv)
    obtain rfl : u = Value.bool true := ru
    refine ⟨rfl, OldK.of_keep fun b o e => ?_, os, bare⟩
    by_cases hb : b = b0
    · subst hb
      have z2 := un.frzs b _ _ seen0_at
      obtain ⟨e2, _⟩ := okH' b _ z2
      rw [there] at e
      cases e
      exact e2
    · exact un.keep b o e (seen0_off hb) (by intro q; cases q) (by simp)
end
/-- what k_head leaves, from the promise of law -/
theorem law_end {l : PySem.W.OpenLaw} {q : Program} {loose : List Str} {XP : (Str → Option Value) → Heap → Prop} {YP : World → Heap → Prop} {df : DefRec} {K : Params → PySem.W.Frag} {C : Con} {x : Str} {k : Nat}
    (most : l.most = some 63) (nodef : df.params.defaults = []) (room : Room k callerA) (inK : ∀ (w : World) (h : Heap), YP w h → (K w.params).In h) (due : ∀ zs : List Int, zs.length ≤ 63 → C [.lst (zs.map D.int)] (.ok .S (.bl true))) (nl : ∀ w : World, noLists (K w.params) = true)
    (fn : ∀ (w : World) (mg : Str → Option Value) (fa : Addr) (h : Heap), (K w.params).In h → h.Ns mainGlobals mg → mg df.name = some (.ref fa) →
      ∃ fd : FuncData, (∀ (s : Shared) (u : Value), BindsTo s fd ⟨[u], []⟩ [(x, u)]) ∧ ∀ base : Heap, (K w.params).In base → base.Ns mainGlobals mg → FnG l.prog w (K w.params) mg base k fa fd [x] (spC (K w.params) C)) :
    PySem.W.WalkO q loose XP YP l.row.toRowW df [] (fun f vs => PySem.call f vs) := by
  refine Att.attach_call most nodef fun w s0 t mg mb fa o pm cd doc b0 us zs gr Y ho hd hcd hmg there inz few gen => ?_
  have kin := inK w _ Y
  obtain ⟨fd, bd, go⟩ := fn w mg fa _ kin gr.T.g hmg
  exact end_call kin gr.T.g gr.T.b gr.T.builtins gr.T.nolimit gen there inz (Nat.le_trans few (by decide)) ⟨room, rfl⟩ (nl w) go bd (due zs few)
/-- a function of the module -/
theorem fnc_mk {P : Program} {w : World} {K : PySem.W.Frag} {mg : Str → Option Value} {base : Heap} {k : Nat} {n : Str} {f : Addr} {fd : FuncData} {ps : List Str} {C : Con} (g : mg n = some (.ref f)) (keep : PySem.W.keepIn K (.ref f) = true) (b : Binds K fd ps []) (F : FnG P w K mg base k f fd ps (spC K C)) : FnC P w K mg base k n C :=
  ⟨f, fd, ps, g, keep, b, F⟩
end W3

namespace KW
open PySem PySem.Spec L2 W3
def top (i : Nat) : Stmt := PySem.Challenge.pw_webtimes_k83_webs_read_back.main.body.getD i (.Pass ⟨0, 0, 0, 0⟩)
abbrev s_NoWeb__init_ : Stmt := inClass (top 2) 0
theorem sc_NoWeb__init_ : FnScope ["self", "part", "number"] ["self", "part", "number"] (defScope s_NoWeb__init_) := ⟨rfl, rfl, rfl, by decide +kernel, rfl, by decide +kernel, by decide +kernel⟩
abbrev s_NoWebs__init_ : Stmt := inClass (top 3) 0
theorem sc_NoWebs__init_ : FnScope ["self", "number"] ["self", "number"] (defScope s_NoWebs__init_) := ⟨rfl, rfl, rfl, by decide +kernel, rfl, by decide +kernel, by decide +kernel⟩
abbrev s_NoText__init_ : Stmt := inClass (top 4) 0
theorem sc_NoText__init_ : FnScope ["self", "part"] ["self", "part"] (defScope s_NoText__init_) := ⟨rfl, rfl, rfl, by decide +kernel, rfl, by decide +kernel, by decide +kernel⟩
abbrev s_is_whole : Stmt := top 8
theorem sc_is_whole : FnScope ["thing"] ["thing"] (defScope s_is_whole) := ⟨rfl, rfl, rfl, by decide +kernel, rfl, by decide +kernel, by decide +kernel⟩
abbrev s_is_within : Stmt := top 9
theorem sc_is_within : FnScope ["thing", "least", "most"] ["thing", "least", "most"] (defScope s_is_within) := ⟨rfl, rfl, rfl, by decide +kernel, rfl, by decide +kernel, by decide +kernel⟩
abbrev s_is_tie : Stmt := top 10
theorem sc_is_tie : FnScope ["many", "thing"] ["many", "thing"] (defScope s_is_tie) := ⟨rfl, rfl, rfl, by decide +kernel, rfl, by decide +kernel, by decide +kernel⟩
abbrev s_look_at_web : Stmt := top 11
theorem sc_look_at_web : FnScope ["thing", "many", "ties", "ahead", "number", "tie"] ["thing"] (defScope s_look_at_web) := ⟨rfl, rfl, rfl, by decide +kernel, rfl, by decide +kernel, by decide +kernel⟩
abbrev s_is_web : Stmt := top 12
theorem sc_is_web : FnScope ["thing"] ["thing"] (defScope s_is_web) := ⟨rfl, rfl, rfl, by decide +kernel, rfl, by decide +kernel, by decide +kernel⟩
abbrev s_look_at_webs : Stmt := top 15
theorem sc_look_at_webs : FnScope ["thing", "number", "web"] ["thing"] (defScope s_look_at_webs) := ⟨rfl, rfl, rfl, by decide +kernel, rfl, by decide +kernel, by decide +kernel⟩
abbrev s_written : Stmt := top 21
theorem sc_written : FnScope ["web", "one", "other"] ["web"] (defScope s_written) := ⟨rfl, rfl, rfl, by decide +kernel, rfl, by decide +kernel, by decide +kernel⟩
abbrev s_all_written : Stmt := top 22
theorem sc_all_written : FnScope ["webs", "web"] ["webs"] (defScope s_all_written) := ⟨rfl, rfl, rfl, by decide +kernel, rfl, by decide +kernel, by decide +kernel⟩
abbrev s_show_web : Stmt := top 23
theorem sc_show_web : FnScope ["web"] ["web"] (defScope s_show_web) := ⟨rfl, rfl, rfl, by decide +kernel, rfl, by decide +kernel, by decide +kernel⟩
abbrev s_show_webs : Stmt := top 24
theorem sc_show_webs : FnScope ["webs"] ["webs"] (defScope s_show_webs) := ⟨rfl, rfl, rfl, by decide +kernel, rfl, by decide +kernel, by decide +kernel⟩
abbrev s_number_by : Stmt := top 25
theorem sc_number_by : FnScope ["text", "sign"] ["text"] (defScope s_number_by) := ⟨rfl, rfl, rfl, by decide +kernel, rfl, by decide +kernel, by decide +kernel⟩
abbrev s_tie_by : Stmt := top 26
theorem sc_tie_by : FnScope ["word", "left", "between", "right"] ["word"] (defScope s_tie_by) := ⟨rfl, rfl, rfl, by decide +kernel, rfl, by decide +kernel, by decide +kernel⟩
abbrev s_read_web : Stmt := top 27
theorem sc_read_web : FnScope ["text", "words", "web", "word"] ["text"] (defScope s_read_web) := ⟨rfl, rfl, rfl, by decide +kernel, rfl, by decide +kernel, by decide +kernel⟩
abbrev s_read_webs : Stmt := top 28
theorem sc_read_webs : FnScope ["text", "webs", "number", "part", "e"] ["text"] (defScope s_read_webs) := ⟨rfl, rfl, rfl, by decide +kernel, rfl, by decide +kernel, by decide +kernel⟩
abbrev s_law_cell_at : Stmt := top 30
theorem sc_law_cell_at : FnScope ["script", "k"] ["script", "k"] (defScope s_law_cell_at) := ⟨rfl, rfl, rfl, by decide +kernel, rfl, by decide +kernel, by decide +kernel⟩
abbrev s_law_numbers : Stmt := top 31
theorem sc_law_numbers : FnScope ["cell", "salt", "sizes", "number", "left", "found", "k", "one"] ["cell", "salt", "sizes"] (defScope s_law_numbers) := ⟨rfl, rfl, rfl, by decide +kernel, rfl, by decide +kernel, by decide +kernel⟩
abbrev s_law_order : Stmt := top 32
theorem sc_law_order : FnScope ["digits", "names", "digit"] ["digits"] (defScope s_law_order) := ⟨rfl, rfl, rfl, by decide +kernel, rfl, by decide +kernel, by decide +kernel⟩
abbrev s_law_web : Stmt := top 33
theorem sc_law_web : FnScope ["cell", "salt", "most", "more", "loose", "many", "sizes", "digits", "order", "pairs", "ties", "one", "other", "k", "digit"] ["cell", "salt", "most", "more", "loose"] (defScope s_law_web) := ⟨rfl, rfl, rfl, by decide +kernel, rfl, by decide +kernel, by decide +kernel⟩
abbrev s_law_shown : Stmt := top 34
theorem sc_law_shown : FnScope ["web", "one", "other"] ["web"] (defScope s_law_shown) := ⟨rfl, rfl, rfl, by decide +kernel, rfl, by decide +kernel, by decide +kernel⟩
abbrev s_law_read : Stmt := top 35
theorem sc_law_read : FnScope ["web", "text", "turn", "found"] ["web"] (defScope s_law_read) := ⟨rfl, rfl, rfl, by decide +kernel, rfl, by decide +kernel, by decide +kernel⟩
abbrev s_law_all_read : Stmt := top 36
theorem sc_law_all_read : FnScope ["webs", "text", "turn", "found", "one", "web"] ["webs"] (defScope s_law_all_read) := ⟨rfl, rfl, rfl, by decide +kernel, rfl, by decide +kernel, by decide +kernel⟩
abbrev s_law : Stmt := top 37
theorem sc_law : FnScope ["script", "ties", "one", "webs", "at", "cell", "size", "other"] ["script"] (defScope s_law) := ⟨rfl, rfl, rfl, by decide +kernel, rfl, by decide +kernel, by decide +kernel⟩
/-! ### what the top leaves of built-in names -/
structure Txt (mg : Str → Option Value) : Prop where
  b_isinstance : mg "isinstance" = none
  b_int : mg "int" = none
  b_bool : mg "bool" = none
  b_tuple : mg "tuple" = none
  b_list : mg "list" = none
  b_dict : mg "dict" = none
  b_str : mg "str" = none
  b_len : mg "len" = none
  b_range : mg "range" = none
  b_enumerate : mg "enumerate" = none
  b_zip : mg "zip" = none
  b_max : mg "max" = none
  b_min : mg "min" = none
  b_sum : mg "sum" = none
  b_all : mg "all" = none
  b_any : mg "any" = none
  b_repr : mg "repr" = none
  b_sorted : mg "sorted" = none
theorem log_small {i : Int} (h0 : 0 ≤ i) (h1 : i ≤ 1000000) : i.natAbs.log2 < 1920 := by
  have h : i.natAbs < 2 ^ 1920 := by
    have : i.natAbs ≤ 1000000 := by omega
    exact Nat.lt_of_le_of_lt this (by decide +kernel)
  by_cases z : i.natAbs = 0
  · rw [z]
    decide
  · exact (Nat.log2_lt z).mpr h
local macro_rules | `(tactic| walk_at "sd") => `(tactic| first | omega | decide | (exact log_small (by omega) (by omega)) | (refine ⟨?_, ?_⟩ <;> omega))
local macro_rules | `(tactic| walk_at "sz") => `(tactic| first | decide | omega | (simp; omega) | (simp))
local macro_rules | `(tactic| walk_at "js") => `(tactic| (intro j hj; simp at hj ⊢; omega))
local macro_rules | `(tactic| walk_at "mul") => `(tactic| first | exact Or.inl ⟨by omega, by omega⟩ | exact Or.inr ⟨by omega, by omega⟩)
local macro_rules | `(tactic| walk_at "div") => `(tactic| exact ⟨by omega, by omega⟩)
local macro_rules | `(tactic| walk_at "pow") => `(tactic| exact ⟨by decide, by decide, by decide⟩)
/-! ### webs as data -/
abbrev Tie := Int × Int
abbrev Web := Int × List Tie
def encTie (t : Tie) : W3.D := .tup [.int t.1, .int t.2]
def encWeb (w : Web) : W3.D := .tup [.int w.1, .lst (w.2.map encTie)]
def TieOk (m : Int) (t : Tie) : Prop := 0 ≤ t.1 ∧ t.1 < t.2 ∧ t.2 < m
/-- in the order of pairs -/
def ltP (s t : Tie) : Prop := s.1 < t.1 ∨ (s.1 = t.1 ∧ s.2 < t.2)
structure WebOk (w : Web) : Prop where
  lo : 1 ≤ w.1
  hi : w.1 ≤ 40
  few : w.2.length ≤ 120
  ok : ∀ t ∈ w.2, TieOk w.1 t
  up : w.2.Pairwise ltP
theorem leT2 (a b c d : Int) : leT [a, b] [c, d] = (decide (a < c) || (decide (a = c) && decide (b ≤ d))) := by
  show (if decide (a = c) = true then (if decide (b = d) = true then decide (2 ≤ 2) else decide (b ≤ d)) else decide (a ≤ c)) = _
  by_cases h : a = c
  · subst h
    rw [if_pos (decide_eq_true rfl)]
    by_cases k : b = d
    · subst k
      simp
    · rw [if_neg (by simp [k])]
      simp
  · rw [if_neg (by simp [h])]
    by_cases k : a ≤ c
    · have : a < c := by omega
      simp [k, this]
    · have : ¬ a < c := by omega
      simp [k, this, h]
/-! ### items by place -/
theorem ix_up {n : Nat} {i : Int} (h0 : 0 ≤ i) (h1 : i < n) : ixN n i = some i.toNat := by
  unfold ixN
  rw [if_pos h0, if_pos h1]
theorem ix_dn {n : Nat} {i : Int} (h0 : i < 0) (h1 : 0 ≤ i + n) : ixN n i = some (i + n).toNat := by
  unfold ixN
  rw [if_neg (by omega), if_pos (by omega)]
theorem at_up {α : Type} {ds : List α} {d : α} {i : Int} (h0 : 0 ≤ i) (h : ds[i.toNat]? = some d) : atI ds i = some d := by
  obtain ⟨hl, _⟩ := List.getElem?_eq_some_iff.mp h
  unfold atI
  rw [ix_up h0 (by omega)]
  exact h
theorem at_dn {α : Type} {ds : List α} {d : α} {i : Int} (h0 : i < 0) (h1 : 0 ≤ i + ds.length) (h : ds[(i + ds.length).toNat]? = some d) : atI ds i = some d := by
  unfold atI
  rw [ix_dn h0 h1]
  exact h

/-! ### webtimes/webs.py -/
def isInt : W3.D → Bool
  | .int _ => true
  | _ => false
def c_is_whole : Con := fun ds r => ∃ d t, ds = [d] ∧ tyD d = some t ∧ r = .ok .S (.bl (isInt d))
def inRange : W3.D → Int → Int → Bool
  | .int x, i, j => decide (i ≤ x) && decide (x ≤ j)
  | _, _, _ => false
def c_is_within : Con := fun ds r => ∃ d t i j, ds = [d, .int i, .int j] ∧ tyD d = some t ∧ r = .ok .S (.bl (inRange d i j))
/-- what has a type that is told -/
def plain (d : W3.D) : Prop := ∃ t, tyD d = some t
def isTieD (m : Int) : W3.D → Bool
  | .tup [x, y] => inRange x 0 (m - 1) && inRange y 0 (m - 1) && (match x, y with | .int a, .int b => decide (a < b) | _, _ => false)
  | _ => false
def flat (d : W3.D) : Prop := plain d ∧ ∀ ds, d = .tup ds → ∀ x ∈ ds, plain x
def c_is_tie : Con := fun ds r => ∃ d m, ds = [.int m, d] ∧ flat d ∧ r = .ok .S (.bl (isTieD m d))
theorem inRange_int {d : W3.D} {i j : Int} (h : inRange d i j = true) : ∃ x, d = .int x := by
  cases d <;> simp [inRange] at h
  exact ⟨_, rfl⟩
section
variable {P : Program} {w : World} {K : PySem.W.Frag} {mg : Str → Option Value} {base : Heap} {f : Addr} {fd : FuncData}
theorem ok_is_whole (F : Fun K "is_whole" "is_whole" s_is_whole f fd) (T : Txt mg) : FnG P w K mg base 1 f fd ["thing"] (spC K c_is_whole) := by
  refine def_ok F sc_is_whole (by rintro ds r ⟨d, t, rfl, _⟩; rfl) (fun cdv A outer s H E hr ds r hc => ?_)
  obtain ⟨d, t, rfl, ht, rfl⟩ := hc
  cases d <;> simp [tyD] at ht <;> subst ht
  all_goals exact sts_last (st_ret (ev_and (Ev.er (ev_isi "int" T.b_isinstance (er_nm 0) T.b_int)) fun _ => Ev.er (ev_one (Ev.er (ev_not (Ev.er (ev_isi "bool" T.b_isinstance (er_nm 0) T.b_bool)))))) (by rfl))
theorem ok_is_within (F : Fun K "is_within" "is_within" s_is_within f fd) (T : Txt mg) (H_is_whole : FnC P w K mg base 1 "is_whole" c_is_whole) : FnG P w K mg base 2 f fd ["thing", "least", "most"] (spC K c_is_within) := by
  refine def_ok F sc_is_within (by rintro ds r ⟨d, t, i, j, rfl, _⟩; rfl) (fun cdv A outer s H E hr ds r hc => ?_)
  obtain ⟨d, t, i, j, rfl, ht, rfl⟩ := hc
  cases d <;> simp [tyD] at ht <;> subst ht
  all_goals first
    | exact sts_last (st_ret (ev_and (Ev.er (ev_call H_is_whole (hr.mono (by decide)) (ea_cons (ev_nm 0) ea_nil) ⟨_, _, by rfl, by rfl, by rfl⟩)) fun h_and => Ev.er (ev_one (Ev.er (ev_chain ci_le ci_le (er_nm 1) (er_nm 0) fun _ => (er_nm 2))))) (by rfl))
    | exact sts_last (st_ret (ev_and (l := false) (Ev.er (ev_call H_is_whole (hr.mono (by decide)) (ea_cons (ev_nm 0) ea_nil) ⟨_, _, by rfl, by rfl, by rfl⟩)) fun h_and => by cases h_and) (by rfl))
theorem ok_is_tie (F : Fun K "is_tie" "is_tie" s_is_tie f fd) (T : Txt mg) (H_is_within : FnC P w K mg base 2 "is_within" c_is_within) : FnG P w K mg base 3 f fd ["many", "thing"] (spC K c_is_tie) := by
  refine def_ok F sc_is_tie (by rintro ds r ⟨d, m, rfl, _⟩; rfl) (fun cdv A outer s H E hr ds r hc => ?_)
  obtain ⟨d, m, rfl, ⟨⟨t, ht⟩, hp⟩, rfl⟩ := hc
  by_cases htup : ∃ l, d = .tup l
  · obtain ⟨l, rfl⟩ := htup
    by_cases hl : l.length = 2
    · obtain ⟨x, y, rfl⟩ : ∃ x y, l = [x, y] := by
        match l, hl with
        | [x, y], _ => exact ⟨x, y, rfl⟩
      obtain ⟨tx, hx⟩ := hp _ rfl x (by simp)
      obtain ⟨ty, hy⟩ := hp _ rfl y (by simp)
      refine sts_ifF (Et.eq (et_w (ew_or (et_not (et_ev (Ev.er (ev_isi "tuple" T.b_isinstance (er_nm 1) T.b_tuple)))) fun h_or => (ew_or1 (et_cm (Ev.er (ev_lenT T.b_len (er_nm 1))) (Ev.er ev_int) cm_neI)))) (by rfl)) ?_
      refine sts_if (et_w (ew_or (et_not (et_ev (Ev.er (ev_call H_is_within (hr.mono (by decide)) (ea_cons (ev_ixT (ev_nm 1) (Ev.er ev_int) (by rfl)) (ea_cons ev_int (ea_cons (ev_sub (er_nm 0) (Ev.er ev_int)) ea_nil))) ⟨_, _, _, _, by rfl, hx, by rfl⟩)))) fun h_or => (ew_or1 (et_not (et_ev (Ev.er (ev_call H_is_within (hr.mono (by decide)) (ea_cons (ev_ixT (ev_nm 1) (Ev.er ev_int) (by rfl)) (ea_cons ev_int (ea_cons (ev_sub (er_nm 0) (Ev.er ev_int)) ea_nil))) ⟨_, _, _, _, by rfl, hy, by rfl⟩))))))) (fun hif => ?_) (fun hif => ?_)
      · refine sts_last (st_ret ev_bl ?_)
        show Res.ok _ _ = Res.ok _ _
        have : isTieD m (.tup [x, y]) = false := by
          simp only [isTieD]
          cases h1 : inRange x 0 (m - 1) <;> cases h2 : inRange y 0 (m - 1) <;> simp [h1, h2] at hif ⊢
        rw [this]
      · refine sts_nil ?_
        have h1 : inRange x 0 (m - 1) = true := by
          cases h1 : inRange x 0 (m - 1) <;> simp [h1] at hif ⊢
        have h2 : inRange y 0 (m - 1) = true := by
          cases h2 : inRange y 0 (m - 1) <;> simp [h1, h2] at hif ⊢
        obtain ⟨a, rfl⟩ := inRange_int h1
        obtain ⟨b, rfl⟩ := inRange_int h2
        refine sts_last (st_ret (ev_cm (er_ixT (er_nm 1) (Ev.er ev_int) (by rfl)) (er_ixT (er_nm 1) (Ev.er ev_int) (by rfl)) cm_lt) ?_)
        show Res.ok _ _ = Res.ok _ _
        simp only [isTieD, h1, h2, Bool.and_self, Bool.true_and]
    · refine sts_ifT (Et.eq (et_w (ew_or (et_not (et_ev (Ev.er (ev_isi "tuple" T.b_isinstance (er_nm 1) T.b_tuple)))) fun h_or => (ew_or1 (et_cm (Ev.er (ev_lenT T.b_len (er_nm 1))) (Ev.er ev_int) cm_neI)))) (by simp; omega)) ?_
      refine sts_last (st_ret ev_bl ?_)
      show Res.ok _ _ = Res.ok _ _
      have : isTieD m (.tup l) = false := by
        unfold isTieD
        split
        · rename_i h
          cases h
          simp at hl
        · rfl
      rw [this]
  · cases d <;> simp [tyD] at ht <;> subst ht
    case tup l => exact absurd ⟨l, rfl⟩ htup
    all_goals
      refine sts_ifT (Et.eq (et_w (ew_or (l := true) (et_not (et_ev (Ev.er (ev_isi "tuple" T.b_isinstance (er_nm 1) T.b_tuple)))) fun h_or => by cases h_or)) (by rfl)) ?_
      exact sts_last (st_ret ev_bl (by rfl))
/-- of webs -/
def c_look_at_web : Con := fun ds r => ∃ w, WebOk w ∧ ds = [encWeb w] ∧ r = .ok .S .non
theorem flat_tie (t : Tie) : flat (encTie t) := ⟨⟨_, rfl⟩, fun ds e x hx => by
  cases e
  simp at hx
  rcases hx with rfl | rfl
  · exact ⟨_, rfl⟩
  · exact ⟨_, rfl⟩⟩
theorem isTie_ok {m : Int} {t : Tie} (h : TieOk m t) : isTieD m (encTie t) = true := by
  obtain ⟨h1, h2, h3⟩ := h
  simp only [isTieD, encTie, inRange]
  simp
  omega
def aheadD (ts : List Tie) (i : Nat) : Tie := if i = 0 then (-1, -1) else ts.getD (i - 1) (-1, -1)
theorem ahead_lt {m : Int} {ts : List Tie} (hp : ts.Pairwise ltP) (hk : ∀ t ∈ ts, TieOk m t) {i : Nat} {t : Tie} (ht : ts[i]? = some t) : ltP (aheadD ts i) t := by
  unfold aheadD
  split
  · obtain ⟨h1, h2, h3⟩ := hk t (List.mem_of_getElem? ht)
    left
    show (-1 : Int) < t.1
    omega
  · rename_i h0
    obtain ⟨hi, e⟩ := List.getElem?_eq_some_iff.mp ht
    rw [List.getD_eq_getElem?_getD, List.getElem?_eq_getElem (show i - 1 < ts.length by omega)]
    have := List.pairwise_iff_getElem.mp hp (i - 1) i (by omega) hi (by omega)
    rw [e] at this
    exact this
theorem ok_look_at_web (F : Fun K "look_at_web" "look_at_web" s_look_at_web f fd) (T : Txt mg) (g_MOST_PLACES : ∃ t, mg "MOST_PLACES" = some (.int 40 t)) (g_MOST_TIES : ∃ t, mg "MOST_TIES" = some (.int 120 t))
    (H_is_within : FnC P w K mg base 2 "is_within" c_is_within) (H_is_tie : FnC P w K mg base 3 "is_tie" c_is_tie) : FnG P w K mg base 4 f fd ["thing"] (spC K c_look_at_web) := by
  refine def_ok F sc_look_at_web (by rintro ds r ⟨w, _, rfl, _⟩; rfl) (fun cdv A outer s H E hr ds r hc => ?_)
  obtain ⟨⟨m, ts⟩, ⟨lo, hi, few, ok, up⟩, rfl, rfl⟩ := hc
  -- if not isinstance(thing, tuple) or len(thing) != 2:
  refine sts_ifF (Et.eq (et_w (ew_or (et_not (et_ev (Ev.er (ev_isi "tuple" T.b_isinstance (er_nm 0) T.b_tuple)))) fun h_or => (ew_or1 (et_cm (Ev.er (ev_lenT T.b_len (er_nm 0))) (Ev.er ev_int) cm_neI)))) (by rfl)) ?_
  -- many, ties = thing
  refine sts_next (st_asg (ev_nm 0) (tgt_tup (tgts_cons (tgt_nm 1 sc_look_at_web.nd) (tgts_cons (tgt_nm 2 sc_look_at_web.nd) tgts_nil))) (by rfl)) ?_
  -- if not is_within(many, 1, MOST_PLACES):
  refine sts_ifF (Et.eq (et_not (et_ev (Ev.er (ev_call H_is_within (hr.mono (by decide)) (ea_cons (ev_nm 1) (ea_cons ev_int (ea_cons (ev_glI g_MOST_PLACES) ea_nil))) ⟨_, _, _, _, by rfl, by rfl, by rfl⟩)))) (by simp [inRange]; exact ⟨lo, hi⟩)) ?_
  -- if not isinstance(ties, list) or len(ties) > MOST_TIES:
  refine sts_ifF (Et.eq (et_w (ew_or (et_not (et_ev (Ev.er (ev_isi "list" T.b_isinstance (er_nm 2) T.b_list)))) fun h_or => (ew_or1 (et_cm (Ev.er (ev_lenL T.b_len (er_nm 2))) (Ev.er (ev_glI g_MOST_TIES)) cm_gt)))) (by simp; simp at few; omega)) ?_
  -- ahead = (-1, -1)
  refine sts_next (st_set 3 sc_look_at_web.nd (ev_tup (ea_cons (ev_neg (Ev.er ev_int)) (ea_cons (ev_neg (Ev.er ev_int)) ea_nil)) (by decide)) (by rfl)) ?_
  -- for number, tie in enumerate(ties):
  refine sts_last (st_for PassesOwn.leaving (src_enum T.b_enumerate (ev_nm 2)) (fun i => [some (.S, encWeb (m, ts)), some (.S, .int m), some (.S, .lst (ts.map encTie)), some (.S, encTie (aheadD ts i)), none, none]) (.eq (by rfl) (.eq (by rfl) (.eq (by rfl) (.eq (by rfl) (.any (.any .nil)))))) (fun i d hd => ?_) rfl)
  obtain ⟨x, hx, rfl⟩ := enumD_get hd
  rw [List.getElem?_map] at hx
  cases ht : ts[i]? with
  | none =>
    rw [ht] at hx
    cases hx
  | some t =>
    rw [ht] at hx
    cases hx
    refine ⟨_, _, (tgt_tup (tgts_cons (tgt_nm 4 sc_look_at_web.nd) (tgts_cons (tgt_nm 5 sc_look_at_web.nd) tgts_nil))), ?_⟩
    have a1 := ahead_lt up ok ht
    have a2 := ok t (List.mem_of_getElem? ht)
    obtain ⟨t1, t2⟩ := t
    have hah : ∃ a b, aheadD ts i = (a, b) := ⟨_, _, rfl⟩
    obtain ⟨a, b, hab⟩ := hah
    rw [hab] at a1
    -- if not is_tie(many, tie) or tie <= ahead:
    refine sts_ifF (Et.eq (et_w (ew_or (et_not (et_ev (Ev.er (ev_call H_is_tie (hr.mono (by decide)) (ea_cons (ev_nm 1) (ea_cons (ev_nm 5) ea_nil)) ⟨encTie (t1, t2), m, by rfl, flat_tie _, by rfl⟩)))) fun h_or => (ew_or1 (et_cm (er_nm 5) (er_nm 3) (cm_leT [t1, t2] [(aheadD ts i).1, (aheadD ts i).2] hr))))) ?_) ?_
    · rw [isTie_ok a2, leT2, hab]
      have a1' : a < t1 ∨ (a = t1 ∧ b < t2) := a1
      simp
      omega
    -- ahead = tie
    refine sts_last (st_set 3 sc_look_at_web.nd (ev_nm 5) (.eq (by rfl) (.eq (by rfl) (.eq (by rfl) (.eq ?_ (.any (.any .nil)))))))
    show some (Shape.S, encTie (t1, t2)) = some (Shape.S, encTie (aheadD ts (i + 1)))
    have : aheadD ts (i + 1) = (t1, t2) := by
      unfold aheadD
      rw [if_neg (by omega), List.getD_eq_getElem?_getD, Nat.add_sub_cancel, ht]
      rfl
    rw [this]
end

/-! ### webtimes/rows.py, texts.py -/
def fig (n : Nat) : Str := Str.ofString (toString (n : Int))
theorem fig_lo : ∀ n : Nat, n < 10 → fig n = ⟨#[48 + n]⟩ := by decide +kernel
theorem fig_hi : ∀ n : Nat, n < 200 → 9 < n → fig n = fig (n / 10) ++ ⟨#[48 + n % 10]⟩ := by decide +kernel
theorem fig_len : ∀ n : Nat, n < 200 → (fig n).length ≤ 3 := by decide +kernel
theorem int_len {i : Int} (h0 : 0 ≤ i) (h1 : i < 200) : (Str.ofString (toString i)).length ≤ 3 := by
  obtain ⟨n, rfl⟩ := Int.eq_ofNat_of_zero_le h0
  exact fig_len n (by omega)
theorem join_len (z : Str) : ∀ ys : List Str, (Txt.join z ys).length ≤ (ys.map (·.length)).sum + ys.length * z.length := by
  intro ys
  rw [show Txt.join z ys = Str.join z ys from StrLaws.glued_eq_join z ys]
  induction ys with
  | nil => exact Nat.zero_le _
  | cons y ys ih =>
    cases ys with
    | nil =>
      show y.length ≤ _
      simp
    | cons y2 ys =>
      show (y ++ z ++ Str.join z (y2 :: ys)).length ≤ _
      rw [len_app, len_app, List.map_cons, List.sum_cons, List.length_cons, Nat.succ_mul]
      omega
theorem sum_le {α : Type} (f : α → Nat) (B : Nat) : ∀ xs : List α, (∀ x ∈ xs, f x ≤ B) → (xs.map f).sum ≤ xs.length * B
  | [], _ => by simp
  | x :: xs, h => by
    have h1 := h x (by simp)
    have h2 := sum_le f B xs fun y hy => h y (by simp [hy])
    rw [List.map_cons, List.sum_cons, List.length_cons, Nat.succ_mul]
    omega
def tTie (t : Tie) : Str := glue Str.empty [Str.ofString (toString t.1), "-", Str.ofString (toString t.2)]
def tWeb (w : Web) : Str := Txt.join " " ([Str.ofString (toString w.1)] ++ w.2.map tTie)
def tWebs (ws : List Web) : Str := if ws.length = 0 then "none" else Txt.join " * " (ws.map tWeb)
theorem tie_len {m : Int} {t : Tie} (h : TieOk m t) (hm : m ≤ 40) : (tTie t).length ≤ 7 := by
  obtain ⟨h1, h2, h3⟩ := h
  show (((Str.empty ++ Str.ofString (toString t.1)) ++ "-") ++ Str.ofString (toString t.2)).length ≤ 7
  rw [len_app, len_app, len_app]
  have e1 := int_len (i := t.1) h1 (by omega)
  have e2 := int_len (i := t.2) (by omega) (by omega)
  have e3 : (Str.empty).length = 0 := rfl
  have e4 : (("-" : String) : Str).length = 1 := rfl
  omega
theorem ties_sum {w : Web} (h : WebOk w) : ((w.2.map tTie).map (·.length)).sum ≤ 840 := by
  rw [List.map_map]
  have := sum_le ((fun s : Str => s.length) ∘ tTie) 7 w.2 fun t ht => tie_len (h.ok t ht) h.hi
  have h2 := h.few
  have : w.2.length * 7 ≤ 120 * 7 := Nat.mul_le_mul_right 7 h2
  omega
theorem web_len {w : Web} (h : WebOk w) : (tWeb w).length ≤ 1000 := by
  have e := join_len " " ([Str.ofString (toString w.1)] ++ w.2.map tTie)
  rw [List.map_append, List.sum_append, List.length_append, List.length_map] at e
  have e1 := ties_sum h
  have e2 := int_len (i := w.1) (by have := h.lo; omega) (by have := h.hi; omega)
  have e3 : ((" " : String) : Str).length = 1 := rfl
  have e4 := h.few
  rw [e3] at e
  simp only [List.map_cons, List.map_nil, List.sum_cons, List.sum_nil, List.length_cons, List.length_nil] at e
  show (Txt.join _ _).length ≤ 1000
  omega
theorem webs_sum {ws : List Web} (hn : ws.length ≤ 12) (h : ∀ w ∈ ws, WebOk w) : ((ws.map tWeb).map (·.length)).sum ≤ 12000 := by
  rw [List.map_map]
  have := sum_le ((fun s : Str => s.length) ∘ tWeb) 1000 ws fun w hw => web_len (h w hw)
  have : ws.length * 1000 ≤ 12 * 1000 := Nat.mul_le_mul_right 1000 hn
  omega
def encWebs (ws : List Web) : W3.D := .lst (ws.map encWeb)
structure WebsOk (ws : List Web) : Prop where
  few : ws.length ≤ 12
  ok : ∀ w ∈ ws, WebOk w
def c_look_at_webs : Con := fun ds r => ∃ ws, WebsOk ws ∧ ds = [encWebs ws] ∧ r = .ok .S .non
def c_written : Con := fun ds r => ∃ w, WebOk w ∧ ds = [encWeb w] ∧ r = .ok .S (.str (tWeb w))
def c_all_written : Con := fun ds r => ∃ ws, WebsOk ws ∧ ds = [encWebs ws] ∧ r = .ok .S (.str (tWebs ws))
section
variable {P : Program} {w : World} {K : PySem.W.Frag} {mg : Str → Option Value} {base : Heap} {f : Addr} {fd : FuncData}
theorem ok_look_at_webs (F : Fun K "look_at_webs" "look_at_webs" s_look_at_webs f fd) (T : Txt mg) (g_MOST_WEBS : ∃ t, mg "MOST_WEBS" = some (.int 12 t)) (H_look_at_web : FnC P w K mg base 4 "look_at_web" c_look_at_web) : FnG P w K mg base 5 f fd ["thing"] (spC K c_look_at_webs) := by
  refine def_ok F sc_look_at_webs (by rintro ds r ⟨w, _, rfl, _⟩; rfl) (fun cdv A outer s H E hr ds r hc => ?_)
  obtain ⟨ws, ⟨few, ok⟩, rfl, rfl⟩ := hc
  refine sts_ifF (Et.eq (et_w (ew_or (et_not (et_ev (Ev.er (ev_isi "list" T.b_isinstance (er_nm 0) T.b_list)))) fun h_or => (ew_or1 (et_cm (Ev.er (ev_lenL T.b_len (er_nm 0))) (Ev.er (ev_glI g_MOST_WEBS)) cm_gt)))) (by simp; omega)) ?_
  refine sts_last (st_for PassesOwn.leaving (src_enum T.b_enumerate (ev_nm 0)) (fun i => [some (.S, encWebs ws), none, none]) (.eq (by rfl) (.any (.any .nil))) (fun i d hd => ?_) rfl)
  obtain ⟨x, hx, rfl⟩ := enumD_get hd
  rw [List.getElem?_map] at hx
  cases ht : ws[i]? with
  | none =>
    rw [ht] at hx
    cases hx
  | some t =>
    rw [ht] at hx
    cases hx
    refine ⟨_, _, (tgt_tup (tgts_cons (tgt_nm 1 sc_look_at_webs.nd) (tgts_cons (tgt_nm 2 sc_look_at_webs.nd) tgts_nil))), ?_⟩
    refine sts_last (st_try0 ?_)
    exact sts_last (st_expr (ev_call H_look_at_web (hr.mono (by decide)) (ea_cons (ev_nm 2) ea_nil) ⟨t, ok t (List.mem_of_getElem? ht), by rfl, by rfl⟩) (.eq (by rfl) (.any (.any .nil))))
theorem ok_written (F : Fun K "written" "written" s_written f fd) (T : Txt mg) : FnG P w K mg base 1 f fd ["web"] (spC K c_written) := by
  refine def_ok F sc_written (by rintro ds r ⟨w, _, rfl, _⟩; rfl) (fun cdv A outer s H E hr ds r hc => ?_)
  obtain ⟨w, hw, rfl, rfl⟩ := hc
  have lo := hw.lo
  have hi := hw.hi
  have few := hw.few
  have ts := ties_sum hw
  have e2 := int_len (i := w.1) (by omega) (by omega)
  have e3 : ((" " : String) : Str).length = 1 := rfl
  refine sts_last (st_ret (ev_join (ys := [Str.ofString (toString w.1)] ++ w.2.map tTie) (Ev.er ev_str) (Ev.er (Ev.eq (ev_cat (Ev.fz (ev_lst (ea_cons (ev_strI T.b_str (er_ixT (er_nm 0) (Ev.er ev_int) (by rfl)) (by walk_at "sd")) ea_nil) (by walk_at "sz"))) (Ev.fz (ev_lcA (items := w.2) (enc := encTie) [("one", 1), ("other", 2)] sc_written.nd (src_l (ev_ixT (ev_nm 0) (Ev.er ev_int) (by rfl))) (fun x => .str (tTie x)) (by walk_at "sz") (fun x hx => turn_of (fun X' b' => by
    obtain ⟨s1, H1, C1, cl1, fp1, rfl⟩ := b'
    have tk := tie_len (hw.ok x hx) hi
    obtain ⟨k1, k2, k3⟩ := hw.ok x hx
    refine ⟨(tgt_tup (tgts_cons (tgt_nm 1 sc_written.nd) (tgts_cons (tgt_nm 2 sc_written.nd) tgts_nil))), etl_nil, fun _ => (ev_fstr (.cons (er_fmtI (er_nm 1) (by walk_at "sd")) (.cons (Ev.er ev_str) (.cons (er_fmtI (er_nm 2) (by walk_at "sd")) EJ.nil))) ?_)⟩
    have q1 := int_len (i := x.1) k1 (by omega)
    have q2 := int_len (i := x.2) (by omega) (by omega)
    have q3 : (("-" : String) : Str).length = 1 := rfl
    show (Str.ofString (toString x.1)).length + ((("-" : String) : Str).length + ((Str.ofString (toString x.2)).length + 0)) ≤ 16777216
    omega) (by walk_at "js")) (blkOk_by (by rfl)) (free_of (by rfl)))) (by simp; omega)) ?e1)) ?sz2) ?e0)
  case e1 =>
    rw [List.map_append, List.map_map]
    rfl
  case sz2 =>
    rw [List.map_append, List.sum_append, List.length_append, List.length_map, e3]
    simp only [List.map_cons, List.map_nil, List.sum_cons, List.sum_nil, List.length_cons, List.length_nil]
    omega
  case e0 => rfl
theorem ok_all_written (F : Fun K "all_written" "all_written" s_all_written f fd) (T : Txt mg) (g_NONE : ∃ t, mg "NONE" = some (.str "none" t)) (g_BETWEEN : ∃ t, mg "BETWEEN" = some (.str " * " t)) (H_written : FnC P w K mg base 1 "written" c_written) : FnG P w K mg base 2 f fd ["webs"] (spC K c_all_written) := by
  refine def_ok F sc_all_written (by rintro ds r ⟨w, _, rfl, _⟩; rfl) (fun cdv A outer s H E hr ds r hc => ?_)
  obtain ⟨ws, ⟨few, ok⟩, rfl, rfl⟩ := hc
  refine sts_if (et_cm (Ev.er (ev_lenL T.b_len (er_nm 0))) (Ev.er ev_int) cm_eqI) (fun hif => ?_) (fun hif => ?_)
  · refine sts_last (st_ret (ev_glS g_NONE) ?_)
    show Res.ok _ _ = Res.ok _ _
    simp at hif
    subst hif
    rfl
  · refine sts_nil ?_
    simp at hif
    have tw := webs_sum few ok
    have e3 : ((" * " : String) : Str).length = 3 := rfl
    refine sts_last (st_ret (ev_join (ys := ws.map tWeb) (Ev.er (ev_glS g_BETWEEN)) (Ev.er (Ev.eq (ev_lcA (items := ws) (enc := encWeb) [("web", 1)] sc_all_written.nd (src_l (ev_nm 0)) (fun x => .str (tWeb x)) (by walk_at "sz") (fun x hx => turn_of (fun X' b' => by
      obtain ⟨s1, H1, C1, cl1, fp1, rfl⟩ := b'
      exact ⟨(tgt_nm 1 sc_all_written.nd), etl_nil, fun _ => (ev_call H_written (hr.mono (by decide)) (ea_cons (ev_nm 1) ea_nil) ⟨x, ok x hx, by rfl, by rfl⟩)⟩) (by walk_at "js")) (blkOk_by (by rfl)) (free_of (by rfl))) ?e1)) ?sz2) ?e0)
    case e1 =>
      rw [List.map_map]
      rfl
    case sz2 =>
      rw [List.length_map, e3]
      omega
    case e0 =>
      show Res.ok _ _ = Res.ok _ _
      unfold tWebs
      rw [if_neg (by simpa using hif)]
def c_show_web : Con := fun ds r => ∃ w, WebOk w ∧ ds = [encWeb w] ∧ r = .ok .S (.str (tWeb w))
def c_show_webs : Con := fun ds r => ∃ ws, WebsOk ws ∧ ds = [encWebs ws] ∧ r = .ok .S (.str (tWebs ws))
theorem ok_show_web (F : Fun K "show_web" "show_web" s_show_web f fd) (T : Txt mg) (H_look_at_web : FnC P w K mg base 4 "look_at_web" c_look_at_web) (H_written : FnC P w K mg base 1 "written" c_written) : FnG P w K mg base 5 f fd ["web"] (spC K c_show_web) := by
  refine def_ok F sc_show_web (by rintro ds r ⟨w, _, rfl, _⟩; rfl) (fun cdv A outer s H E hr ds r hc => ?_)
  obtain ⟨w, ok, rfl, rfl⟩ := hc
  refine sts_next (st_expr (ev_call H_look_at_web (hr.mono (by decide)) (ea_cons (ev_nm 0) ea_nil) ⟨w, ok, by rfl, by rfl⟩) rfl) ?_
  exact sts_last (st_ret (ev_call H_written (hr.mono (by decide)) (ea_cons (ev_nm 0) ea_nil) ⟨w, ok, by rfl, by rfl⟩) (by rfl))
theorem ok_show_webs (F : Fun K "show_webs" "show_webs" s_show_webs f fd) (T : Txt mg) (H_look_at_webs : FnC P w K mg base 5 "look_at_webs" c_look_at_webs) (H_all_written : FnC P w K mg base 2 "all_written" c_all_written) : FnG P w K mg base 6 f fd ["webs"] (spC K c_show_webs) := by
  refine def_ok F sc_show_webs (by rintro ds r ⟨w, _, rfl, _⟩; rfl) (fun cdv A outer s H E hr ds r hc => ?_)
  obtain ⟨ws, ok, rfl, rfl⟩ := hc
  refine sts_next (st_expr (ev_call H_look_at_webs (hr.mono (by decide)) (ea_cons (ev_nm 0) ea_nil) ⟨ws, ok, by rfl, by rfl⟩) rfl) ?_
  exact sts_last (st_ret (ev_call H_all_written (hr.mono (by decide)) (ea_cons (ev_nm 0) ea_nil) ⟨ws, ok, by rfl, by rfl⟩) (by rfl))
end

/-- the text behind i ties -/
def shownAt (w : Web) (i : Nat) : Str := ⟨((w.2.map tTie).take i).foldl (fun acc p => acc ++ (" " : Str).cps ++ p.cps) (Str.ofString (toString w.1)).cps⟩
theorem shown_all (w : Web) : shownAt w w.2.length = tWeb w := by
  unfold shownAt
  rw [List.take_of_length_le (by rw [List.length_map]; exact Nat.le_refl _)]
  rfl
theorem str_app (x y : Str) : x ++ y = ⟨x.cps ++ y.cps⟩ := rfl
theorem shown_step {w : Web} {i : Nat} {t : Tie} (h : w.2[i]? = some t) : shownAt w (i + 1) = (((shownAt w i ++ " ") ++ Str.ofString (toString t.1)) ++ "-") ++ Str.ofString (toString t.2) := by
  unfold shownAt
  rw [List.take_succ, List.getElem?_map, h, List.foldl_append]
  simp only [str_app, tTie, glue, Option.map_some, Option.toList_some, List.foldl_cons, List.foldl_nil, Array.append_assoc, Str.empty, Array.empty_append]
theorem shown_len {w : Web} (hw : WebOk w) : ∀ i, i ≤ w.2.length → (shownAt w i).length ≤ 3 + 8 * i
  | 0, _ => by
    have := int_len (i := w.1) (by have := hw.lo; omega) (by have := hw.hi; omega)
    exact this
  | i + 1, hi => by
    have ih := shown_len hw i (by omega)
    have ht : w.2[i]? = some w.2[i] := List.getElem?_eq_getElem (by omega)
    rw [shown_step ht, len_app, len_app, len_app, len_app]
    obtain ⟨k1, k2, k3⟩ := hw.ok _ (List.getElem_mem (show i < w.2.length by omega))
    have hi2 := hw.hi
    have q1 := int_len (i := w.2[i].1) k1 (by omega)
    have q2 := int_len (i := w.2[i].2) (by omega) (by omega)
    have q3 : (("-" : String) : Str).length = 1 := rfl
    have q4 : ((" " : String) : Str).length = 1 := rfl
    omega
theorem fig_int {i : Int} (h : 0 ≤ i) : fig i.toNat = Str.ofString (toString i) := by
  unfold fig
  rw [Int.toNat_of_nonneg h]

/-! ### texts read -/
theorem fig_digits : ∀ n : Nat, n < 200 → ((fig n).cps.toList.all fun c => decide (48 ≤ c) && decide (c ≤ 57)) = true := by decide +kernel
theorem fig_first : ∀ n : Nat, n < 200 → (match (fig n).cps.toList with | [] => false | c :: r => !(c == 48) || r.isEmpty) = true := by decide +kernel
theorem fig_int2 : ∀ n : Nat, n < 200 → intText? (fig n) = some (n : Int) := by decide +kernel
theorem dig_in : ∀ k : Nat, k < 10 → (!(Builtin.Str.occurrences ("0123456789" : Str) ⟨#[48 + k]⟩ 0 (("0123456789" : Str)).length 1).isEmpty) = true := by decide +kernel
theorem tie_parts : ∀ a : Nat, a < 41 → ∀ b : Nat, b < 41 → Txt.partition (tTie ((a : Int), (b : Int))) "-" = (fig a, ("-" : Str), fig b) := by decide +kernel
theorem pre_star {r : List Nat} {c : Nat} (h : 42 ∉ r) (q : List Nat) : TL.pre [32, 42, 32] (c :: (r ++ ([32, 42, 32] ++ q))) = false := by
  unfold TL.pre
  cases r with
  | nil =>
    simp
  | cons d r =>
    have : d ≠ 42 := fun e => h (by rw [e]; exact List.mem_cons_self ..)
    simp [this]
theorem pre_star0 {r : List Nat} {c : Nat} (h : 42 ∉ r) : TL.pre [32, 42, 32] (c :: r) = false := by
  unfold TL.pre
  cases r with
  | nil =>
    simp
  | cons d r =>
    have : d ≠ 42 := fun e => h (by rw [e]; exact List.mem_cons_self ..)
    simp [this]
theorem spl_star (q : List Nat) : ∀ (p acc : List Nat), 42 ∉ p → TL.spl [32, 42, 32] 0 acc (p ++ ([32, 42, 32] ++ q)) = (acc ++ p) :: TL.spl [32, 42, 32] 0 [] q
  | [], acc, _ => by
    show TL.spl [32, 42, 32] 0 acc (32 :: 42 :: 32 :: q) = _
    rw [TL.spl_hit (by simp [TL.pre]), List.append_nil]
    rfl
  | c :: r, acc, h => by
    have hr : 42 ∉ r := fun z => h (List.mem_cons_of_mem _ z)
    rw [List.cons_append, TL.spl_miss (pre_star hr q), spl_star q r (acc ++ [c]) hr, List.append_assoc]
    rfl
theorem spl_star0 : ∀ (p acc : List Nat), 42 ∉ p → TL.spl [32, 42, 32] 0 acc p = [acc ++ p]
  | [], acc, _ => by rw [TL.spl_nil, List.append_nil]
  | c :: r, acc, h => by
    have hr : 42 ∉ r := fun z => h (List.mem_cons_of_mem _ z)
    rw [TL.spl_miss (pre_star0 hr), spl_star0 r (acc ++ [c]) hr, List.append_assoc]
    rfl
theorem spl_stars : ∀ (parts : List (List Nat)), parts ≠ [] → (∀ p ∈ parts, 42 ∉ p) → TL.spl [32, 42, 32] 0 [] (TL.joinL [32, 42, 32] parts) = parts
  | [], h, _ => absurd rfl h
  | [p], _, h => by
    have := spl_star0 p [] (h p (by simp))
    exact this
  | p :: p2 :: ps, _, h => by
    have ih := spl_stars (p2 :: ps) (by simp) fun q hq => h q (List.mem_cons_of_mem _ hq)
    have e := spl_star (TL.joinL [32, 42, 32] (p2 :: ps)) p [] (h p (by simp))
    rw [ih, List.nil_append] at e
    exact e

theorem no_of_small {x : Str} {c : Nat} (h : ∀ d ∈ x.cps.toList, d < 42 ∨ d = 45 ∨ (48 ≤ d ∧ d ≤ 57)) (h1 : ¬ (c < 42 ∨ c = 45 ∨ (48 ≤ c ∧ c ≤ 57))) : c ∉ x.cps.toList := fun z => h1 (h c z)
/-- signs of a written web -/
def Signs (x : Str) : Prop := ∀ d ∈ x.cps.toList, d = 32 ∨ d = 45 ∨ (48 ≤ d ∧ d ≤ 57)
theorem signs_app {x y : Str} (h : Signs x) (k : Signs y) : Signs (x ++ y) := fun c hc => by
  rw [str_app] at hc
  simp at hc
  exact hc.elim (fun z => h c (by simpa using z)) (fun z => k c (by simpa using z))
theorem signs_int {i : Int} (h0 : 0 ≤ i) (h1 : i < 200) : Signs (Str.ofString (toString i)) := fun c hc => by
  obtain ⟨n, rfl⟩ := Int.eq_ofNat_of_zero_le h0
  have := List.all_eq_true.mp (fig_digits n (by omega)) c hc
  simp at this
  omega
theorem signs_web {w : Web} (h : WebOk w) : Signs (tWeb w) := by
  rw [← shown_all]
  have lo := h.lo
  have hi := h.hi
  have key : ∀ i, i ≤ w.2.length → Signs (shownAt w i) := fun i => by
    induction i with
    | zero => exact fun _ => signs_int (i := w.1) (by omega) (by omega)
    | succ i ih =>
      intro hi2
      rw [shown_step (List.getElem?_eq_getElem (show i < w.2.length by omega))]
      obtain ⟨k1, k2, k3⟩ := h.ok _ (List.getElem_mem (show i < w.2.length by omega))
      exact signs_app (signs_app (signs_app (signs_app (ih (by omega)) (by intro c hc; revert c; decide)) (signs_int k1 (by omega))) (by intro c hc; revert c; decide)) (signs_int (by omega) (by omega))
  exact key _ (Nat.le_refl _)
theorem int_nob {i : Int} (h0 : 0 ≤ i) (h1 : i < 200) : 32 ∉ (Str.ofString (toString i)).cps.toList := fun z => by
  obtain ⟨n, rfl⟩ := Int.eq_ofNat_of_zero_le h0
  have := List.all_eq_true.mp (fig_digits n (by omega)) 32 z
  simp at this
theorem tie_nob {m : Int} {t : Tie} (h : TieOk m t) (hm : m ≤ 40) : 32 ∉ (tTie t).cps.toList := by
  obtain ⟨h1, h2, h3⟩ := h
  intro z
  have e : (tTie t).cps.toList = (Str.ofString (toString t.1)).cps.toList ++ [45] ++ (Str.ofString (toString t.2)).cps.toList := by
    simp [tTie, glue, str_app, Str.empty]
    rfl
  rw [e] at z
  simp only [List.mem_append] at z
  rcases z with (z | z) | z
  · exact int_nob h1 (by omega) z
  · simp at z
  · exact int_nob (by omega) (by omega) z
/-- a web's text, its words -/
theorem split_web {w : Web} (h : WebOk w) : Txt.split (tWeb w) " " = Str.ofString (toString w.1) :: w.2.map tTie := by
  have lo := h.lo
  have hi := h.hi
  refine TL.split_join (y := " ") (s := 32) (S := []) rfl (by decide +kernel) (by simp) fun p hp => ?_
  simp only [List.singleton_append, List.mem_cons, List.mem_map] at hp
  rcases hp with rfl | ⟨t, ht, rfl⟩
  · exact int_nob (by omega) (by omega)
  · exact tie_nob (h.ok t ht) h.hi
theorem split_webs {ws : List Web} (h : ∀ w ∈ ws, WebOk w) (h0 : ws.length ≠ 0) : Txt.split (tWebs ws) " * " = ws.map tWeb := by
  unfold tWebs
  rw [if_neg h0]
  refine TL.map_tl_inj ?_
  rw [TL.split_spl _ " * " (by decide) (TL.kind_ok (by decide +kernel)), TL.join_eq, TL.tl_join]
  refine spl_stars _ (by simp; intro z; exact h0 (by rw [z]; rfl)) fun p hp => ?_
  simp only [List.map_map, List.mem_map, Function.comp_apply] at hp
  obtain ⟨w, hw, rfl⟩ := hp
  intro z
  have := signs_web (h w hw) 42 z
  omega
def c_number_by : Con := fun ds r => ∃ n : Nat, n < 200 ∧ ds = [.str (fig n)] ∧ r = .ok .S (.int n)
def c_tie_by : Con := fun ds r => ∃ a b : Nat, a < 41 ∧ b < 41 ∧ ds = [.str (tTie (a, b))] ∧ r = .ok .S (.tup [.int a, .int b])
def c_is_web : Con := fun ds r => ∃ w, WebOk w ∧ ds = [encWeb w] ∧ r = .ok .S (.bl true)
def c_read_web : Con := fun ds r => ∃ w, WebOk w ∧ ds = [.str (tWeb w)] ∧ r = .ok (.T [.S, .L .S]) (encWeb w)
def c_read_webs : Con := fun ds r => ∃ ws, WebsOk ws ∧ ds = [.str (tWebs ws)] ∧ r = .ok (.L (.T [.S, .L .S])) (encWebs ws)
theorem none_not {ws : List Web} (h : ∀ w ∈ ws, WebOk w) (h0 : ws.length ≠ 0) : tWebs ws ≠ ("none" : Str) := by
  intro e
  have e2 := split_webs h h0
  rw [e, show Txt.split ("none" : Str) " * " = [("none" : Str)] by decide +kernel] at e2
  match ws, h0 with
  | w :: ws, _ =>
    rw [List.map_cons] at e2
    injection e2 with e3 e4
    have := signs_web (h w (List.mem_cons_self ..)) 110 (by rw [← e3]; decide)
    omega
section
variable {P : Program} {w : World} {K : PySem.W.Frag} {mg : Str → Option Value} {base : Heap} {f : Addr} {fd : FuncData}
theorem ok_number_by (F : Fun K "number_by" "number_by" s_number_by f fd) (T : Txt mg) (b_all : mg "all" = none) (g_MOST_FIGURES : ∃ t, mg "MOST_FIGURES" = some (.int 4 t)) (g_FIGURES : ∃ t, mg "FIGURES" = some (.str "0123456789" t)) : FnG P w K mg base 1 f fd ["text"] (spC K c_number_by) := by
  refine def_ok F sc_number_by (by rintro ds r ⟨_, _, rfl, _⟩; rfl) (fun cdv A outer s H E hr ds r hc => ?_)
  obtain ⟨n, hn, rfl, rfl⟩ := hc
  have fl := fig_len n hn
  have fz : (fig n).length ≤ sizeLine := Nat.le_trans fl (by decide)
  have fd := List.all_eq_true.mp (fig_digits n hn)
  have ff := fig_first n hn
  obtain ⟨c0, rest, ec⟩ : ∃ c r, (fig n).cps.toList = c :: r := by
    cases e : (fig n).cps.toList with
    | nil =>
      rw [e] at ff
      cases ff
    | cons c r => exact ⟨c, r, rfl⟩
  rw [ec] at ff
  have ff : (!(c0 == 48) || rest.isEmpty) = true := ff
  have fl1 : (fig n).length = rest.length + 1 := by
    show (fig n).cps.size = _
    rw [← Array.length_toList, ec]
    rfl
  refine sts_ifF (Et.eq (et_w (ew_or (et_not (et_chain ci_le ci_le (Ev.er ev_int) (Ev.er (ev_lenS T.b_len (er_nm 0) fz)) fun _ => (Ev.er (ev_glI g_MOST_FIGURES)))) fun h_or => (ew_or1 (et_not (et_ev (Ev.er (ev_allL (bs := (fig n).cps.toList.map fun _ => true) b_all (Ev.er (Ev.eq (ev_lcA (items := (fig n).cps.toList) (enc := fun c => W3.D.str ⟨#[c]⟩) [("sign", 1)] sc_number_by.nd (src_s (er_nm 0)) (fun c => .bl true) (by
    have : (fig n).cps.toList.length = (fig n).length := by simp [Str.length]
    omega) (fun x hx => turn_of (fun X' b' => by
      obtain ⟨s1, H1, C1, cl1, fp1, rfl⟩ := b'
      have hd := fd x hx
      simp at hd
      refine ⟨(tgt_nm 1 sc_number_by.nd), etl_nil, fun _ => Ev.eq (ev_cm (er_nm 1) (Ev.er (ev_glS g_FIGURES)) (cm_in_str (by rfl))) ?_⟩
      have := dig_in (x - 48) (by omega)
      rw [show 48 + (x - 48) = x by omega] at this
      rw [this]) (by walk_at "js")) (blkOk_by (by rfl)) (free_of (by rfl))) (by rw [List.map_map]; rfl)))))))))) ?t1) ?_
  case t1 =>
    have a1 : (((fig n).cps.toList.map fun _ => true).all id) = true := by simp
    rw [a1]
    simp
    omega
  refine sts_ifF (Et.eq (et_w (ew_and (et_cm (Ev.er (ev_ixS (cc := c0) (er_nm 0) (Ev.er ev_int) fz (at_up (by decide) (by rw [ec]; rfl)))) (Ev.er ev_str) cm_eqS) fun h_and => (ew_and1 (et_cm (Ev.er (ev_lenS T.b_len (er_nm 0) fz)) (Ev.er ev_int) cm_gt)))) ?t2) ?_
  case t2 =>
    cases hq : (c0 == 48) with
    | true =>
      rw [hq] at ff
      have : rest = [] := by simpa using ff
      rw [fl1, this]
      simp
    | false =>
      have : ¬ ((⟨#[c0]⟩ : Str) = ("0" : Str)) := fun e => by
        have e2 := congrArg (fun x : Str => x.cps.toList) e
        have e3 : [c0] = [48] := e2
        injection e3 with e4
        rw [e4] at hq
        cases hq
      rw [decide_eq_false this]
      rfl
  exact sts_last (st_ret (ev_intS T.b_int (er_nm 0) (fig_int2 n hn) (by omega)) (by rfl))
theorem ok_tie_by (F : Fun K "tie_by" "tie_by" s_tie_by f fd) (T : Txt mg) (H_number_by : FnC P w K mg base 1 "number_by" c_number_by) : FnG P w K mg base 2 f fd ["word"] (spC K c_tie_by) := by
  refine def_ok F sc_tie_by (by rintro ds r ⟨_, _, _, _, rfl, _⟩; rfl) (fun cdv A outer s H E hr ds r hc => ?_)
  obtain ⟨a, b, ha, hb, rfl, rfl⟩ := hc
  have tl := tie_len (m := 40) (t := ((a : Int), (b : Int)))
  have hl : (tTie ((a : Int), (b : Int))).length ≤ 1000000 := by
    show (((Str.empty ++ Str.ofString (toString (a : Int))) ++ "-") ++ Str.ofString (toString (b : Int))).length ≤ 1000000
    rw [len_app, len_app, len_app]
    have e1 := int_len (i := (a : Int)) (by omega) (by omega)
    have e2 := int_len (i := (b : Int)) (by omega) (by omega)
    have e3 : (Str.empty).length = 0 := rfl
    have e4 : (("-" : String) : Str).length = 1 := rfl
    omega
  have tp := tie_parts a ha b hb
  refine sts_next (st_asg (Ev.eq (ev_part (y := "-") (er_nm 0) (Ev.er ev_str) rfl hl) (by rw [tp])) (tgt_tup (tgts_cons (tgt_nm 1 sc_tie_by.nd) (tgts_cons (tgt_nm 2 sc_tie_by.nd) (tgts_cons (tgt_nm 3 sc_tie_by.nd) tgts_nil)))) rfl) ?_
  exact sts_last (st_ret (ev_tup (ea_cons (ev_call H_number_by (hr.mono (by decide)) (ea_cons (ev_nm 1) ea_nil) ⟨a, by omega, by rfl, by rfl⟩) (ea_cons (ev_call H_number_by (hr.mono (by decide)) (ea_cons (ev_nm 3) ea_nil) ⟨b, by omega, by rfl, by rfl⟩) ea_nil)) (by walk_at "sz")) (by rfl))
theorem ok_is_web (F : Fun K "is_web" "is_web" s_is_web f fd) (T : Txt mg) (H_look_at_web : FnC P w K mg base 4 "look_at_web" c_look_at_web) : FnG P w K mg base 5 f fd ["thing"] (spC K c_is_web) := by
  refine def_ok F sc_is_web (by rintro ds r ⟨_, _, rfl, _⟩; rfl) (fun cdv A outer s H E hr ds r hc => ?_)
  obtain ⟨v, hv, rfl, rfl⟩ := hc
  refine sts_next (δ' := [some (.S, encWeb v)]) (st_try0 ?_) ?_
  · exact sts_last (st_expr (ev_call H_look_at_web (hr.mono (by decide)) (ea_cons (ev_nm 0) ea_nil) ⟨v, hv, by rfl, by rfl⟩) rfl)
  · exact sts_last (st_ret ev_bl (by rfl))
theorem ok_read_web (F : Fun K "read_web" "read_web" s_read_web f fd) (T : Txt mg) (H_number_by : FnC P w K mg base 1 "number_by" c_number_by) (H_tie_by : FnC P w K mg base 2 "tie_by" c_tie_by) (H_is_web : FnC P w K mg base 5 "is_web" c_is_web) : FnG P w K mg base 6 f fd ["text"] (spC K c_read_web) := by
  refine def_ok F sc_read_web (by rintro ds r ⟨_, _, rfl, _⟩; rfl) (fun cdv A outer s H E hr ds r hc => ?_)
  obtain ⟨v, hv, rfl, rfl⟩ := hc
  have lo := hv.lo
  have hi := hv.hi
  have few := hv.few
  have wl := web_len hv
  refine sts_ifF (Et.eq (et_not (et_ev (Ev.er (ev_isi "str" T.b_isinstance (er_nm 0) T.b_str)))) (by rfl)) ?_
  refine sts_next (δ' := [some (.S, .str (tWeb v)), some (.S, .lst ((Str.ofString (toString v.1) :: v.2.map tTie).map W3.D.str)), none, none]) (st_set 1 sc_read_web.nd (Ev.fz (Ev.eq (ev_split (y := " ") (er_nm 0) (Ev.er ev_str) rfl (by omega)) (by rw [split_web hv]))) rfl) ?_
  refine sts_next (δ' := [some (.S, .str (tWeb v)), some (.S, .lst ((Str.ofString (toString v.1) :: v.2.map tTie).map W3.D.str)), some (.T [.S, .L .S], encWeb v), none]) (st_set 2 sc_read_web.nd (ev_tup2 (ev_call H_number_by (hr.mono (by decide)) (ea_cons (ev_ixL (d := .str (Str.ofString (toString v.1))) (ev_nm 1) (Ev.er ev_int) (at_up (by decide) (by rfl))) ea_nil) ⟨v.1.toNat, by omega, by rw [fig_int (by omega)], by rw [Int.toNat_of_nonneg (by omega)]⟩) (ev_lcA (items := v.2) (enc := fun t => W3.D.str (tTie t)) [("word", 3)] sc_read_web.nd (src_l (Ev.fz (Ev.eq (ev_slL (ev_nm 1) (eo_some (Ev.er ev_int)) eo_none) ?sl))) (fun t => encTie t) (by omega) (fun x hx => turn_of (fun X' b' => by
    obtain ⟨s1, H1, C1, cl1, fp1, rfl⟩ := b'
    obtain ⟨k1, k2, k3⟩ := hv.ok x hx
    refine ⟨(tgt_nm 3 sc_read_web.nd), etl_nil, fun _ => (ev_call H_tie_by (hr.mono (by decide)) (ea_cons (ev_nm 3) ea_nil) ⟨x.1.toNat, x.2.toNat, by omega, by omega, ?_, ?_⟩)⟩
    · rw [Int.toNat_of_nonneg k1, Int.toNat_of_nonneg (by omega)]
    · rw [Int.toNat_of_nonneg k1, Int.toNat_of_nonneg (by omega)]
      rfl) (by walk_at "js")) (blkOk_by (by rfl)) (free_of (by rfl)))) rfl) ?_
  case sl =>
    have e : HT.sIx ((Str.ofString (toString v.1) :: v.2.map tTie).map W3.D.str).length 0 (some (1 : Int)) = 1 := by
      rw [show (1 : Int) = ((1 : Nat) : Int) from rfl, HT.sIx_nat]
      simp
    unfold cutD
    rw [e, HT.sIx_none]
    simp
    exact List.take_of_length_le (by simp)
  refine sts_ifF (Et.eq (Et.frz 2 (et_not (et_ev (Ev.er (ev_call H_is_web (hr.mono (by decide)) (ea_cons (ev_nm 2) ea_nil) ⟨v, hv, by rfl, by rfl⟩)))) ) (by rfl)) ?_
  exact sts_last (st_retO 2 (by rfl))
theorem ok_read_webs (F : Fun K "read_webs" "read_webs" s_read_webs f fd) (T : Txt mg) (g_NONE : ∃ t, mg "NONE" = some (.str "none" t)) (g_BETWEEN : ∃ t, mg "BETWEEN" = some (.str " * " t)) (g_MOST_WEBS : ∃ t, mg "MOST_WEBS" = some (.int 12 t)) (H_read_web : FnC P w K mg base 6 "read_web" c_read_web) : FnG P w K mg base 7 f fd ["text"] (spC K c_read_webs) := by
  refine def_ok F sc_read_webs (by rintro ds r ⟨_, _, rfl, _⟩; rfl) (fun cdv A outer s H E hr ds r hc => ?_)
  obtain ⟨ws, ⟨few, ok⟩, rfl, rfl⟩ := hc
  refine sts_ifF (Et.eq (et_not (et_ev (Ev.er (ev_isi "str" T.b_isinstance (er_nm 0) T.b_str)))) (by rfl)) ?_
  refine sts_if (et_cm (er_nm 0) (Ev.er (ev_glS g_NONE)) cm_eqS) (fun hif => ?_) (fun hif => ?_)
  · have h0 : ws.length = 0 := by
      refine Classical.byContradiction fun z => ?_
      exact absurd (of_decide_eq_true hif) (none_not ok z)
    have : ws = [] := List.length_eq_zero_iff.mp h0
    subst this
    exact sts_last (st_ret (Ev.nil (ev_lst ea_nil (by walk_at "sz"))) (by rfl))
  · have h0 : ws.length ≠ 0 := fun z => by
      have : ws = [] := List.length_eq_zero_iff.mp z
      subst this
      exact absurd (of_decide_eq_false hif) (by intro q; exact q rfl)
    have ts := webs_sum few ok
    have sl : (tWebs ws).length ≤ 1000000 := by
      unfold tWebs
      rw [if_neg h0]
      have := join_len " * " (ws.map tWeb)
      rw [List.length_map] at this
      have e3 : ((" * " : String) : Str).length = 3 := rfl
      rw [e3] at this
      omega
    refine sts_nil ?_
    refine sts_next (δ' := [some (.S, .str (tWebs ws)), some (.L (.T [.S, .L .S]), .lst ((ws.take 0).map encWeb)), none, none, none]) (st_set 1 sc_read_webs.nd (Ev.nil (ev_lst ea_nil (by walk_at "sz"))) rfl) ?_
    refine sts_next (δ' := [some (.S, .str (tWebs ws)), some (.L (.T [.S, .L .S]), .lst ((ws.take ws.length).map encWeb)), none, none, none]) (st_for PassesOwn.leaving (src_enum T.b_enumerate (Ev.fz (Ev.eq (ev_split (y := " * ") (er_nm 0) (Ev.er (ev_glS g_BETWEEN)) rfl sl) (by rw [split_webs ok h0])))) (fun i => [some (.S, .str (tWebs ws)), some (.L (.T [.S, .L .S]), .lst ((ws.take i).map encWeb)), none, none, none]) (.eq rfl (.eq rfl (.any (.any (.any .nil))))) (fun i d hd => ?body) ?hd) ?rest
    case hd => rw [enumD_length, List.length_map, List.length_map]
    case rest =>
      refine sts_last (st_retO 1 ?_)
      show Res.ok _ _ = Res.ok _ _
      rw [List.take_length]
      rfl
    case body =>
      obtain ⟨x, hx, rfl⟩ := enumD_get hd
      rw [List.map_map, List.getElem?_map] at hx
      cases ht : ws[i]? with
      | none =>
        rw [ht] at hx
        cases hx
      | some t =>
        rw [ht] at hx
        cases hx
        have hil := (List.getElem?_eq_some_iff.mp ht).1
        refine ⟨_, _, (tgt_tup (tgts_cons (tgt_nm 2 sc_read_webs.nd) (tgts_cons (tgt_nm 3 sc_read_webs.nd) tgts_nil))), ?_⟩
        refine sts_ifF (Et.eq (et_cm (er_nm 2) (Ev.er (ev_glI g_MOST_WEBS)) cm_eqI) (by simp; omega)) ?_
        refine sts_last (st_try0 ?_)
        refine sts_last (st_app 1 (ev_call H_read_web (hr.mono (by decide)) (ea_cons (ev_nm 3) ea_nil) ⟨t, ok t (List.mem_of_getElem? ht), by rfl, by rfl⟩) rfl ?_ (by simp; omega))
        refine .eq rfl (.eq ?_ (.any (.any (.any .nil))))
        rw [List.take_succ, ht, List.map_append]
        rfl
end

/-! ### the law's numbers -/
/-- one drawn without digits -/
def mixed (number salt : Int) (k : Int) : Int :=
  let a := (number + 7919 * salt + 101 * k * k + k) % 2147483647
  let b := a * 48271 % 2147483647
  b * b % 2147483629 * 48271 % 2147483647
def sizeAt (sizes : List Int) (i : Nat) : Int := sizes.getD i 1
def drawn (number salt : Int) (sizes : List Int) : Nat → Int × List Int
  | 0 => (number, [])
  | i + 1 =>
    let p := drawn number salt sizes i
    if 10 ^ 18 ≤ number ∧ 0 < p.1 then (p.1 / sizeAt sizes i, p.2 ++ [p.1 % sizeAt sizes i])
    else (p.1, p.2 ++ [mixed number salt (0 + (i : Nat)) / 16 % sizeAt sizes i])
def absOf (cell : Int) : Int := if -1 - cell > cell then -1 - cell else cell
def numbers (cell salt : Int) (sizes : List Int) : List Int := (drawn (absOf cell) salt sizes sizes.length).2
def SizesOk (sizes : List Int) : Prop := sizes.length ≤ 1000 ∧ ∀ s ∈ sizes, 1 ≤ s ∧ s ≤ 1000000
theorem drawn_len (n s : Int) (sizes : List Int) : ∀ i, (drawn n s sizes i).2.length = i
  | 0 => rfl
  | i + 1 => by
    have := drawn_len n s sizes i
    unfold drawn
    dsimp only
    split <;> simp [this]
theorem sizeAt_ok {sizes : List Int} (h : SizesOk sizes) (i : Nat) : 1 ≤ sizeAt sizes i ∧ sizeAt sizes i ≤ 1000000 := by
  unfold sizeAt
  rw [List.getD_eq_getElem?_getD]
  cases e : sizes[i]? with
  | none => exact ⟨by decide, by decide⟩
  | some x => exact h.2 x (List.mem_of_getElem? e)
theorem drawn_in (n s : Int) {sizes : List Int} (h : SizesOk sizes) : ∀ i k x, (drawn n s sizes i).2[k]? = some x → 0 ≤ x ∧ x < sizeAt sizes k
  | 0, k, x, e => by simp [drawn] at e
  | i + 1, k, x, e => by
    have ih := drawn_in n s h i
    have hl := drawn_len n s sizes i
    have sz := sizeAt_ok h i
    unfold drawn at e
    dsimp only at e
    split at e
    all_goals
      rcases Nat.lt_trichotomy k i with q | q | q
      · rw [List.getElem?_append_left (by omega)] at e
        exact ih k x e
      · subst q
        rw [List.getElem?_append_right (by omega), hl, Nat.sub_self] at e
        simp at e
        subst e
        exact ⟨Int.emod_nonneg _ (by omega), Int.emod_lt_of_pos _ (by omega)⟩
      · rw [List.getElem?_eq_none (by rw [List.length_append, hl]; simp; omega)] at e
        cases e
theorem numbers_len (c s : Int) (sizes : List Int) : (numbers c s sizes).length = sizes.length := drawn_len _ _ _ _
theorem numbers_in (c s : Int) {sizes : List Int} (h : SizesOk sizes) {k : Nat} {z : Int} (hz : sizes[k]? = some z) : ∃ x, (numbers c s sizes)[k]? = some x ∧ 0 ≤ x ∧ x < z := by
  obtain ⟨hk, _⟩ := List.getElem?_eq_some_iff.mp hz
  have hl := numbers_len c s sizes
  refine ⟨(numbers c s sizes)[k]'(by omega), by simp [hl, hk], ?_⟩
  have := drawn_in (absOf c) s h sizes.length k ((numbers c s sizes)[k]'(by omega)) (by
    show (numbers c s sizes)[k]? = _
    simp [hl, hk])
  unfold sizeAt at this
  rw [List.getD_eq_getElem?_getD, hz] at this
  exact this
def encInts (xs : List Int) : W3.D := .lst (xs.map W3.D.int)
def c_law_numbers : Con := fun ds r => ∃ cell salt sizes, SizesOk sizes ∧ ds = [.int cell, .int salt, encInts sizes] ∧ r = .ok (.L .S) (encInts (numbers cell salt sizes))
section
variable {P : Program} {w : World} {K : PySem.W.Frag} {mg : Str → Option Value} {base : Heap} {f : Addr} {fd : FuncData}
theorem ok_law_numbers (F : Fun K "_law_numbers" "_law_numbers" s_law_numbers f fd) (T : Txt mg) : FnG P w K mg base 1 f fd ["cell", "salt", "sizes"] (spC K c_law_numbers) := by
  refine def_ok F sc_law_numbers (by rintro ds r ⟨_, _, _, _, rfl, _⟩; rfl) (fun cdv A outer s H E hr ds r hc => ?_)
  obtain ⟨cell, salt, sizes, ok, rfl, rfl⟩ := hc
  have few := ok.1
  refine sts_next (st_set 3 sc_law_numbers.nd (ev_max2 T.b_max (er_nm 0) (Ev.er (ev_sub (Ev.er (ev_neg (Ev.er ev_int))) (er_nm 0)))) rfl) ?_
  refine sts_next (st_set 4 sc_law_numbers.nd (ev_nm 3) rfl) ?_
  refine sts_next (st_set 5 sc_law_numbers.nd (ev_lst ea_nil (by walk_at "sz")) rfl) ?_
  refine sts_next (δ' := [some (.S, .int cell), some (.S, .int salt), some (.S, encInts sizes), some (.S, .int (absOf cell)), some (.S, .int (drawn (absOf cell) salt sizes sizes.length).1), some (.L .S, encInts (numbers cell salt sizes)), none, none])
    (st_for PassesOwn.leaving (src_r1 T.b_range (Ev.er (ev_lenL T.b_len (er_nm 2))) (by simp; omega)) (fun i => [some (.S, .int cell), some (.S, .int salt), some (.S, encInts sizes), some (.S, .int (absOf cell)), some (.S, .int (drawn (absOf cell) salt sizes i).1), some (.L .S, encInts (drawn (absOf cell) salt sizes i).2), none, none])
      (.eq (by rfl) (.eq (by rfl) (.eq (by rfl) (.eq (by rfl) (.eq (by rfl) (.eq (by rfl) (.any (.any .nil)))))))) (fun i d hd => ?_) ?hd) ?_
  case hd =>
    rw [rng_length]
    simp
    rfl
  · obtain ⟨hi, rfl⟩ := rng_get hd
    have hi' : i < sizes.length := by simpa using hi
    refine ⟨_, _, (tgt_nm 6 sc_law_numbers.nd), ?_⟩
    have sz := sizeAt_ok ok i
    have hat : atI (sizes.map W3.D.int) (0 + (i : Nat)) = some (.int (sizeAt sizes i)) := at_up (by omega) (by
      rw [show ((0 : Int) + (i : Nat)).toNat = i by omega, List.getElem?_map]
      unfold sizeAt
      rw [List.getD_eq_getElem?_getD]
      simp [hi'])
    have hl := drawn_len (absOf cell) salt sizes i
    generalize hL : drawn (absOf cell) salt sizes i = p at hl
    obtain ⟨left, found⟩ := p
    refine sts_last (st_if (et_w (ew_and (et_cm (er_nm 3) (Ev.er (ev_pow (Ev.er ev_int) (Ev.er ev_int) (by walk_at "pow"))) cm_ge) fun h_and => (ew_and1 (et_cm (er_nm 4) (Ev.er ev_int) cm_gt)))) (fun hif => ?_) (fun hif => ?_))
    · refine sts_next (st_app 5 (ev_mod (er_nm 4) (er_ixL (er_nm 2) (er_nm 6) hat) (by omega)) rfl rfl (by simp; simp at hl; omega)) ?_
      refine sts_last (st_set 4 sc_law_numbers.nd (ev_fdiv (er_nm 4) (er_ixL (er_nm 2) (er_nm 6) hat) (by walk_at "div")) ?_)
      have e : drawn (absOf cell) salt sizes (i + 1) = (left / sizeAt sizes i, found ++ [left % sizeAt sizes i]) := by
        unfold drawn
        dsimp only
        rw [hL]
        rw [if_pos (by simpa using hif)]
      refine .eq rfl (.eq rfl (.eq rfl (.eq rfl (.eq ?_ (.eq ?_ (.any (.any .nil)))))))
      · rw [e]
      · rw [e]
        show some (Shape.S.L, D.lst (found.map D.int ++ [_])) = some (Shape.S.L, D.lst ((found ++ [_]).map D.int))
        rw [List.map_append]
        rfl
    · refine sts_next (st_set 7 sc_law_numbers.nd (ev_mod (Ev.er (ev_add (Ev.er (ev_add (Ev.er (ev_add (er_nm 3) (Ev.er (ev_mul (Ev.er ev_int) (er_nm 1) (by walk_at "mul"))))) (Ev.er (ev_mul (Ev.er (ev_mul (Ev.er ev_int) (er_nm 6) (by walk_at "mul"))) (er_nm 6) (by walk_at "mul"))))) (er_nm 6))) (Ev.er ev_int) (by walk_at "sd")) rfl) ?_
      refine sts_next (st_set 7 sc_law_numbers.nd (ev_mod (Ev.er (ev_mul (er_nm 7) (Ev.er ev_int) (by walk_at "mul"))) (Ev.er ev_int) (by walk_at "sd")) rfl) ?_
      refine sts_next (st_set 7 sc_law_numbers.nd (ev_mod (Ev.er (ev_mul (Ev.er (ev_mod (Ev.er (ev_mul (er_nm 7) (er_nm 7) (by walk_at "mul"))) (Ev.er ev_int) (by walk_at "sd"))) (Ev.er ev_int) (by walk_at "mul"))) (Ev.er ev_int) (by walk_at "sd")) rfl) ?_
      refine sts_last (st_app 5 (ev_mod (Ev.er (ev_fdiv (er_nm 7) (Ev.er ev_int) (by walk_at "div"))) (er_ixL (er_nm 2) (er_nm 6) hat) (by omega)) rfl ?_ (by simp; simp at hl; omega))
      have e : drawn (absOf cell) salt sizes (i + 1) = (left, found ++ [mixed (absOf cell) salt (0 + (i : Nat)) / 16 % sizeAt sizes i]) := by
        unfold drawn
        dsimp only
        rw [hL]
        rw [if_neg (by simpa using hif)]
      refine .eq rfl (.eq rfl (.eq rfl (.eq rfl (.eq ?_ (.eq ?_ (.any (.any .nil)))))))
      · rw [e]
      · rw [e]
        show some (Shape.S.L, D.lst (found.map D.int ++ [_])) = some (Shape.S.L, D.lst ((found ++ [_]).map D.int))
        rw [List.map_append]
        rfl
  · exact sts_last (st_retO 5 (by rfl))
end

/-! ### the law's order -/
theorem erase_perm {α : Type} : ∀ (l : List α) (i : Nat) (h : i < l.length), (l[i] :: l.eraseIdx i).Perm l
  | [], i, h => absurd h (Nat.not_lt_zero _)
  | x :: l, 0, _ => .refl _
  | x :: l, i + 1, h => by
    have hi : i < l.length := by simpa using h
    show (l[i] :: x :: l.eraseIdx i).Perm (x :: l)
    exact (List.Perm.swap x l[i] _).trans ((erase_perm l i hi).cons x)
theorem erase_map {α β : Type} (f : α → β) : ∀ (l : List α) (i : Nat), (l.map f).eraseIdx i = (l.eraseIdx i).map f
  | [], _ => rfl
  | _ :: _, 0 => rfl
  | x :: l, i + 1 => by
    show f x :: (l.map f).eraseIdx i = f x :: (l.eraseIdx i).map f
    rw [erase_map f l i]
def namesAt (ds : List Int) : Nat → List Int
  | 0 => (List.range ds.length).map fun i => (0 : Int) + (i : Nat)
  | i + 1 => (namesAt ds i).eraseIdx (ds.getD i 0 % ((namesAt ds i).length : Nat)).toNat
def popped (ds : List Int) (i : Nat) : Int := (namesAt ds i).getD (ds.getD i 0 % ((namesAt ds i).length : Nat)).toNat 0
def order (ds : List Int) : List Int := (List.range ds.length).map (popped ds)
theorem names_step (ds : List Int) (i : Nat) (hi : i < ds.length) (hl : (namesAt ds i).length = ds.length - i) :
    (ds.getD i 0 % ((namesAt ds i).length : Nat)).toNat < (namesAt ds i).length ∧ 0 ≤ ds.getD i 0 % ((namesAt ds i).length : Nat) := by
  have h0 : (0 : Int) < ((namesAt ds i).length : Nat) := by omega
  have h1 := Int.emod_nonneg (ds.getD i 0) (show (((namesAt ds i).length : Nat) : Int) ≠ 0 by omega)
  have h2 := Int.emod_lt_of_pos (ds.getD i 0) h0
  omega
theorem names_len (ds : List Int) : ∀ i, i ≤ ds.length → (namesAt ds i).length = ds.length - i
  | 0, _ => by simp [namesAt]
  | i + 1, hi => by
    have ih := names_len ds i (by omega)
    obtain ⟨h1, h2⟩ := names_step ds i (by omega) ih
    unfold namesAt
    rw [List.length_eraseIdx, if_pos h1]
    omega
theorem names_perm (ds : List Int) : ∀ i, i ≤ ds.length → ((List.range i).map (popped ds) ++ namesAt ds i).Perm (namesAt ds 0)
  | 0, _ => by simp
  | i + 1, hi => by
    have ih := names_perm ds i (by omega)
    obtain ⟨h1, h2⟩ := names_step ds i (by omega) (names_len ds i (by omega))
    refine List.Perm.trans ?_ ih
    rw [List.range_succ, List.map_append, List.append_assoc]
    refine List.Perm.append_left _ ?_
    show (popped ds i :: namesAt ds (i + 1)).Perm (namesAt ds i)
    have e : popped ds i = (namesAt ds i)[(ds.getD i 0 % ((namesAt ds i).length : Nat)).toNat] := by
      unfold popped
      rw [List.getD_eq_getElem?_getD, List.getElem?_eq_getElem h1]
      rfl
    rw [e]
    exact erase_perm _ _ h1
theorem order_perm (ds : List Int) : (order ds).Perm (namesAt ds 0) := by
  have h := names_perm ds ds.length (Nat.le_refl _)
  have e : namesAt ds ds.length = [] := List.length_eq_zero_iff.mp (by rw [names_len ds _ (Nat.le_refl _)]; omega)
  rw [e, List.append_nil] at h
  exact h
theorem order_len (ds : List Int) : (order ds).length = ds.length := by simp [order]
theorem order_in (ds : List Int) {x : Int} (h : x ∈ order ds) : 0 ≤ x ∧ x < ds.length := by
  have := (order_perm ds).mem_iff.mp h
  simp [namesAt] at this
  omega
theorem order_nodup (ds : List Int) : (order ds).Nodup := by
  refine (order_perm ds).nodup_iff.mpr ?_
  unfold namesAt
  show List.Pairwise _ _
  rw [List.pairwise_map]
  exact List.Pairwise.imp (fun h e => h (by omega)) (List.nodup_range (n := ds.length))
def c_law_order : Con := fun ds r => ∃ xs, xs.length ≤ 1000 ∧ ds = [encInts xs] ∧ r = .ok (.L .S) (encInts (order xs))
section
variable {P : Program} {w : World} {K : PySem.W.Frag} {mg : Str → Option Value} {base : Heap} {f : Addr} {fd : FuncData}
theorem ok_law_order (F : Fun K "_law_order" "_law_order" s_law_order f fd) (T : Txt mg) : FnG P w K mg base 1 f fd ["digits"] (spC K c_law_order) := by
  refine def_ok F sc_law_order (by rintro ds r ⟨_, _, rfl, _⟩; rfl) (fun cdv A outer s H E hr ds r hc => ?_)
  obtain ⟨xs, few, rfl, rfl⟩ := hc
  refine sts_next (δ' := [some (.S, encInts xs), some (.L .S, encInts (namesAt xs 0)), none]) (st_set 1 sc_law_order.nd (ev_listR T.b_list T.b_range (Ev.er (ev_lenL T.b_len (er_nm 0))) (by simp; omega)) ?h0) ?_
  case h0 =>
    have e : rng 0 (((xs.map W3.D.int).length : Nat) : Int).toNat = (namesAt xs 0).map W3.D.int := by
      unfold namesAt rng
      simp
    show List.set _ 1 (some (Shape.L .S, W3.D.lst (rng 0 _))) = _
    rw [e]
    rfl
  refine sts_last (st_retM (evm_lcM (items := xs) (enc := W3.D.int) [("digit", 2)] sc_law_order.nd (fun i => [some (.S, encInts xs), some (.L .S, encInts (namesAt xs i)), none]) (src_l (ev_nm 0)) (fun i => .int (popped xs i)) (by omega) (fun i x hx => ?_) (blkOk_by (by rfl)) (fun i => free_of (by rfl))) ?_)
  · obtain ⟨hi, e⟩ := List.getElem?_eq_some_iff.mp hx
    have hl := names_len xs i (by omega)
    obtain ⟨h1, h2⟩ := names_step xs i hi hl
    have ex : xs.getD i 0 = x := by
      rw [List.getD_eq_getElem?_getD, hx]
      rfl
    rw [ex] at h1 h2
    have hlen : ((((namesAt xs i).map W3.D.int).length : Nat) : Int) = ((namesAt xs i).length : Nat) := by rw [List.length_map]
    refine ⟨[some (.S, encInts xs), some (.L .S, encInts (namesAt xs i)), some (.S, .int x)], [2], by walk_at "js", fun X' b' => ?_⟩
    obtain ⟨s1, H1, C1, cl1, fp1, rfl⟩ := b'
    refine ⟨tgt_nm 2 sc_law_order.nd, _, evm_popAt (d := .int (popped xs i)) 1 (Ev.er (ev_mod (er_nm 2) (Ev.er (ev_lenL T.b_len (er_nm 1))) ?_)) rfl ?_ ?_ ?_ ?_ (pe_bm PySem.F.plainAttrs_list PySem.F.slot_list_pop PySem.F.type_list_pop mt_popAt (pv 1) (pa_cons pe_w pa_nil rfl)), ?_⟩
    · rw [hlen]
      omega
    · rw [hlen]
      exact h2
    · rw [hlen]
      omega
    · rw [hlen]
      omega
    · rw [hlen, List.getElem?_map]
      unfold popped
      rw [ex, List.getD_eq_getElem?_getD, List.getElem?_eq_getElem h1]
      rfl
    · refine .eq rfl (.eq ?_ (.any .nil))
      rw [hlen]
      show some (Shape.L .S, W3.D.lst (((namesAt xs i).map W3.D.int).eraseIdx _)) = some (Shape.L .S, W3.D.lst ((namesAt xs (i + 1)).map W3.D.int))
      have e2 : namesAt xs (i + 1) = (namesAt xs i).eraseIdx (x % ((namesAt xs i).length : Nat)).toNat := by
        rw [← ex]
        rfl
      rw [e2, erase_map]
  · show Res.ok _ _ = Res.ok _ _
    unfold order encInts
    rw [List.map_map]
    rfl
end

/-! ### the law's webs -/
theorem at_ints {xs : List Int} {i : Int} {n : Nat} (hn : n < xs.length) (h : i = n) : atI (xs.map W3.D.int) i = some (.int (xs.getD n 0)) := by
  subst h
  refine at_up (by omega) ?_
  rw [Int.toNat_natCast, List.getElem?_map, List.getElem?_eq_getElem hn, List.getD_eq_getElem?_getD, List.getElem?_eq_getElem hn]
  rfl
theorem at_intsN {xs : List Int} {i : Int} {n : Nat} (hn : n < xs.length) (h : i < 0) (h2 : i + xs.length = n) : atI (xs.map W3.D.int) i = some (.int (xs.getD n 0)) := by
  refine at_dn h (by rw [List.length_map]; omega) ?_
  rw [List.length_map, h2, Int.toNat_natCast, List.getElem?_map, List.getElem?_eq_getElem hn, List.getD_eq_getElem?_getD, List.getElem?_eq_getElem hn]
  rfl
theorem getD_of {α : Type} {xs : List α} {i : Nat} {x d : α} (h : xs[i]? = some x) : xs.getD i d = x := by
  rw [List.getD_eq_getElem?_getD, h]
  rfl
theorem cut_ints (xs : List Int) {lo hi : Int} (a b : Nat) (h1 : lo = a) (h2 : hi = (a + b : Nat)) (h3 : a + b ≤ xs.length) : cutD (xs.map W3.D.int) (some lo) (some hi) = ((xs.drop a).take b).map W3.D.int := by
  subst h1 h2
  unfold cutD
  rw [HT.sIx_nat, HT.sIx_nat, List.length_map]
  have e1 : min a xs.length = a := Nat.min_eq_left (by omega)
  have e2 : min (a + b) xs.length = a + b := Nat.min_eq_left h3
  rw [e1, e2, ← List.map_drop, ← List.map_take, Nat.add_sub_cancel_left]
theorem rep_ints (n : Nat) (x : Int) : (List.replicate n [W3.D.int x]).flatten = (List.replicate n x).map W3.D.int := by
  induction n with
  | zero => rfl
  | succ n ih =>
    rw [List.replicate_succ, List.flatten_cons, ih]
    rfl
def webM (cell salt most : Int) : Nat := (1 + (numbers cell salt [most]).getD 0 0).toNat
def sizesA (most more : Int) (m : Nat) : List Int := ([most, more + 1] ++ (List.range (m - 1)).map (fun k => (0 : Int) + (k : Nat) + 1)) ++ (List.range m).map (fun k => (m : Int) - (0 + (k : Nat)))
def sizesB (most more : Int) (m : Nat) : List Int := (sizesA most more m ++ List.replicate more.toNat ((m : Int) * m)) ++ List.replicate (m - 1) 3
theorem sizesA_len (most more : Int) (m : Nat) (hm : 1 ≤ m) : (sizesA most more m).length = 2 * m + 1 := by
  simp [sizesA]
  omega
theorem sizesB_len (most more : Int) (m : Nat) (hm : 1 ≤ m) : (sizesB most more m).length = 2 * m + 1 + more.toNat + (m - 1) := by
  simp [sizesB, sizesA_len most more m hm]
  omega
theorem sizesB_1 (most more : Int) (m : Nat) : (sizesB most more m)[1]? = some (more + 1) := by
  simp [sizesB, sizesA]
theorem sizesB_2 (most more : Int) (m k : Nat) (hk : k < m - 1) : (sizesB most more m)[2 + k]? = some ((k : Int) + 1) := by
  have hA := sizesA_len most more m (by omega)
  unfold sizesB
  rw [List.append_assoc, List.getElem?_append_left (by omega)]
  unfold sizesA
  rw [List.getElem?_append_left (by simp; omega), List.getElem?_append_right (by simp)]
  simp
  exact ⟨k, List.getElem?_range hk, rfl⟩
theorem sizesB_3 (most more : Int) (m j : Nat) (hm : 1 ≤ m) (hj : j < more.toNat) : (sizesB most more m)[2 * m + 1 + j]? = some ((m : Int) * m) := by
  have hA := sizesA_len most more m hm
  unfold sizesB
  rw [List.append_assoc, List.getElem?_append_right (by omega), hA, List.getElem?_append_left (by simp; omega), List.getElem?_replicate, if_pos (by omega)]
theorem sizesB_ok {most more : Int} {m : Nat} (h1 : 1 ≤ most) (h2 : most ≤ 40) (h3 : 0 ≤ more) (h4 : more ≤ 80) (hm : 1 ≤ m) (hm2 : m ≤ 40) : SizesOk (sizesB most more m) := by
  refine ⟨by rw [sizesB_len most more m hm]; omega, fun s hs => ?_⟩
  have mm : 1 ≤ (m : Int) * m ∧ (m : Int) * m ≤ 1600 := by
    have a : m * m ≤ 40 * 40 := Nat.mul_le_mul hm2 hm2
    have b : 1 * 1 ≤ m * m := Nat.mul_le_mul hm hm
    have c : ((m * m : Nat) : Int) = (m : Int) * m := by simp
    omega
  simp [sizesB, sizesA] at hs
  rcases hs with h | h | ⟨k, hk, h⟩ | ⟨k, hk, h⟩ | ⟨_, h⟩ | ⟨_, h⟩ <;> omega
def pairsA (loose : Bool) (m : Nat) (ds : List Int) : List Tie := ((List.range (m - 1)).filter (fun k => !loose || decide (0 < ds.getD (ds.length - 1 - k) 0))).map (fun k => ((0 : Int) + (k : Nat) + 1, ds.getD (2 + k) 0))
def extras (m : Nat) (ds : List Int) : List Int := (ds.drop (2 * m + 1)).take (ds.getD 1 0).toNat
def pairsOf (loose : Bool) (m : Nat) (ds : List Int) : List Tie := pairsA loose m ds ++ (extras m ds).map (fun x => (x / (m : Int), x % (m : Int)))
def tieOf (ord : List Int) (p : Tie) : Tie := (if ord.getD p.2.toNat 0 < ord.getD p.1.toNat 0 then ord.getD p.2.toNat 0 else ord.getD p.1.toNat 0, if ord.getD p.2.toNat 0 > ord.getD p.1.toNat 0 then ord.getD p.2.toNat 0 else ord.getD p.1.toNat 0)
def addT (ts : List Tie) (t : Tie) : List Tie := if t ∈ ts then ts else ts ++ [t]
def keysAt (ord : List Int) (ps : List Tie) : Nat → List Tie
  | 0 => []
  | i + 1 => if (ps.getD i (0, 0)).1 = (ps.getD i (0, 0)).2 then keysAt ord ps i else addT (keysAt ord ps i) (tieOf ord (ps.getD i (0, 0)))
def webFrom (most more : Int) (loose : Bool) (m : Nat) (ds : List Int) : Web := ((m : Int), (keysAt (order ((ds.drop (m + 1)).take m)) (pairsOf loose m ds) (pairsOf loose m ds).length).mergeSort leP)
def webOf (cell salt most more : Int) (loose : Bool) : Web := webFrom most more loose (webM cell salt most) (numbers cell salt (sizesB most more (webM cell salt most)))
theorem webM_in {cell salt most : Int} (h1 : 1 ≤ most) (h2 : most ≤ 40) : 1 ≤ webM cell salt most ∧ (webM cell salt most : Int) ≤ most ∧ 1 + (numbers cell salt [most]).getD 0 0 = (webM cell salt most : Nat) := by
  obtain ⟨x, hx, h3, h4⟩ := numbers_in cell salt (sizes := [most]) ⟨by simp, fun s hs => by simp at hs; omega⟩ (k := 0) (z := most) rfl
  unfold webM
  rw [getD_of hx]
  omega
/-- what the digits are -/
structure Digs (more : Int) (m : Nat) (ds : List Int) : Prop where
  len : ds.length = 2 * m + 1 + more.toNat + (m - 1)
  d1 : 0 ≤ ds.getD 1 0 ∧ ds.getD 1 0 ≤ more
  d2 : ∀ k, k < m - 1 → 0 ≤ ds.getD (2 + k) 0 ∧ ds.getD (2 + k) 0 < k + 1
  d3 : ∀ j, j < more.toNat → 0 ≤ ds.getD (2 * m + 1 + j) 0 ∧ ds.getD (2 * m + 1 + j) 0 < (m : Int) * m
theorem digs (cell salt : Int) {most more : Int} {m : Nat} (h1 : 1 ≤ most) (h2 : most ≤ 40) (h3 : 0 ≤ more) (h4 : more ≤ 80) (hm : 1 ≤ m) (hm2 : m ≤ 40) : Digs more m (numbers cell salt (sizesB most more m)) := by
  have ok := sizesB_ok h1 h2 h3 h4 hm hm2
  refine ⟨by rw [numbers_len, sizesB_len most more m hm], ?_, fun k hk => ?_, fun j hj => ?_⟩
  · obtain ⟨x, hx, a, b⟩ := numbers_in cell salt ok (sizesB_1 most more m)
    rw [getD_of hx]
    omega
  · obtain ⟨x, hx, a, b⟩ := numbers_in cell salt ok (sizesB_2 most more m k hk)
    rw [getD_of hx]
    omega
  · obtain ⟨x, hx, a, b⟩ := numbers_in cell salt ok (sizesB_3 most more m j hm hj)
    rw [getD_of hx]
    omega
section
variable {more : Int} {m : Nat} {ds : List Int} {loose : Bool}
theorem pairs_in (hm : 1 ≤ m) (D : Digs more m ds) : ∀ p ∈ pairsOf loose m ds, 0 ≤ p.1 ∧ p.1 < m ∧ 0 ≤ p.2 ∧ p.2 < m := by
  intro p hp
  unfold pairsOf at hp
  rcases List.mem_append.mp hp with h | h
  · unfold pairsA at h
    obtain ⟨k, hk, rfl⟩ := List.mem_map.mp h
    have hk2 := List.mem_range.mp (List.mem_filter.mp hk).1
    have := D.d2 k hk2
    exact ⟨by show (0 : Int) ≤ 0 + (k : Nat) + 1; omega, by show (0 : Int) + (k : Nat) + 1 < m; omega, this.1, by show ds.getD (2 + k) 0 < m; omega⟩
  · obtain ⟨x, hx, rfl⟩ := List.mem_map.mp h
    unfold extras at hx
    obtain ⟨j, hj⟩ := List.getElem?_of_mem hx
    rw [List.getElem?_take] at hj
    split at hj
    · rename_i hlt
      rw [List.getElem?_drop] at hj
      have d1 := D.d1
      have := D.d3 j (by omega)
      rw [getD_of hj] at this
      have m0 : (0 : Int) < m := by omega
      exact ⟨Int.ediv_nonneg this.1 (by omega), Int.ediv_lt_of_lt_mul m0 this.2, Int.emod_nonneg _ (by omega), Int.emod_lt_of_pos _ m0⟩
    · cases hj
theorem pairs_len (D : Digs more m ds) : (pairsOf loose m ds).length ≤ m - 1 + more.toNat := by
  unfold pairsOf pairsA extras
  rw [List.length_append, List.length_map, List.length_map, List.length_take]
  have := List.length_filter_le (fun k => !loose || decide (0 < ds.getD (ds.length - 1 - k) 0)) (List.range (m - 1))
  rw [List.length_range] at this
  have d1 := D.d1
  omega
end
theorem tieOf_ok {ord : List Int} {m : Nat} (hl : ord.length = m) (hin : ∀ x ∈ ord, 0 ≤ x ∧ x < m) (nd : ord.Nodup) {p : Tie} (h1 : 0 ≤ p.1) (h2 : p.1 < m) (h3 : 0 ≤ p.2) (h4 : p.2 < m) (h5 : p.1 ≠ p.2) : TieOk m (tieOf ord p) := by
  have l1 : p.1.toNat < ord.length := by omega
  have l2 : p.2.toNat < ord.length := by omega
  have a := hin _ (List.getElem_mem l1)
  have b := hin _ (List.getElem_mem l2)
  have ne : ord[p.1.toNat] ≠ ord[p.2.toNat] := fun e => by
    have := (List.getElem_inj nd).mp e
    omega
  unfold tieOf
  rw [getD_of (List.getElem?_eq_getElem l1), getD_of (List.getElem?_eq_getElem l2)]
  refine ⟨?_, ?_, ?_⟩
  · dsimp only
    split <;> omega
  · dsimp only
    split <;> split <;> omega
  · dsimp only
    split <;> omega
theorem addT_mem {ts : List Tie} {t u : Tie} (h : u ∈ addT ts t) : u ∈ ts ∨ u = t := by
  unfold addT at h
  split at h
  · exact .inl h
  · rcases List.mem_append.mp h with h | h
    · exact .inl h
    · exact .inr (by simpa using h)
theorem keys_ok {ord : List Int} {ps : List Tie} {m : Nat} (h : ∀ p ∈ ps, p.1 ≠ p.2 → TieOk m (tieOf ord p)) : ∀ i, i ≤ ps.length → (∀ t ∈ keysAt ord ps i, TieOk m t) ∧ (keysAt ord ps i).Nodup ∧ (keysAt ord ps i).length ≤ i
  | 0, _ => ⟨fun t ht => by simp [keysAt] at ht, by simp [keysAt], by simp [keysAt]⟩
  | i + 1, hi => by
    obtain ⟨a, b, c⟩ := keys_ok h i (by omega)
    have hp : ps.getD i (0, 0) ∈ ps := by
      rw [getD_of (List.getElem?_eq_getElem (show i < ps.length by omega))]
      exact List.getElem_mem _
    unfold keysAt
    split
    · exact ⟨a, b, by omega⟩
    · rename_i ne
      refine ⟨fun t ht => ?_, ?_, ?_⟩
      · rcases addT_mem ht with z | rfl
        · exact a t z
        · exact h _ hp ne
      · unfold addT
        split
        · exact b
        · rename_i nm
          exact List.nodup_append.mpr ⟨b, by simp, fun x hx y hy e => by simp at hy; subst hy; subst e; exact nm hx⟩
      · unfold addT
        split
        · omega
        · simp
          omega
theorem webFrom_ok {most more : Int} {m : Nat} {ds : List Int} {loose : Bool} (h4 : more ≤ 80) (hm : 1 ≤ m) (hm2 : m ≤ 40) (D : Digs more m ds) : WebOk (webFrom most more loose m ds) := by
  have d1 := D.d1
  have hl : (order ((ds.drop (m + 1)).take m)).length = m := by
    rw [order_len, List.length_take, List.length_drop, D.len]
    omega
  have hlen : ((ds.drop (m + 1)).take m).length = m := by rw [← order_len]; exact hl
  have hin : ∀ x ∈ order ((ds.drop (m + 1)).take m), 0 ≤ x ∧ x < m := fun x hx => by
    have := order_in _ hx
    rw [hlen] at this
    exact this
  have pin := pairs_in (loose := loose) hm D
  have pl := pairs_len (loose := loose) D
  obtain ⟨a, b, c⟩ := keys_ok (m := m) (fun p hp ne => by
    obtain ⟨q1, q2, q3, q4⟩ := pin p hp
    exact tieOf_ok hl hin (order_nodup _) q1 q2 q3 q4 ne) (pairsOf loose m ds).length (Nat.le_refl _)
  have pm := List.mergeSort_perm (keysAt (order ((ds.drop (m + 1)).take m)) (pairsOf loose m ds) (pairsOf loose m ds).length) leP
  refine ⟨?_, ?_, ?_, fun t ht => a t (pm.mem_iff.mp ht), ?_⟩
  · show (1 : Int) ≤ m
    omega
  · show (m : Int) ≤ 40
    omega
  · show (List.mergeSort _ _).length ≤ 120
    rw [List.length_mergeSort]
    omega
  · show (List.mergeSort _ _).Pairwise ltP
    have so := List.pairwise_mergeSort (le := leP) (fun x y z h1 h2 => by
      simp only [leP, decide_eq_true_eq] at *
      omega) (fun x y => by
      simp only [leP, Bool.or_eq_true, decide_eq_true_eq]
      omega) (keysAt (order ((ds.drop (m + 1)).take m)) (pairsOf loose m ds) (pairsOf loose m ds).length)
    have nd : (List.mergeSort (keysAt (order ((ds.drop (m + 1)).take m)) (pairsOf loose m ds) (pairsOf loose m ds).length) leP).Pairwise (· ≠ ·) := pm.nodup_iff.mpr b
    refine (so.and nd).imp fun {x y} ⟨h1, h2⟩ => ?_
    simp only [leP, decide_eq_true_eq] at h1
    rcases h1 with h1 | ⟨h1, h3⟩
    · exact .inl h1
    · refine .inr ⟨h1, ?_⟩
      have : x.2 ≠ y.2 := fun e => h2 (Prod.ext h1 e)
      omega
theorem webOf_ok {cell salt most more : Int} {loose : Bool} (h1 : 1 ≤ most) (h2 : most ≤ 40) (h3 : 0 ≤ more) (h4 : more ≤ 80) : WebOk (webOf cell salt most more loose) := by
  obtain ⟨a, b, c⟩ := webM_in (cell := cell) (salt := salt) h1 h2
  exact webFrom_ok h4 a (by omega) (digs cell salt h1 h2 h3 h4 a (by omega))

theorem keys_len (ord : List Int) (ps : List Tie) : ∀ i, (keysAt ord ps i).length ≤ i
  | 0 => by simp [keysAt]
  | i + 1 => by
    have ih := keys_len ord ps i
    unfold keysAt
    split
    · omega
    · unfold addT
      split
      · omega
      · simp
        omega
theorem kP_inj {s t : Tie} (h : kP s = kP t) : s = t := by
  unfold kP at h
  injection h with h1 h2
  injection h2 with h2 _
  injection h1 with h1
  injection h2 with h2
  exact Prod.ext h1 h2
theorem putD_true (ts : List Tie) (t : Tie) : putD (ts.map fun u => (kP u, W3.D.bl true)) (kP t) (W3.D.bl true) = (addT ts t).map fun u => (kP u, W3.D.bl true) := by
  have ea : ((ts.map fun u => (kP u, W3.D.bl true)).any fun kd => decide (kd.1 = kP t)) = decide (t ∈ ts) := by
    rw [Bool.eq_iff_iff]
    simp only [List.any_map, List.any_eq_true, Function.comp_apply, decide_eq_true_eq]
    exact ⟨fun ⟨x, hx, e⟩ => kP_inj e ▸ hx, fun h => ⟨t, h, rfl⟩⟩
  unfold putD addT
  rw [ea]
  by_cases h : t ∈ ts
  · rw [if_pos (by simpa using h), if_pos h, List.map_map]
    refine List.map_congr_left fun u _ => ?_
    show (if kP u = kP t then (kP u, W3.D.bl true) else (kP u, W3.D.bl true)) = _
    split <;> rfl
  · rw [if_neg (by simpa using h), if_neg h, List.map_append]
    rfl
def c_law_web : Con := fun ds r => ∃ cell salt most more loose, (1 ≤ most ∧ most ≤ 40 ∧ 0 ≤ more ∧ more ≤ 80) ∧ ds = [.int cell, .int salt, .int most, .int more, .bl loose] ∧ r = .ok .S (encWeb (webOf cell salt most more loose))
section
variable {P : Program} {w : World} {K : PySem.W.Frag} {mg : Str → Option Value} {base : Heap} {f : Addr} {fd : FuncData}
theorem ok_law_web (F : Fun K "_law_web" "_law_web" s_law_web f fd) (T : Txt mg) (H_law_numbers : FnC P w K mg base 1 "_law_numbers" c_law_numbers) (H_law_order : FnC P w K mg base 1 "_law_order" c_law_order) : FnG P w K mg base 2 f fd ["cell", "salt", "most", "more", "loose"] (spC K c_law_web) := by
  refine def_ok F sc_law_web (by rintro ds r ⟨_, _, _, _, _, _, rfl, _⟩; rfl) (fun cdv A outer s H E hr ds r hc => ?_)
  obtain ⟨cell, salt, most, more, loose, ⟨b1, b2, b3, b4⟩, rfl, rfl⟩ := hc
  obtain ⟨hm1, hm2, hm3⟩ := webM_in (cell := cell) (salt := salt) b1 b2
  have h1ok : SizesOk [most] := ⟨by simp, fun s hs => by simp at hs; omega⟩
  have hone := numbers_len cell salt [most]
  -- many = 1 + _law_numbers(cell, salt, [most])[0]
  refine sts_next (δ' := [some (.S, .int cell), some (.S, .int salt), some (.S, .int most), some (.S, .int more), some (.S, .bl loose), some (.S, .int (webM cell salt most)), none, none, none, none, none, none, none, none, none]) (st_set 5 sc_law_web.nd (ev_add (Ev.er ev_int) (er_ixL (Ev.er (ev_call H_law_numbers (hr.mono (by decide)) (ea_cons (ev_nm 0) (ea_cons (ev_nm 1) (ea_cons (Ev.fz (ev_lst (ea_cons (ev_nm 2) ea_nil) (by walk_at "sz"))) ea_nil))) ⟨cell, salt, [most], h1ok, by rfl, by rfl⟩)) (Ev.er ev_int) (at_ints (n := 0) (by rw [hone]; simp) rfl))) ?q5) ?_
  case q5 =>
    show List.set _ 5 (some (Shape.S, W3.D.int _)) = _
    rw [hm3]
    rfl
  unfold webOf
  generalize webM cell salt most = m at hm1 hm2
  have mm : (m : Int) * m ≤ 1600 := by
    have a : m * m ≤ 40 * 40 := Nat.mul_le_mul (by omega) (by omega)
    have c : ((m * m : Nat) : Int) = (m : Int) * m := by simp
    omega
  have et : ((m : Int) - 1).toNat = m - 1 := by omega
  -- sizes = [most, more + 1] + [k + 1 for k in range(many - 1)] + [many - k for k in range(many)]
  refine sts_next (δ' := [some (.S, .int cell), some (.S, .int salt), some (.S, .int most), some (.S, .int more), some (.S, .bl loose), some (.S, .int m), some (.S, encInts (sizesA most more m)), none, none, none, none, none, none, none, none]) (st_set 6 sc_law_web.nd (Ev.fz (ev_cat (Ev.fz (ev_cat (Ev.fz (ev_lst (ea_cons (ev_nm 2) (ea_cons (ev_add (er_nm 3) (Ev.er ev_int)) ea_nil)) (by walk_at "sz"))) (Ev.fz (ev_lcA (items := List.range ((m : Int) - 1).toNat) (enc := fun i : Nat => .int (0 + (i : Nat))) [("k", 13)] sc_law_web.nd (src_r1 T.b_range (Ev.er (ev_sub (er_nm 5) (Ev.er ev_int))) (by omega)) (fun x => .int (0 + (x : Nat) + 1)) (by rw [List.length_range]; omega) (fun x hx => turn_of (fun X' b' => by obtain ⟨s1, H1, C1, cl1, fp1, rfl⟩ := b'; exact ⟨(tgt_nm 13 sc_law_web.nd), etl_nil, fun _ => (ev_add (er_nm 13) (Ev.er ev_int))⟩) (by walk_at "js")) (blkOk_by (by rfl)) (free_of (by rfl)))) (by simp; omega))) (Ev.fz (ev_lcA (items := List.range (m : Int).toNat) (enc := fun i : Nat => .int (0 + (i : Nat))) [("k", 13)] sc_law_web.nd (src_r1 T.b_range (er_nm 5) (by omega)) (fun x => .int ((m : Int) - (0 + (x : Nat)))) (by rw [List.length_range]; omega) (fun x hx => turn_of (fun X' b' => by obtain ⟨s1, H1, C1, cl1, fp1, rfl⟩ := b'; exact ⟨(tgt_nm 13 sc_law_web.nd), etl_nil, fun _ => (ev_sub (er_nm 5) (er_nm 13))⟩) (by walk_at "js")) (blkOk_by (by rfl)) (free_of (by rfl)))) (by simp; omega))) ?q6) ?_
  case q6 =>
    show List.set _ 6 (some (Shape.S, W3.D.lst (([W3.D.int most, W3.D.int (more + 1)] ++ _) ++ _))) = _
    have e : encInts (sizesA most more m) = W3.D.lst (([W3.D.int most, W3.D.int (more + 1)] ++ (List.range ((m : Int) - 1).toNat).map (fun x : Nat => W3.D.int (0 + (x : Nat) + 1))) ++ (List.range (m : Int).toNat).map (fun x : Nat => W3.D.int ((m : Int) - (0 + (x : Nat))))) := by
      rw [et, Int.toNat_natCast]
      unfold encInts sizesA
      rw [List.map_append, List.map_append, List.map_map, List.map_map]
      rfl
    rw [e]
    rfl
  -- digits = _law_numbers(cell, salt, sizes + [many * many] * more + [3] * (many - 1))
  have sok := sizesB_ok b1 b2 b3 b4 hm1 (show m ≤ 40 by omega)
  have sAl := sizesA_len most more m hm1
  have D := digs cell salt b1 b2 b3 b4 hm1 (show m ≤ 40 by omega)
  refine sts_next (δ' := [some (.S, .int cell), some (.S, .int salt), some (.S, .int most), some (.S, .int more), some (.S, .bl loose), some (.S, .int m), some (.S, encInts (sizesA most more m)), some (.S, encInts (numbers cell salt (sizesB most more m))), none, none, none, none, none, none, none]) (st_set 7 sc_law_web.nd (Ev.fz (ev_call H_law_numbers (hr.mono (by decide)) (ea_cons (ev_nm 0) (ea_cons (ev_nm 1) (ea_cons (Ev.fz (ev_cat (Ev.fz (ev_cat (ev_nm 6) (Ev.fz (ev_rep (ev_lst (ea_cons (ev_mul (er_nm 5) (er_nm 5) (by walk_at "mul")) ea_nil) (by walk_at "sz")) (er_nm 3) (by omega) (by omega) (by simp; omega))) (by rw [rep_ints]; simp; omega))) (Ev.fz (ev_rep (ev_lst (ea_cons ev_int ea_nil) (by walk_at "sz")) (Ev.er (ev_sub (er_nm 5) (Ev.er ev_int))) (by omega) (by omega) (by simp; omega))) (by rw [rep_ints, rep_ints]; simp; omega))) ea_nil))) ⟨cell, salt, sizesB most more m, sok, ?q7, by rfl⟩)) rfl) ?_
  case q7 =>
    rw [rep_ints, rep_ints, et]
    unfold encInts sizesB
    rw [List.map_append, List.map_append]
  unfold webFrom
  generalize numbers cell salt (sizesB most more m) = ds at D
  have dl := D.len
  have d1 := D.d1
  -- order = _law_order(digits[many + 1:2 * many + 1])
  refine sts_next (δ' := [some (.S, .int cell), some (.S, .int salt), some (.S, .int most), some (.S, .int more), some (.S, .bl loose), some (.S, .int m), some (.S, encInts (sizesA most more m)), some (.S, encInts ds), some (.S, encInts (order ((ds.drop (m + 1)).take m))), none, none, none, none, none, none]) (st_set 8 sc_law_web.nd (Ev.fz (ev_call H_law_order (hr.mono (by decide)) (ea_cons (Ev.fz (ev_slL (ev_nm 7) (eo_some (Ev.er (ev_add (er_nm 5) (Ev.er ev_int)))) (eo_some (Ev.er (ev_add (Ev.er (ev_mul (Ev.er ev_int) (er_nm 5) (by walk_at "mul"))) (Ev.er ev_int)))))) ea_nil) ⟨(ds.drop (m + 1)).take m, by simp; omega, ?q8, by rfl⟩)) rfl) ?_
  case q8 =>
    rw [cut_ints ds (m + 1) m (by omega) (by omega) (by omega)]
    rfl
  have hol : (order ((ds.drop (m + 1)).take m)).length = m := by
    rw [order_len, List.length_take, List.length_drop]
    omega
  have pin := pairs_in (loose := loose) hm1 D
  have pl := pairs_len (loose := loose) D
  have pA : (pairsA loose m ds).length ≤ m - 1 := by
    unfold pairsA
    rw [List.length_map]
    have := List.length_filter_le (fun k => !loose || decide (0 < ds.getD (ds.length - 1 - k) 0)) (List.range (m - 1))
    rw [List.length_range] at this
    exact this
  -- pairs = [(k + 1, digits[2 + k]) for k in range(many - 1) if not loose or digits[-1 - k] > 0]
  refine sts_next (δ' := [some (.S, .int cell), some (.S, .int salt), some (.S, .int most), some (.S, .int more), some (.S, .bl loose), some (.S, .int m), some (.S, encInts (sizesA most more m)), some (.S, encInts ds), some (.S, encInts (order ((ds.drop (m + 1)).take m))), some (.L .S, .lst ((pairsA loose m ds).map dP)), none, none, none, none, none]) (st_setlc (items := List.range ((m : Int) - 1).toNat) (enc := fun i : Nat => .int (0 + (i : Nat))) [("k", 13)] 9 sc_law_web.nd (src_r1 T.b_range (Ev.er (ev_sub (er_nm 5) (Ev.er ev_int))) (by omega)) (fun k => !loose || decide (0 < ds.getD (ds.length - 1 - k) 0)) (fun k => .tup [.int ((0 : Int) + (k : Nat) + 1), .int (ds.getD (2 + k) 0)]) (by rw [List.length_range]; omega) (fun x hx => turn_of (fun X' b' => by
    obtain ⟨s1, H1, C1, cl1, fp1, rfl⟩ := b'
    have hx' := List.mem_range.mp hx
    exact ⟨(tgt_nm 13 sc_law_web.nd), (etl_one (et_w (ew_or (et_not (et_ev (er_nm 4))) fun h_or => (ew_or1 (et_cm (er_ixL (er_nm 7) (Ev.er (ev_sub (Ev.er (ev_neg (Ev.er ev_int))) (er_nm 13))) (at_intsN (n := ds.length - 1 - x) (by omega) (by omega) (by omega))) (Ev.er ev_int) cm_gt))))), fun _ => (ev_tup (ea_cons (ev_add (er_nm 13) (Ev.er ev_int)) (ea_cons (ev_ixL (ev_nm 7) (Ev.er (ev_add (Ev.er ev_int) (er_nm 13))) (at_ints (n := 2 + x) (by omega) (by omega))) ea_nil)) (by walk_at "sz"))⟩) (by walk_at "js")) (blkOk_by (by rfl)) (free_of (by rfl)) ?q9 (sw_true rfl rfl rfl (by decide +kernel))) ?_
  case q9 =>
    rw [et]
    unfold pairsA
    rw [List.map_map]
    rfl
  -- pairs.extend([(digit // many, digit % many) for digit in digits[2 * many + 1:2 * many + 1 + digits[1]]])
  have exl : (extras m ds).length ≤ 80 := by
    unfold extras
    rw [List.length_take]
    omega
  refine sts_next (δ' := [some (.S, .int cell), some (.S, .int salt), some (.S, .int most), some (.S, .int more), some (.S, .bl loose), some (.S, .int m), some (.S, encInts (sizesA most more m)), some (.S, encInts ds), some (.S, encInts (order ((ds.drop (m + 1)).take m))), some (.L .S, .lst ((pairsOf loose m ds).map dP)), none, none, none, none, none]) (st_ext 9 (Ev.fz (ev_lcA (items := extras m ds) (enc := W3.D.int) [("digit", 14)] sc_law_web.nd (src_l (Ev.fz (Ev.eq (ev_slL (ev_nm 7) (eo_some (Ev.er (ev_add (Ev.er (ev_mul (Ev.er ev_int) (er_nm 5) (by walk_at "mul"))) (Ev.er ev_int)))) (eo_some (Ev.er (ev_add (Ev.er (ev_add (Ev.er (ev_mul (Ev.er ev_int) (er_nm 5) (by walk_at "mul"))) (Ev.er ev_int))) (er_ixL (er_nm 7) (Ev.er ev_int) (at_ints (n := 1) (by omega) rfl)))))) (by
      rw [cut_ints ds (2 * m + 1) (ds.getD 1 0).toNat (by omega) (by omega) (by omega)]
      rfl)))) (fun x => .tup [.int (x / (m : Int)), .int (x % (m : Int))]) (by omega) (fun x hx => turn_of (fun X' b' => by obtain ⟨s1, H1, C1, cl1, fp1, rfl⟩ := b'; exact ⟨(tgt_nm 14 sc_law_web.nd), etl_nil, fun _ => (ev_tup (ea_cons (ev_fdiv (er_nm 14) (er_nm 5) ⟨by omega, by omega⟩) (ea_cons (ev_mod (er_nm 14) (er_nm 5) (by omega)) ea_nil)) (by walk_at "sz"))⟩) (by walk_at "js")) (blkOk_by (by rfl)) (free_of (by rfl)))) rfl ?q10 (by simp; omega)) ?_
  case q10 =>
    show List.set _ 9 (some (Shape.L .S, W3.D.lst (_ ++ _))) = _
    unfold pairsOf
    rw [List.map_append, List.map_map]
    rfl
  refine sts_frz 9 ?_
  -- ties = {}
  refine sts_next (st_set 10 sc_law_web.nd ev_dnewT rfl) ?_
  -- for one, other in pairs:
  refine sts_next (δ' := [some (.S, .int cell), some (.S, .int salt), some (.S, .int most), some (.S, .int more), some (.S, .bl loose), some (.S, .int m), some (.S, encInts (sizesA most more m)), some (.S, encInts ds), some (.S, encInts (order ((ds.drop (m + 1)).take m))), some (.S, .lst ((pairsOf loose m ds).map dP)), some (.MT .S, .dT ((keysAt (order ((ds.drop (m + 1)).take m)) (pairsOf loose m ds) (pairsOf loose m ds).length).map fun u => (kP u, W3.D.bl true))), none, none, none, none])
    (st_for PassesOwn.leaving (src_l (ev_nm 9)) (fun i => [some (.S, .int cell), some (.S, .int salt), some (.S, .int most), some (.S, .int more), some (.S, .bl loose), some (.S, .int m), some (.S, encInts (sizesA most more m)), some (.S, encInts ds), some (.S, encInts (order ((ds.drop (m + 1)).take m))), some (.S, .lst ((pairsOf loose m ds).map dP)), some (.MT .S, .dT ((keysAt (order ((ds.drop (m + 1)).take m)) (pairsOf loose m ds) i).map fun u => (kP u, W3.D.bl true))), none, none, none, none])
      (.eq rfl (.eq rfl (.eq rfl (.eq rfl (.eq rfl (.eq rfl (.eq rfl (.eq rfl (.eq rfl (.eq rfl (.eq rfl (.any (.any (.any (.any .nil))))))))))))))) (fun i d hd => ?_) ?hd) ?_
  case hd =>
    rw [List.length_map]
  · rw [List.getElem?_map] at hd
    cases hp : (pairsOf loose m ds)[i]? with
    | none =>
      rw [hp] at hd
      cases hd
    | some p =>
      rw [hp] at hd
      cases hd
      have hpm := pin p (List.mem_of_getElem? hp)
      have hpd : (pairsOf loose m ds).getD i (0, 0) = p := getD_of hp
      have hil : i < (pairsOf loose m ds).length := (List.getElem?_eq_some_iff.mp hp).1
      have hk : keysAt (order ((ds.drop (m + 1)).take m)) (pairsOf loose m ds) (i + 1) = if p.1 = p.2 then keysAt (order ((ds.drop (m + 1)).take m)) (pairsOf loose m ds) i else addT (keysAt (order ((ds.drop (m + 1)).take m)) (pairsOf loose m ds) i) (tieOf (order ((ds.drop (m + 1)).take m)) p) := by
        rw [← hpd]
        rfl
      have hkl' := keys_len (order ((ds.drop (m + 1)).take m)) (pairsOf loose m ds) i
      generalize order ((ds.drop (m + 1)).take m) = ord at hol hk hkl'
      refine ⟨_, _, (tgt_tup (tgts_cons (tgt_nm 11 sc_law_web.nd) (tgts_cons (tgt_nm 12 sc_law_web.nd) tgts_nil))), ?_⟩
      refine sts_last (st_if (et_cm (er_nm 11) (er_nm 12) cm_neI) (fun hif => ?_) (fun hif => ?_))
      · have ne : p.1 ≠ p.2 := by simpa using hif
        refine sts_last (st_dputT 10 (kP (tieOf ord p)) hr ev_bl (ev_tup (ea_cons (ev_min2 T.b_min (er_ixL (er_nm 8) (er_nm 11) (at_ints (n := p.1.toNat) (by omega) (by omega))) (er_ixL (er_nm 8) (er_nm 12) (at_ints (n := p.2.toNat) (by omega) (by omega)))) (ea_cons (ev_max2 T.b_max (er_ixL (er_nm 8) (er_nm 11) (at_ints (n := p.1.toNat) (by omega) (by omega))) (er_ixL (er_nm 8) (er_nm 12) (at_ints (n := p.2.toNat) (by omega) (by omega)))) ea_nil)) (by show 2 ≤ 100000; decide)) rfl ?_ (by simp; omega) (pv 10))
        refine .eq rfl (.eq rfl (.eq rfl (.eq rfl (.eq rfl (.eq rfl (.eq rfl (.eq rfl (.eq rfl (.eq rfl (.eq ?_ (.any (.any (.any (.any .nil))))))))))))))
        rw [hk, if_neg ne, ← putD_true]
      · have eq : p.1 = p.2 := by simpa using hif
        refine sts_nil (.eq rfl (.eq rfl (.eq rfl (.eq rfl (.eq rfl (.eq rfl (.eq rfl (.eq rfl (.eq rfl (.eq rfl (.eq ?_ (.any (.any (.any (.any .nil)))))))))))))))
        rw [hk, if_pos eq]
  -- return (many, sorted(ties))
  · refine sts_last (st_ret (ev_tup (ea_cons (ev_nm 5) (ea_cons (Ev.fz (ev_sortedT (bs := keysAt (order ((ds.drop (m + 1)).take m)) (pairsOf loose m ds) (pairsOf loose m ds).length) T.b_sorted hr (er_nm 10) ?_ ?_)) ea_nil)) (by walk_at "sz")) ?_)
    · rw [List.map_map]
      rfl
    · have := keys_len (order ((ds.drop (m + 1)).take m)) (pairsOf loose m ds) (pairsOf loose m ds).length
      omega
    · rfl
end

/-! ### law k82 -/
structure ReprOk (d : W3.D) : Prop where
  h0 : okD d = true
  h1 : (pd d).showable = true
  h2 : (pd d).hasDict = false
  h3 : (pd d).depth ≤ 60
  h4 : (pd d).shown.length ≤ sizeLine
theorem tie_show {m : Int} {t : Tie} (h : TieOk m t) (hm : m ≤ 40) : okD (encTie t) = true ∧ (pd (encTie t)).showable = true ∧ (pd (encTie t)).hasDict = false ∧ (pd (encTie t)).depth = 1 ∧ (pd (encTie t)).leavesShort 13 = true ∧ (pd (encTie t)).weight ≤ 20 := by
  obtain ⟨h1, h2, h3⟩ := h
  obtain ⟨a, b⟩ := t
  have h1 : 0 ≤ a := h1
  have h2 : a < b := h2
  have h3 : b < m := h3
  have w1 : ∀ i : Int, 0 ≤ i → i < 200 → PyData.weight (.int i) ≤ 8 := fun i g1 g2 => by
    simp only [PyData.weight]
    split
    · omega
    · have : i.natAbs < 2 ^ 8 := by omega
      have h0 : i.natAbs ≠ 0 := by
        intro z
        rename_i q
        exact q (by simp; omega)
      have := (Nat.log2_lt h0).mpr this
      omega
  have sl : ∀ i : Int, 0 ≤ i → i < 200 → (PyData.shown (.int i)).length ≤ 13 := fun i g1 g2 => PyData.shown_int_le (by omega)
  have lg : ∀ i : Int, 0 ≤ i → i < 200 → i.natAbs.log2 < 1920 := fun i g1 g2 => log_small g1 (by omega)
  have x1 := w1 a h1 (by omega)
  have x2 := w1 b (by omega) (by omega)
  refine ⟨by simp [encTie, okD, okL], ?_, ?_, ?_, ?_, ?_⟩
  · simp [encTie, pd, pdL, PyData.showable, PyData.showableAll, lg a h1 (by omega), lg b (by omega) (by omega)]
  · simp [encTie, pd, pdL, PyData.hasDict, PyData.hasDictAll]
  · simp [encTie, pd, pdL, PyData.depth, PyData.depthAll]
  · simp [encTie, pd, pdL, PyData.leavesShort, PyData.leavesShortAll, sl a h1 (by omega), sl b (by omega) (by omega)]
  · simp only [encTie, pd, pdL, PyData.weightAll]
    show PyData.weightAll [.int a, .int b] ≤ 20
    simp only [PyData.weightAll]
    omega
theorem ties_show {m : Int} (hm : m ≤ 40) : ∀ {ts : List Tie}, (∀ t ∈ ts, TieOk m t) → okL (ts.map encTie) = true ∧ PyData.showableAll (pdL (ts.map encTie)) = true ∧ PyData.hasDictAll (pdL (ts.map encTie)) = false ∧ PyData.depthAll (pdL (ts.map encTie)) ≤ 1 ∧ PyData.leavesShortAll 13 (pdL (ts.map encTie)) = true ∧ PyData.weightAll (pdL (ts.map encTie)) ≤ 21 * ts.length
  | [], _ => ⟨by simp [okL], by simp [pdL, PyData.showableAll], by simp [pdL, PyData.hasDictAll], by simp [pdL, PyData.depthAll], by simp [pdL, PyData.leavesShortAll], by simp [pdL, PyData.weightAll]⟩
  | t :: ts, h => by
    obtain ⟨a1, a2, a3, a4, a5, a6⟩ := ties_show hm (ts := ts) fun u hu => h u (List.mem_cons_of_mem _ hu)
    obtain ⟨b1, b2, b3, b4, b5, b6⟩ := tie_show (h t (List.mem_cons_self ..)) hm
    rw [List.map_cons]
    refine ⟨by rw [okL, a1, b1]; rfl, ?_, ?_, ?_, ?_, ?_⟩
    · rw [pdL, PyData.showableAll, a2, b2]
      rfl
    · rw [pdL, PyData.hasDictAll, a3, b3]
      rfl
    · rw [pdL, PyData.depthAll, b4]
      omega
    · rw [pdL, PyData.leavesShortAll, a5, b5]
      rfl
    · rw [pdL, PyData.weightAll, List.length_cons]
      omega
theorem web_show {w : Web} (h : WebOk w) : ReprOk (encWeb w) := by
  have hi := h.hi
  have lo := h.lo
  have few := h.few
  obtain ⟨a1, a2, a3, a4, a5, a6⟩ := ties_show h.hi h.ok
  have lg := log_small (i := w.1) (by omega) (by omega)
  have sl : (PyData.shown (.int w.1)).length ≤ 13 := PyData.shown_int_le (by omega)
  have wt : PyData.weight (.int w.1) ≤ 8 := by
    simp only [PyData.weight]
    split
    · omega
    · have : w.1.natAbs < 2 ^ 8 := by omega
      have := (Nat.log2_lt (show w.1.natAbs ≠ 0 by omega)).mpr this
      omega
  refine ⟨?_, ?_, ?_, ?_, ?_⟩
  · simp [encWeb, okD, okL, a1]
  · simp [encWeb, pd, pdL, PyData.showable, PyData.showableAll, lg, a2]
  · simp [encWeb, pd, pdL, PyData.hasDict, PyData.hasDictAll, a3]
  · simp only [encWeb, pd, pdL, PyData.depth, PyData.depthAll]
    omega
  · refine PyData.shown_fits (B := 13) (by decide) (by decide) ?_ ?_
    · simp [encWeb, pd, pdL, PyData.leavesShort, PyData.leavesShortAll, sl, a5]
    · have e : PyData.weight (pd (encWeb w)) = PyData.weight (.int w.1) + 1 + (PyData.weightAll (pdL (w.2.map encTie)) + 1 + 0) := by
        simp only [encWeb, pd, pdL, PyData.weight, PyData.weightAll]
      rw [e]
      have : 21 * w.2.length ≤ 21 * 120 := Nat.mul_le_mul_left 21 few
      have e20 : 2 ^ 20 = 1048576 := rfl
      omega
/-- signs that are shown as they are -/
def Small (x : Str) : Prop := ∀ c ∈ x.cps.toList, c < 128
theorem small_app {x y : Str} (h : Small x) (k : Small y) : Small (x ++ y) := fun c hc => by
  rw [str_app] at hc
  simp at hc
  exact hc.elim (fun z => h c (by simpa using z)) (fun z => k c (by simpa using z))
theorem small_fig : ∀ n : Nat, n < 200 → ((fig n).cps.toList.all fun c => decide (c < 128)) = true := by decide +kernel
theorem small_int {i : Int} (h0 : 0 ≤ i) (h1 : i < 200) : Small (Str.ofString (toString i)) := fun c hc => by
  obtain ⟨n, rfl⟩ := Int.eq_ofNat_of_zero_le h0
  simpa using List.all_eq_true.mp (small_fig n (by omega)) c hc
theorem small_web {w : Web} (h : WebOk w) : Small (tWeb w) := by
  rw [← shown_all]
  have lo := h.lo
  have hi := h.hi
  have key : ∀ i, i ≤ w.2.length → Small (shownAt w i) := fun i => by
    induction i with
    | zero => exact fun _ => small_int (i := w.1) (by omega) (by omega)
    | succ i ih =>
      intro hi2
      rw [shown_step (List.getElem?_eq_getElem (show i < w.2.length by omega))]
      obtain ⟨k1, k2, k3⟩ := h.ok _ (List.getElem_mem (show i < w.2.length by omega))
      exact small_app (small_app (small_app (small_app (ih (by omega)) (by intro c hc; simp at hc; revert c; decide)) (small_int k1 (by omega))) (by intro c hc; revert c; decide)) (small_int (by omega) (by omega))
  exact key _ (Nat.le_refl _)
theorem text_show {w : Web} (h : WebOk w) : ReprOk (.str (tWeb w)) := by
  have wl := web_len h
  refine ⟨rfl, by simp [pd, PyData.showable], by simp [pd, PyData.hasDict], by simp [pd, PyData.depth], ?_⟩
  refine PyData.shown_fits (B := 13) (by decide) (by decide) ?_ ?_
  · rw [pd, PyData.leavesShort]
    exact List.all_eq_true.mpr fun c hc => by
      have := small_web h c hc
      simp
      omega
  · rw [pd, PyData.weight]
    have e20 : 2 ^ 20 = 1048576 := rfl
    have : (tWeb w).cps.size = (tWeb w).length := rfl
    omega
def lastW {α : Type} (k : Nat) (xs : List α) : List α := xs.drop (xs.length - k)
theorem lastW_len {α : Type} (k : Nat) (xs : List α) : (lastW k xs).length = min k xs.length := by
  simp [lastW]
  omega
theorem lastW_map {α β : Type} (g : α → β) (k : Nat) (xs : List α) : lastW k (xs.map g) = (lastW k xs).map g := by
  unfold lastW
  rw [List.length_map, List.map_drop]
theorem cut_last (ds : List W3.D) {lo : Int} (k : Nat) (h : lo = -(k : Int)) (h0 : 0 < k) : cutD ds (some lo) none = lastW k ds := by
  subst h
  have e : HT.sIx ds.length 0 (some (-(k : Int))) = ds.length - k := by
    show (if -(k : Int) < 0 then (-(k : Int) + (ds.length : Int)).toNat else _) = _
    rw [if_pos (by omega)]
    omega
  unfold cutD lastW
  rw [e, HT.sIx_none]
  exact List.take_of_length_le (by rw [List.length_drop]; exact Nat.le_refl _)
def mostOf (s : Int) : Int := [3, 8, 11, 40].getD s.toNat 0
def moreOf (s : Int) : Int := [3, 9, 30, 60].getD s.toNat 0
def sizeAt4 (cell : Int) (i : Nat) : Int := (numbers cell (500 + (i : Nat)) [4]).getD 0 0
def webI (sc : List Int) (i : Nat) : Web := webOf (sc.getD i 0 / 4) (i : Nat) (mostOf (sizeAt4 (sc.getD i 0) i)) (moreOf (sizeAt4 (sc.getD i 0) i)) true
def websAt (sc : List Int) : Nat → List Web
  | 0 => []
  | i + 1 => lastW 11 (websAt sc i) ++ [webI sc i]
theorem size4_in (cell : Int) (i : Nat) : 0 ≤ sizeAt4 cell i ∧ sizeAt4 cell i < 4 := by
  obtain ⟨x, hx, a, b⟩ := numbers_in cell (500 + (i : Nat)) (sizes := [4]) ⟨by simp, fun s hs => by simp at hs; omega⟩ (k := 0) (z := 4) rfl
  unfold sizeAt4
  rw [getD_of hx]
  omega
theorem bounds4 {s : Int} (h0 : 0 ≤ s) (h4 : s < 4) : 1 ≤ mostOf s ∧ mostOf s ≤ 40 ∧ 0 ≤ moreOf s ∧ moreOf s ≤ 80 := by
  have : s = 0 ∨ s = 1 ∨ s = 2 ∨ s = 3 := by omega
  rcases this with rfl | rfl | rfl | rfl <;> decide
theorem webI_ok (sc : List Int) (i : Nat) : WebOk (webI sc i) := by
  obtain ⟨a, b⟩ := size4_in (sc.getD i 0) i
  obtain ⟨c, d, e, f⟩ := bounds4 a b
  exact webOf_ok c d e f
theorem websAt_ok (sc : List Int) : ∀ i, ∀ w ∈ websAt sc i, WebOk w
  | 0, w, h => by simp [websAt] at h
  | i + 1, w, h => by
    unfold websAt at h
    rcases List.mem_append.mp h with h | h
    · exact websAt_ok sc i w (List.mem_of_mem_drop h)
    · rw [List.mem_singleton] at h
      rw [h]
      exact webI_ok sc i
theorem websAt_len (sc : List Int) : ∀ i, (websAt sc i).length ≤ 12
  | 0 => by simp [websAt]
  | i + 1 => by
    unfold websAt
    rw [List.length_append, lastW_len, List.length_singleton]
    omega
def cells82 (script : List Int) : List Int := script.take 60 ++ List.replicate (if script = [] then 1 else 0) 8
def c_law : Con := fun ds r => ∃ script : List Int, script.length ≤ 63 ∧ ds = [encInts script] ∧ r = .ok .S (.bl true)
theorem eqv_nil (script : List Int) : PyData.eqv (pd (encInts script)) (pd (W3.D.lst [])) = decide (script = []) := by
  cases script with
  | nil => simp [encInts, pd, pdL, PyData.eqv, PyData.eqvAll]
  | cons x xs => simp [encInts, pd, pdL, PyData.eqv, PyData.eqvAll]
theorem ints_data : ∀ xs : List Int, okL (xs.map W3.D.int) = true ∧ PyData.canLayAll0 (pdL (xs.map W3.D.int)) = true ∧ PyData.depthAll (pdL (xs.map W3.D.int)) = 0
  | [] => ⟨by simp [okL], by simp [pdL, PyData.canLayAll0], by simp [pdL, PyData.depthAll]⟩
  | x :: xs => by
    obtain ⟨a, b, c⟩ := ints_data xs
    rw [List.map_cons]
    exact ⟨by rw [okL, a]; rfl, by rw [pdL, PyData.canLayAll0, b]; simp [pd, PyData.canLay0], by rw [pdL, PyData.depthAll, c]; simp [pd, PyData.depth]⟩
theorem ints_ok (xs : List Int) : okD (encInts xs) = true ∧ SeqAt.shaped (pd (encInts xs)) = true := by
  obtain ⟨a, b, c⟩ := ints_data xs
  refine ⟨by rw [encInts, okD, a], ?_⟩
  unfold SeqAt.shaped
  rw [encInts, pd, PyData.canLay0, b, PyData.depth, c]
  rfl
theorem none_shown : (pd (W3.D.str (tWebs []))).shown = ("'none'" : Str) := by
  have e : tWebs [] = "none" := rfl
  rw [e, pd, PyData.shown]
  decide +kernel
theorem none_repr : ReprOk (.str (tWebs [])) := by
  refine ⟨rfl, by simp [pd, PyData.showable], by simp [pd, PyData.hasDict], by simp [pd, PyData.depth], ?_⟩
  rw [none_shown]
  decide
theorem cells_eq (script : List Int) : cutD (script.map W3.D.int) none (some 60) ++ (List.replicate (if (decide (script = [])) = true then (1 : Int) else 0).toNat [W3.D.int 8]).flatten = (cells82 script).map W3.D.int := by
  rw [rep_ints]
  unfold cells82
  rw [List.map_append]
  congr 1
  · unfold cutD
    rw [HT.sIx_none, show (60 : Int) = ((60 : Nat) : Int) from rfl, HT.sIx_nat, List.length_map, List.map_take]
    rw [show ∀ n, min 60 n - 0 = min 60 n from fun n => rfl]
    show List.take (min 60 script.length) (List.map W3.D.int script) = _
    rw [List.take_eq_take_iff]
    simp
  · by_cases h : script = []
    · simp [h]
    · simp [h]
theorem cells_len (script : List Int) : (cells82 script).length ≤ 61 := by
  unfold cells82
  rw [List.length_append, List.length_take, List.length_replicate]
  split <;> omega
theorem eqv_ints : ∀ xs : List Int, PyData.eqvAll (pdL (xs.map W3.D.int)) (pdL (xs.map W3.D.int)) = true
  | [] => by simp [pdL, PyData.eqvAll]
  | x :: xs => by
    rw [List.map_cons, pdL, PyData.eqvAll, eqv_ints xs]
    simp [pd, PyData.eqv]
theorem web_facts {w : Web} (h : WebOk w) : okD (encWeb w) = true ∧ (pd (encWeb w)).showable = true ∧ (pd (encWeb w)).hasDict = false ∧ (pd (encWeb w)).depth ≤ 4 ∧ (pd (encWeb w)).leavesShort 13 = true ∧ (pd (encWeb w)).weight ≤ 3000 := by
  have hi := h.hi
  have lo := h.lo
  have few := h.few
  obtain ⟨a1, a2, a3, a4, a5, a6⟩ := ties_show h.hi h.ok
  have lg := log_small (i := w.1) (by omega) (by omega)
  have sl : (PyData.shown (.int w.1)).length ≤ 13 := PyData.shown_int_le (by omega)
  have wt : PyData.weight (.int w.1) ≤ 8 := by
    simp only [PyData.weight]
    split
    · omega
    · have : w.1.natAbs < 2 ^ 8 := by omega
      have := (Nat.log2_lt (show w.1.natAbs ≠ 0 by omega)).mpr this
      omega
  have rk := web_show h
  refine ⟨rk.h0, rk.h1, rk.h2, ?_, ?_, ?_⟩
  · simp only [encWeb, pd, pdL, PyData.depth, PyData.depthAll]
    omega
  · simp [encWeb, pd, pdL, PyData.leavesShort, PyData.leavesShortAll, sl, a5]
  · have e : PyData.weight (pd (encWeb w)) = PyData.weight (.int w.1) + 1 + (PyData.weightAll (pdL (w.2.map encTie)) + 1 + 0) := by
      simp only [encWeb, pd, pdL, PyData.weight, PyData.weightAll]
    rw [e]
    have : 21 * w.2.length ≤ 21 * 120 := Nat.mul_le_mul_left 21 few
    omega
theorem webs_facts : ∀ {ws : List Web}, (∀ w ∈ ws, WebOk w) → okL (ws.map encWeb) = true ∧ PyData.showableAll (pdL (ws.map encWeb)) = true ∧ PyData.hasDictAll (pdL (ws.map encWeb)) = false ∧ PyData.depthAll (pdL (ws.map encWeb)) ≤ 4 ∧ PyData.leavesShortAll 13 (pdL (ws.map encWeb)) = true ∧ PyData.weightAll (pdL (ws.map encWeb)) ≤ 3001 * ws.length
  | [], _ => ⟨by simp [okL], by simp [pdL, PyData.showableAll], by simp [pdL, PyData.hasDictAll], by simp [pdL, PyData.depthAll], by simp [pdL, PyData.leavesShortAll], by simp [pdL, PyData.weightAll]⟩
  | t :: ts, h => by
    obtain ⟨a1, a2, a3, a4, a5, a6⟩ := webs_facts (ws := ts) fun u hu => h u (List.mem_cons_of_mem _ hu)
    obtain ⟨b1, b2, b3, b4, b5, b6⟩ := web_facts (h t (List.mem_cons_self ..))
    rw [List.map_cons]
    refine ⟨by rw [okL, a1, b1]; rfl, ?_, ?_, ?_, ?_, ?_⟩
    · rw [pdL, PyData.showableAll, a2, b2]
      rfl
    · rw [pdL, PyData.hasDictAll, a3, b3]
      rfl
    · rw [pdL, PyData.depthAll]
      omega
    · rw [pdL, PyData.leavesShortAll, a5, b5]
      rfl
    · rw [pdL, PyData.weightAll, List.length_cons]
      omega
theorem webs_show {ws : List Web} (h : WebsOk ws) : ReprOk (encWebs ws) := by
  obtain ⟨a1, a2, a3, a4, a5, a6⟩ := webs_facts h.ok
  have few := h.few
  refine ⟨by rw [encWebs, okD, a1], by rw [encWebs, pd, PyData.showable, a2], by rw [encWebs, pd, PyData.hasDict, a3], ?_, ?_⟩
  · rw [encWebs, pd, PyData.depth]
    omega
  · refine PyData.shown_fits (B := 13) (by decide) (by decide) ?_ ?_
    · rw [encWebs, pd, PyData.leavesShort, a5]
    · rw [encWebs, pd, PyData.weight]
      have : 3001 * ws.length ≤ 3001 * 12 := Nat.mul_le_mul_left 3001 few
      have e20 : 2 ^ 20 = 1048576 := rfl
      omega

/-! ### law k83 -/
instance decTie (m : Int) (t : Tie) : Decidable (TieOk m t) := by
  unfold TieOk
  infer_instance
instance decLt (s t : Tie) : Decidable (ltP s t) := by
  unfold ltP
  infer_instance
def tiesAt : Nat → List Tie
  | 0 => []
  | i + 1 => tiesAt i ++ (List.range (16 - ((0 : Int) + (i : Nat) + 1)).toNat).map fun k => ((0 : Int) + (i : Nat), (0 : Int) + (i : Nat) + 1 + (k : Nat))
def full17 : Web := (17, tiesAt 16)
theorem full17_ok : WebOk full17 := ⟨by decide, by decide, by decide +kernel, by decide +kernel, by decide +kernel⟩
theorem bare40_ok : WebOk (40, []) := ⟨by decide, by decide, by decide, by decide, by decide⟩
theorem two_ok : WebOk (2, [(0, 1)]) := ⟨by decide, by decide, by decide, by decide, by decide⟩
def big12 : List Web := [full17, (40, [])] ++ (List.replicate 10 [full17]).flatten
theorem big12_ok : WebsOk big12 := ⟨by decide +kernel, fun w h => by
  simp [big12] at h
  rcases h with rfl | rfl | h
  · exact full17_ok
  · exact bare40_ok
  · rw [h]
    exact full17_ok⟩
theorem tiesAt_len (i : Nat) (h : i ≤ 16) : (tiesAt i).length ≤ 16 * i := by
  induction i with
  | zero => simp [tiesAt]
  | succ i ih =>
    have := ih (by omega)
    unfold tiesAt
    rw [List.length_append, List.length_map, List.length_range]
    omega
theorem empty_shown : (pd (encWebs [])).shown = ("[]" : Str) := by
  show (pd (W3.D.lst [])).shown = _
  rw [pd, pdL, PyData.shown, PyData.shownAll]
  decide +kernel
def c_law_shown3 : Con := fun ds r => ∃ w, WebOk w ∧ ds = [encWeb w] ∧ r = .ok .S (.str (tWeb w))
def c_law_read : Con := fun ds r => ∃ w, WebOk w ∧ ds = [encWeb w] ∧ r = .ok .S (.bl true)
def c_law_all_read : Con := fun ds r => ∃ ws, WebsOk ws ∧ ws.length ≠ 0 ∧ ds = [encWebs ws] ∧ r = .ok .S (.bl true)
def parted (ws : List Web) : List (W3.D × List W3.D) := ws.map fun w => (.int w.1, w.2.map encTie)
theorem parted_eq (ws : List Web) : (parted ws).map pairD = ws.map encWeb := by
  unfold parted
  rw [List.map_map]
  rfl
def lens (ws : List Web) : List Int := ws.map fun w => (((w.2.length + 1 : Nat)) : Int)
section
variable {P : Program} {w : World} {K : PySem.W.Frag} {mg : Str → Option Value} {base : Heap} {f : Addr} {fd : FuncData}
theorem ok_law_shown3 (F : Fun K "_law_shown" "_law_shown" s_law_shown f fd) (T : Txt mg) : FnG P w K mg base 1 f fd ["web"] (spC K c_law_shown3) := by
  refine def_ok F sc_law_shown (by rintro ds r ⟨w, _, rfl, _⟩; rfl) (fun cdv A outer s H E hr ds r hc => ?_)
  obtain ⟨w, hw, rfl, rfl⟩ := hc
  have lo := hw.lo
  have hi := hw.hi
  have few := hw.few
  have ts := ties_sum hw
  have e2 := int_len (i := w.1) (by omega) (by omega)
  have e3 : ((" " : String) : Str).length = 1 := rfl
  have q5 : sizeLine = 16777216 := rfl
  refine sts_last (st_ret (ev_join (ys := [Str.ofString (toString w.1)] ++ w.2.map tTie) (Ev.er ev_str) (Ev.er (Ev.eq (ev_cat (Ev.fz (ev_lst (ea_cons (ev_strI T.b_str (er_ixT (er_nm 0) (Ev.er ev_int) (by rfl)) (by walk_at "sd")) ea_nil) (by walk_at "sz"))) (Ev.fz (ev_lcA (items := w.2) (enc := encTie) [("one", 1), ("other", 2)] sc_law_shown.nd (src_l (ev_ixT (ev_nm 0) (Ev.er ev_int) (by rfl))) (fun x => .str (tTie x)) (by walk_at "sz") (fun x hx => turn_of (fun X' b' => by
    obtain ⟨s1, H1, C1, cl1, fp1, rfl⟩ := b'
    obtain ⟨k1, k2, k3⟩ := hw.ok x hx
    have q1 := int_len (i := x.1) k1 (by omega)
    have q2 := int_len (i := x.2) (by omega) (by omega)
    have q3 : (("-" : String) : Str).length = 1 := rfl
    refine ⟨(tgt_tup (tgts_cons (tgt_nm 1 sc_law_shown.nd) (tgts_cons (tgt_nm 2 sc_law_shown.nd) tgts_nil))), etl_nil, fun _ => Ev.eq (ev_cats (Ev.er (ev_cats (Ev.er (ev_strI T.b_str (er_nm 1) (by walk_at "sd"))) (Ev.er ev_str) (by omega))) (Ev.er (ev_strI T.b_str (er_nm 2) (by walk_at "sd"))) (by rw [len_app]; omega)) ?_⟩
    have : (Str.empty ++ Str.ofString (toString x.1)) = Str.ofString (toString x.1) := by
      simp [str_app, Str.empty]
    show W3.D.str ((Str.ofString (toString x.1) ++ "-") ++ Str.ofString (toString x.2)) = W3.D.str (((Str.empty ++ Str.ofString (toString x.1)) ++ "-") ++ Str.ofString (toString x.2))
    rw [this]) (by walk_at "js")) (blkOk_by (by rfl)) (free_of (by rfl)))) (by simp; omega)) ?e1)) ?sz2) ?e0)
  case e1 =>
    rw [List.map_append, List.map_map]
    rfl
  case sz2 =>
    rw [List.map_append, List.sum_append, List.length_append, List.length_map, e3]
    simp only [List.map_cons, List.map_nil, List.sum_cons, List.sum_nil, List.length_cons, List.length_nil]
    omega
  case e0 => rfl
theorem ok_law_read (F : Fun K "_law_read" "_law_read" s_law_read f fd) (T : Txt mg) (H_law_shown : FnC P w K mg base 1 "_law_shown" c_law_shown3) (H_show_web : FnC P w K mg base 5 "show_web" c_show_web) (H_read_web : FnC P w K mg base 6 "read_web" c_read_web) : FnG P w K mg base 7 f fd ["web"] (spC K c_law_read) := by
  refine def_ok F sc_law_read (by rintro ds r ⟨w, _, rfl, _⟩; rfl) (fun cdv A outer s H E hr ds r hc => ?_)
  obtain ⟨v, hv, rfl, rfl⟩ := hc
  have few := hv.few
  have r1 := web_show hv
  refine sts_next (δ' := [some (.S, encWeb v), some (.S, .str (tWeb v)), none, none]) (st_set 1 sc_law_read.nd (ev_call H_law_shown (hr.mono (by decide)) (ea_cons (ev_nm 0) ea_nil) ⟨v, hv, by rfl, by rfl⟩) rfl) ?_
  refine sts_ifF (Et.eq (et_cm (Ev.er (ev_call H_show_web (hr.mono (by decide)) (ea_cons (ev_nm 0) ea_nil) ⟨v, hv, by rfl, by rfl⟩)) (er_nm 1) cm_neS) (by simp)) ?_
  refine sts_next (δ' := [some (.S, encWeb v), some (.S, .str (tWeb v)), none, none]) (st_for PassesOwn.leaving (src_r1 T.b_range (Ev.er ev_int) (by decide)) (fun i => [some (.S, encWeb v), some (.S, .str (tWeb v)), none, none]) (.eq rfl (.eq rfl (.any (.any .nil)))) (fun i d hd => ?_) rfl) ?_
  · obtain ⟨hi, rfl⟩ := rng_get hd
    refine ⟨_, _, (tgt_nm 2 sc_law_read.nd), ?_⟩
    refine sts_next (st_set 3 sc_law_read.nd (ev_call H_read_web (hr.mono (by decide)) (ea_cons (ev_nm 1) ea_nil) ⟨v, hv, by rfl, by rfl⟩) rfl) ?_
    refine sts_ifF (Et.eq (et_cm (Ev.er (ev_repr T.b_repr hr (er_nm 3) r1.h0 r1.h1 r1.h2 r1.h3 r1.h4)) (Ev.er (ev_repr T.b_repr hr (er_nm 0) r1.h0 r1.h1 r1.h2 r1.h3 r1.h4)) cm_neS) (by simp)) ?_
    exact sts_last (st_app1 3 (ev_tup (ea_cons ev_int (ea_cons ev_int ea_nil)) (by walk_at "sz")) rfl (.eq rfl (.eq rfl (.any (.any .nil)))) (by simp; omega))
  · exact sts_last (st_ret ev_bl (by rfl))
theorem ok_law_all_read (F : Fun K "_law_all_read" "_law_all_read" s_law_all_read f fd) (T : Txt mg) (H_law_shown : FnC P w K mg base 1 "_law_shown" c_law_shown3) (H_show_webs : FnC P w K mg base 6 "show_webs" c_show_webs) (H_read_webs : FnC P w K mg base 7 "read_webs" c_read_webs) : FnG P w K mg base 8 f fd ["webs"] (spC K c_law_all_read) := by
  refine def_ok F sc_law_all_read (by rintro ds r ⟨w, _, _, rfl, _⟩; rfl) (fun cdv A outer s H E hr ds r hc => ?_)
  obtain ⟨ws, hw, h0, rfl, rfl⟩ := hc
  have few := hw.few
  have r1 := webs_show hw
  have tsum := webs_sum hw.few hw.ok
  have e3 : ((" * " : String) : Str).length = 3 := rfl
  have tj : tWebs ws = Txt.join " * " (ws.map tWeb) := by
    unfold tWebs
    rw [if_neg h0]
  refine sts_next (δ' := [some (.S, encWebs ws), some (.S, .str (tWebs ws)), none, none, none, none]) (st_set 1 sc_law_all_read.nd (Ev.eq (ev_join (ys := ws.map tWeb) (Ev.er ev_str) (Ev.er (Ev.eq (ev_lcA (items := ws) (enc := encWeb) [("web", 5)] sc_law_all_read.nd (src_l (ev_nm 0)) (fun x => .str (tWeb x)) (by omega) (fun x hx => turn_of (fun X' b' => by
    obtain ⟨s1, H1, C1, cl1, fp1, rfl⟩ := b'
    exact ⟨(tgt_nm 5 sc_law_all_read.nd), etl_nil, fun _ => (ev_call H_law_shown (hr.mono (by decide)) (ea_cons (ev_nm 5) ea_nil) ⟨x, hw.ok x hx, by rfl, by rfl⟩)⟩) (by walk_at "js")) (blkOk_by (by rfl)) (free_of (by rfl))) (by rw [List.map_map]; rfl))) (by rw [List.length_map, e3]; omega)) (by rw [tj])) rfl) ?_
  refine sts_ifF (Et.eq (et_cm (Ev.er (ev_call H_show_webs (hr.mono (by decide)) (ea_cons (ev_nm 0) ea_nil) ⟨ws, hw, by rfl, by rfl⟩)) (er_nm 1) cm_neS) (by simp)) ?_
  refine sts_next (δ' := [some (.S, encWebs ws), some (.S, .str (tWebs ws)), none, none, none, none]) (st_for PassesOwn.leaving (src_r1 T.b_range (Ev.er ev_int) (by decide)) (fun i => [some (.S, encWebs ws), some (.S, .str (tWebs ws)), none, none, none, none]) (.eq rfl (.eq rfl (.any (.any (.any (.any .nil)))))) (fun i d hd => ?_) rfl) ?_
  · obtain ⟨hi, rfl⟩ := rng_get hd
    refine ⟨_, _, (tgt_nm 2 sc_law_all_read.nd), ?_⟩
    refine sts_next (δ' := [some (.S, encWebs ws), some (.S, .str (tWebs ws)), some (.S, .int (0 + (i : Nat))), some (.L (.T [.S, .L .S]), .lst ((parted ws).map pairD)), none, none]) (st_set 3 sc_law_all_read.nd (Ev.eq (ev_call H_read_webs (hr.mono (by decide)) (ea_cons (ev_nm 1) ea_nil) ⟨ws, hw, by rfl, by rfl⟩) (by rw [parted_eq]; rfl)) rfl) ?_
    refine sts_ifF (Et.eq (et_w (ew_or (et_not (et_ev (Ev.er (ev_isi "list" T.b_isinstance (er_nm 3) T.b_list)))) fun h_or => (ew_or1 (et_cm (Ev.er (ev_repr T.b_repr hr (Er.eq (er_nm 3) (by rw [parted_eq]; rfl)) r1.h0 r1.h1 r1.h2 r1.h3 r1.h4)) (Ev.er (ev_repr T.b_repr hr (er_nm 0) r1.h0 r1.h1 r1.h2 r1.h3 r1.h4)) cm_neS)))) (by simp)) ?_
    refine sts_next (δ' := [some (.S, encWebs ws), some (.S, .str (tWebs ws)), some (.S, .int (0 + (i : Nat))), some (.L (.T [.S, .L .S]), .lst ((parted ws).map fun t => pairD (t.1, t.2 ++ [.tup [.int 0, .int 0]]))), none, none]) (st_forApp 3 4 sc_law_all_read.nd (fun ε => ev_tup (ea_cons ev_int (ea_cons ev_int ea_nil)) (by walk_at "sz")) rfl rfl rfl (fun t ht => ?_) (hp := PassesOwn.leaving)) ?_
    · obtain ⟨w, hwm, rfl⟩ := List.mem_map.mp ht
      have := (hw.ok w hwm).few
      show (w.2.map encTie).length ≤ 1000000
      rw [List.length_map]
      omega
    have li := ints_ok (lens ws)
    refine sts_ifF (Et.eq (Et.frz 3 (et_cm (Ev.er (Ev.eq (d' := encInts (lens ws)) (ev_lcA (items := parted ws) (enc := fun t => pairD (t.1, t.2 ++ [.tup [.int 0, .int 0]])) [("one", 4)] sc_law_all_read.nd (src_l (ev_nm 3)) (fun x => .int ((x.2 ++ [W3.D.tup [.int 0, .int 0]]).length : Nat)) (by unfold parted; rw [List.length_map]; omega) (fun x hx => turn_of (fun X' b' => by
      obtain ⟨s1, H1, C1, cl1, fp1, rfl⟩ := b'
      exact ⟨(tgt_nm 4 sc_law_all_read.nd), etl_nil, fun _ => (ev_lenL T.b_len (er_ixT (er_nm 4) (Ev.er ev_int) (by rfl)))⟩) (by walk_at "js")) (blkOk_by (by rfl)) (free_of (by rfl))) ?l1)) (Ev.er (Ev.eq (d' := encInts (lens ws)) (ev_lcA (items := ws) (enc := encWeb) [("web", 5)] sc_law_all_read.nd (src_l (ev_nm 0)) (fun x => .int (((x.2.map encTie).length : Nat) + 1)) (by omega) (fun x hx => turn_of (fun X' b' => by
      obtain ⟨s1, H1, C1, cl1, fp1, rfl⟩ := b'
      exact ⟨(tgt_nm 5 sc_law_all_read.nd), etl_nil, fun _ => (ev_add (Ev.er (ev_lenL T.b_len (er_ixT (er_nm 5) (Ev.er ev_int) (by rfl)))) (Ev.er ev_int))⟩) (by walk_at "js")) (blkOk_by (by rfl)) (free_of (by rfl))) ?l2)) (cm_neD hr li.1 li.1 li.2 li.2))) ?l3) ?_
    case l1 =>
      unfold parted encInts lens
      rw [List.map_map, List.map_map]
      congr 1
      refine List.map_congr_left fun w _ => ?_
      simp
    case l2 =>
      unfold encInts lens
      rw [List.map_map]
      congr 1
      refine List.map_congr_left fun w _ => ?_
      simp
    case l3 =>
      rw [encInts, pd, PyData.eqv, eqv_ints]
      rfl
    refine sts_frzIn 3 ?_
    refine sts_last (st_app 3 (ev_ixO 3 (d := pairD (((parted ws).getD 0 (.non, [])).1, ((parted ws).getD 0 (.non, [])).2 ++ [.tup [.int 0, .int 0]])) (Ev.er ev_int) rfl (at_up (by decide) ?_)) rfl (.eq rfl (.eq rfl (.any (.any (.any (.any .nil)))))) ?_)
    · match ws, h0 with
      | w :: ws, _ => rfl
    · unfold parted
      rw [List.length_map, List.length_map]
      omega
  · exact sts_last (st_ret ev_bl (by rfl))
end

section
variable {P : Program} {w : World} {K : PySem.W.Frag} {mg : Str → Option Value} {base : Heap} {f : Addr} {fd : FuncData}
theorem ok_law (F : Fun K "law" "law" s_law f fd) (T : Txt mg) (H_show_webs : FnC P w K mg base 6 "show_webs" c_show_webs) (H_read_webs : FnC P w K mg base 7 "read_webs" c_read_webs) (H_law_numbers : FnC P w K mg base 1 "_law_numbers" c_law_numbers)
    (H_law_web : FnC P w K mg base 2 "_law_web" c_law_web) (H_law_read : FnC P w K mg base 7 "_law_read" c_law_read) (H_law_all_read : FnC P w K mg base 8 "_law_all_read" c_law_all_read) : FnG P w K mg base 9 f fd ["script"] (spC K c_law) := by
  refine def_ok F sc_law (by rintro ds r ⟨_, _, rfl, _⟩; rfl) (fun cdv A outer s H E hr ds r hc => ?_)
  obtain ⟨script, few, rfl, rfl⟩ := hc
  have q5 : sizeLine = 16777216 := rfl
  have n0 : WebsOk [] := ⟨by decide, fun w h => by simp at h⟩
  have nr := webs_show n0
  have t3 : WebsOk [(2, [(0, 1)]), (2, [(0, 1)]), (2, [(0, 1)])] := ⟨by decide, fun w h => by
    simp at h
    rw [h]
    exact two_ok⟩
  -- if repr(read_webs(show_webs([]))) != '[]' or not _law_all_read([(2, [(0, 1)])] * 3):
  refine sts_ifF (Et.eq (et_w (ew_or (et_cm (Ev.er (ev_repr (d := encWebs []) T.b_repr hr (Ev.er (ev_call H_read_webs (hr.mono (by decide)) (ea_cons (ev_call H_show_webs (hr.mono (by decide)) (ea_cons (Ev.fz (ev_lst ea_nil (by walk_at "sz"))) ea_nil) ⟨[], n0, by rfl, by rfl⟩) ea_nil) ⟨[], n0, by rfl, by rfl⟩)) nr.h0 nr.h1 nr.h2 nr.h3 nr.h4)) (Ev.er ev_str) cm_neS) fun h_or => (ew_or1 (et_not (et_ev (Ev.er (ev_call H_law_all_read hr (ea_cons (Ev.fz (ev_rep (ev_lst (ea_cons (ev_tup (ea_cons ev_int (ea_cons (Ev.fz (ev_lst (ea_cons (ev_tup (ea_cons ev_int (ea_cons ev_int ea_nil)) (by walk_at "sz")) ea_nil) (by walk_at "sz"))) ea_nil)) (by walk_at "sz")) ea_nil) (by walk_at "sz")) (Ev.er ev_int) (by decide) (by decide) (by decide))) ea_nil) ⟨[(2, [(0, 1)]), (2, [(0, 1)]), (2, [(0, 1)])], t3, by decide, by rfl, by rfl⟩))))))) (by rw [empty_shown]; simp)) ?_
  -- ties = []
  refine sts_next (δ' := [some (.S, encInts script), some (.L .S, .lst ((tiesAt 0).map encTie)), none, none, none, none, none, none]) (st_set 1 sc_law.nd (ev_lst ea_nil (by walk_at "sz")) rfl) ?_
  -- for one in range(16):
  refine sts_next (δ' := [some (.S, encInts script), some (.L .S, .lst ((tiesAt 16).map encTie)), none, none, none, none, none, none]) (st_for PassesOwn.leaving (src_r1 T.b_range (Ev.er ev_int) (by decide)) (fun i => [some (.S, encInts script), some (.L .S, .lst ((tiesAt i).map encTie)), none, none, none, none, none, none]) (.eq rfl (.eq rfl (.any (.any (.any (.any (.any (.any .nil)))))))) (fun i d hd => ?body1) ?hd1) ?rest1
  case hd1 => rw [rng_length]; rfl
  case body1 =>
    obtain ⟨hi, rfl⟩ := rng_get hd
    have hi2 : i < 16 := hi
    have tl := tiesAt_len i (by omega)
    refine ⟨_, _, (tgt_nm 2 sc_law.nd), ?_⟩
    refine sts_last (st_ext 1 (Ev.fz (ev_lcA (items := List.range ((16 : Int) - ((0 : Int) + (i : Nat) + 1)).toNat) (enc := fun k : Nat => .int ((0 : Int) + (i : Nat) + 1 + (k : Nat))) [("other", 7)] sc_law.nd (src_r2 T.b_range (Ev.er (ev_add (er_nm 2) (Ev.er ev_int))) (Ev.er ev_int) (by omega)) (fun k => encTie ((0 : Int) + (i : Nat), (0 : Int) + (i : Nat) + 1 + (k : Nat))) (by rw [List.length_range]; omega) (fun x hx => turn_of (fun X' b' => by
      obtain ⟨s1, H1, C1, cl1, fp1, rfl⟩ := b'
      exact ⟨(tgt_nm 7 sc_law.nd), etl_nil, fun _ => (ev_tup (ea_cons (ev_nm 2) (ea_cons (ev_nm 7) ea_nil)) (by walk_at "sz"))⟩) (by walk_at "js")) (blkOk_by (by rfl)) (free_of (by rfl)))) rfl ?_ (by simp; omega))
    refine .eq rfl (.eq ?_ (.any (.any (.any (.any (.any (.any .nil)))))))
    show some (Shape.L .S, W3.D.lst (_ ++ _)) = some (Shape.L .S, W3.D.lst ((tiesAt (i + 1)).map encTie))
    have e1 : tiesAt (i + 1) = tiesAt i ++ (List.range ((16 : Int) - ((0 : Int) + (i : Nat) + 1)).toNat).map fun k => ((0 : Int) + (i : Nat), (0 : Int) + (i : Nat) + 1 + (k : Nat)) := rfl
    rw [e1, List.map_append, List.map_map]
    rfl
  case rest1 =>
  refine sts_frz 1 ?_
  -- if not _law_read((17, ties)) or not _law_all_read([(17, ties), (40, [])] + [(17, ties)] * 10):
  refine sts_ifF (Et.eq (et_w (ew_or (et_not (et_ev (Ev.er (ev_call H_law_read (hr.mono (by decide)) (ea_cons (ev_tup (ea_cons ev_int (ea_cons (ev_nm 1) ea_nil)) (by walk_at "sz")) ea_nil) ⟨full17, full17_ok, by rfl, by rfl⟩)))) fun h_or => (ew_or1 (et_not (et_ev (Ev.er (ev_call H_law_all_read hr (ea_cons (Ev.fz (ev_cat (Ev.fz (ev_lst (ea_cons (ev_tup (ea_cons ev_int (ea_cons (ev_nm 1) ea_nil)) (by walk_at "sz")) (ea_cons (ev_tup (ea_cons ev_int (ea_cons (Ev.fz (ev_lst ea_nil (by walk_at "sz"))) ea_nil)) (by walk_at "sz")) ea_nil)) (by show 2 ≤ 100000; decide))) (Ev.fz (ev_rep (ev_lst (ea_cons (ev_tup (ea_cons ev_int (ea_cons (ev_nm 1) ea_nil)) (by walk_at "sz")) ea_nil) (by show 1 ≤ 100000; decide)) (Ev.er ev_int) (by decide) (by decide) (by show 1 * 10 ≤ 1000000; decide))) (by simp))) ea_nil) ⟨big12, big12_ok, by simp [big12], by rfl, by rfl⟩))))))) (by rfl)) ?_
  -- webs = []
  refine sts_next (st_set 3 sc_law.nd (Ev.fz (ev_lst ea_nil (by walk_at "sz"))) rfl) ?_
  -- for at, cell in enumerate(script[:60] + [8] * int(script == [])):
  have hsc := cells_eq script
  have hcl := cells_len script
  obtain ⟨ok1, ok2⟩ := ints_ok script
  refine sts_next (δ' := [some (.S, encInts script), none, none, some (.S, .lst ((websAt (cells82 script) (cells82 script).length).map encWeb)), none, none, none, none])
    (st_for PassesOwn.leaving (src_enum T.b_enumerate (Ev.fz (Ev.eq (d' := encInts (cells82 script)) (ev_cat (Ev.fz (ev_slL (ev_nm 0) eo_none (eo_some (Ev.er ev_int)))) (Ev.fz (ev_rep (ev_lst (ea_cons ev_int ea_nil) (by walk_at "sz")) (Ev.er (ev_intB T.b_int (Ev.er (ev_cm (er_nm 0) (Ev.er (ev_lst ea_nil (by walk_at "sz"))) (cm_eqD hr ok1 rfl ok2 (by decide +kernel)))))) ?p1 ?p2 ?p3)) ?p4) ?p5)))
      (fun i => [some (.S, encInts script), none, none, some (.S, .lst ((websAt (cells82 script) i).map encWeb)), none, none, none, none])
      (.eq rfl (.any (.any (.eq rfl (.any (.any (.any (.any .nil)))))))) (fun i d hd => ?body) ?hd) ?rest
  case p1 => split <;> decide
  case p2 => split <;> decide
  case p3 => split <;> simp
  case p4 =>
    rw [eqv_nil]
    have := congrArg List.length hsc
    rw [List.length_append] at this
    rw [this, List.length_map]
    omega
  case p5 =>
    rw [eqv_nil, hsc]
    rfl
  case hd =>
    rw [enumD_length, List.length_map]
  case rest => exact sts_last (st_ret ev_bl (by rfl))
  case body =>
    obtain ⟨x, hx, rfl⟩ := enumD_get hd
    rw [List.getElem?_map] at hx
    cases hc : (cells82 script)[i]? with
    | none =>
      rw [hc] at hx
      cases hx
    | some cell =>
      rw [hc] at hx
      cases hx
      have hcd : (cells82 script).getD i 0 = cell := getD_of hc
      have wl1 := websAt_len (cells82 script) (i + 1)
      have wo1 := websAt_ok (cells82 script) (i + 1)
      have wok := webI_ok (cells82 script) i
      obtain ⟨s0, s4⟩ := size4_in cell i
      obtain ⟨g1, g2, g3, g4⟩ := bounds4 s0 s4
      have n1 := numbers_len cell (500 + (i : Nat)) [4]
      refine ⟨_, _, (tgt_tup (tgts_cons (tgt_nm 4 sc_law.nd) (tgts_cons (tgt_nm 5 sc_law.nd) tgts_nil))), ?_⟩
      rw [show ((0 + i : Nat) : Int) = (i : Int) by omega]
      refine sts_next (st_set 6 sc_law.nd (ev_ixL (Ev.fz (ev_call H_law_numbers (hr.mono (by decide)) (ea_cons (ev_nm 5) (ea_cons (ev_add (Ev.er ev_int) (er_nm 4)) (ea_cons (Ev.fz (ev_lst (ea_cons ev_int ea_nil) (by walk_at "sz"))) ea_nil))) ⟨cell, 500 + (i : Nat), [4], ⟨by decide, fun s hs => by simp at hs; omega⟩, by rfl, by rfl⟩)) (Ev.er ev_int) (at_ints (n := 0) (by rw [n1]; decide) rfl)) rfl) ?_
      have hmo : atI [W3.D.int 3, W3.D.int 8, W3.D.int 11, W3.D.int 40] (sizeAt4 cell i) = some (.int (mostOf (sizeAt4 cell i))) := at_ints (xs := [3, 8, 11, 40]) (n := (sizeAt4 cell i).toNat) (by show _ < 4; omega) (by omega)
      have hme : atI [W3.D.int 3, W3.D.int 9, W3.D.int 30, W3.D.int 60] (sizeAt4 cell i) = some (.int (moreOf (sizeAt4 cell i))) := at_ints (xs := [3, 9, 30, 60]) (n := (sizeAt4 cell i).toNat) (by show _ < 4; omega) (by omega)
      have hwe : webOf (cell / 4) (i : Nat) (mostOf (sizeAt4 cell i)) (moreOf (sizeAt4 cell i)) true = webI (cells82 script) i := by
        unfold webI
        rw [hcd]
      have hwb : cutD ((websAt (cells82 script) i).map encWeb) (some (1 - 12)) none ++ [encWeb (webI (cells82 script) i)] = (websAt (cells82 script) (i + 1)).map encWeb := by
        rw [cut_last (lo := 1 - 12) _ 11 rfl (by decide), lastW_map]
        show _ = List.map _ (lastW 11 (websAt (cells82 script) i) ++ [webI (cells82 script) i])
        rw [List.map_append]
        rfl
      -- webs
      refine sts_next (st_set 3 sc_law.nd (Ev.fz (Ev.eq (ev_cat (Ev.fz (ev_slL (ev_nm 3) (eo_some (Ev.er (ev_sub (Ev.er ev_int) (Ev.er ev_int)))) eo_none)) (Ev.fz (ev_lst (ea_cons (Ev.eq (ev_call H_law_web (hr.mono (by decide)) (ea_cons (ev_fdiv (er_nm 5) (Ev.er ev_int) (by walk_at "div")) (ea_cons (ev_nm 4) (ea_cons (ev_ixL (Ev.fz (ev_lst (ea_cons ev_int (ea_cons ev_int (ea_cons ev_int (ea_cons ev_int ea_nil)))) (by walk_at "sz"))) (er_nm 6) hmo) (ea_cons (ev_ixL (Ev.fz (ev_lst (ea_cons ev_int (ea_cons ev_int (ea_cons ev_int (ea_cons ev_int ea_nil)))) (by walk_at "sz"))) (er_nm 6) hme) (ea_cons ev_bl ea_nil))))) ⟨cell / 4, (i : Nat), mostOf (sizeAt4 cell i), moreOf (sizeAt4 cell i), true, ⟨g1, g2, g3, g4⟩, by rfl, by rfl⟩) (by rw [hwe])) ea_nil) (by walk_at "sz"))) ?z2) (by rw [hwb]))) rfl) ?_
      case z2 =>
        have := congrArg List.length hwb
        rw [List.length_append, List.length_map] at this
        rw [this]
        omega
      have e1 : websAt (cells82 script) (i + 1) = lastW 11 (websAt (cells82 script) i) ++ [webI (cells82 script) i] := rfl
      have hlast : atI ((websAt (cells82 script) (i + 1)).map encWeb) (-1) = some (encWeb (webI (cells82 script) i)) := by
        refine at_dn (by decide) ?_ ?_
        · rw [e1, List.length_map, List.length_append, List.length_singleton]
          omega
        · rw [e1, List.length_map, List.length_append, List.length_singleton, show ((-1 : Int) + (((lastW 11 (websAt (cells82 script) i)).length + 1 : Nat) : Int)).toNat = (lastW 11 (websAt (cells82 script) i)).length by omega]
          rw [List.getElem?_map, List.getElem?_append_right (Nat.le_refl _), Nat.sub_self]
          rfl
      -- if not _law_read(webs[-1]):
      refine sts_ifF (Et.eq (et_not (et_ev (Ev.er (ev_call H_law_read (hr.mono (by decide)) (ea_cons (ev_ixL (ev_nm 3) (Ev.er (ev_neg (Ev.er ev_int))) hlast) ea_nil) ⟨webI (cells82 script) i, wok, by rfl, by rfl⟩)))) (by rfl)) ?_
      have hso : cutD ((websAt (cells82 script) (i + 1)).map encWeb) (some (-1 - (i : Int) % 12)) none = (lastW (1 + i % 12) (websAt (cells82 script) (i + 1))).map encWeb := by
        rw [cut_last _ (1 + i % 12) (by omega) (by omega), lastW_map]
      have sok : WebsOk (lastW (1 + i % 12) (websAt (cells82 script) (i + 1))) := ⟨by rw [lastW_len]; omega, fun w h => wo1 w (List.mem_of_mem_drop h)⟩
      have slen : (lastW (1 + i % 12) (websAt (cells82 script) (i + 1))).length ≠ 0 := by
        rw [lastW_len, e1, List.length_append, List.length_singleton]
        omega
      -- if at % 5 == 0 and (not _law_all_read(webs[-1 - at % 12:])):
      refine sts_last (st_if (et_w (ew_and (et_cm (Ev.er (ev_mod (er_nm 4) (Ev.er ev_int) (by walk_at "sd"))) (Ev.er ev_int) cm_eqI) fun h_and => (ew_and1 (et_not (et_ev (Ev.er (ev_call H_law_all_read hr (ea_cons (Ev.fz (Ev.eq (ev_slL (ev_nm 3) (eo_some (Ev.er (ev_sub (Ev.er (ev_neg (Ev.er ev_int))) (Ev.er (ev_mod (er_nm 4) (Ev.er ev_int) (by walk_at "sd")))))) eo_none) (by rw [hso]))) ea_nil) ⟨lastW (1 + i % 12) (websAt (cells82 script) (i + 1)), sok, slen, by rfl, by rfl⟩))))))) (fun hif => ?_) (fun hif => ?_))
      · simp at hif
      · exact sts_nil (.eq rfl (.any (.any (.eq rfl (.any (.any (.any (.any .nil))))))))
end

end KW
namespace KW
open PySem PySem.Spec L2 W3
theorem parts {l : PySem.W.OpenLaw} {w : World} {K : PySem.W.Frag} {h : Heap} {mg : Str → Option Value} {fa f_is_whole f_is_within f_is_tie f_look_at_web f_is_web f_look_at_webs f_written f_all_written f_show_web f_show_webs f_number_by f_tie_by f_read_web f_read_webs f_law_numbers f_law_order f_law_web f_law_shown f_law_read f_law_all_read f_law : Addr} (X : K.In h) (G : h.Ns mainGlobals mg) (e0 : mg "law" = some (.ref fa))
    {od_is_whole an_is_whole od_is_within an_is_within od_is_tie an_is_tie od_look_at_web an_look_at_web od_is_web an_is_web od_look_at_webs an_look_at_webs od_written an_written od_all_written an_all_written od_show_web an_show_web od_show_webs an_show_webs od_number_by an_number_by od_tie_by an_tie_by od_read_web an_read_web od_read_webs an_read_webs od_law_numbers an_law_numbers od_law_order an_law_order od_law_web an_law_web od_law_shown an_law_shown od_law_read an_law_read od_law_all_read an_law_all_read od_law an_law : Option Addr} {sl_is_whole sl_is_within sl_is_tie sl_look_at_web sl_is_web sl_look_at_webs sl_written sl_all_written sl_show_web sl_show_webs sl_number_by sl_tie_by sl_read_web sl_read_webs sl_law_numbers sl_law_order sl_law_web sl_law_shown sl_law_read sl_law_all_read sl_law : Array (Option Value)} {oc_is_whole kv_is_whole dc_is_whole pm_is_whole cd_is_whole ct_is_whole oc_is_within kv_is_within dc_is_within pm_is_within cd_is_within ct_is_within oc_is_tie kv_is_tie dc_is_tie pm_is_tie cd_is_tie ct_is_tie oc_look_at_web kv_look_at_web dc_look_at_web pm_look_at_web cd_look_at_web ct_look_at_web oc_is_web kv_is_web dc_is_web pm_is_web cd_is_web ct_is_web oc_look_at_webs kv_look_at_webs dc_look_at_webs pm_look_at_webs cd_look_at_webs ct_look_at_webs oc_written kv_written dc_written pm_written cd_written ct_written oc_all_written kv_all_written dc_all_written pm_all_written cd_all_written ct_all_written oc_show_web kv_show_web dc_show_web pm_show_web cd_show_web ct_show_web oc_show_webs kv_show_webs dc_show_webs pm_show_webs cd_show_webs ct_show_webs oc_number_by kv_number_by dc_number_by pm_number_by cd_number_by ct_number_by oc_tie_by kv_tie_by dc_tie_by pm_tie_by cd_tie_by ct_tie_by oc_read_web kv_read_web dc_read_web pm_read_web cd_read_web ct_read_web oc_read_webs kv_read_webs dc_read_webs pm_read_webs cd_read_webs ct_read_webs oc_law_numbers kv_law_numbers dc_law_numbers pm_law_numbers cd_law_numbers ct_law_numbers oc_law_order kv_law_order dc_law_order pm_law_order cd_law_order ct_law_order oc_law_web kv_law_web dc_law_web pm_law_web cd_law_web ct_law_web oc_law_shown kv_law_shown dc_law_shown pm_law_shown cd_law_shown ct_law_shown oc_law_read kv_law_read dc_law_read pm_law_read cd_law_read ct_law_read oc_law_all_read kv_law_all_read dc_law_all_read pm_law_all_read cd_law_all_read ct_law_all_read oc_law kv_law dc_law pm_law cd_law ct_law : Value} {t_MOST_PLACES t_MOST_TIES t_MOST_WEBS t_MOST_FIGURES t_FIGURES t_NONE t_BETWEEN : Tok}
    (n_is_whole : PySem.W.nsIn K mainGlobals "is_whole" = some (some (.ref f_is_whole))) (l_is_whole : K.lookup f_is_whole = some ⟨oc_is_whole, od_is_whole, .func (PySem.W.fnOf "is_whole" "is_whole" (defArgs s_is_whole) (defBody s_is_whole) (defScope s_is_whole) .none kv_is_whole dc_is_whole pm_is_whole an_is_whole cd_is_whole ct_is_whole), sl_is_whole⟩) (c_is_whole_ : PySem.W.codeIn K cd_is_whole "is_whole" = true) (k_is_whole : PySem.W.keepIn K (.ref f_is_whole) = true)
    (n_is_within : PySem.W.nsIn K mainGlobals "is_within" = some (some (.ref f_is_within))) (l_is_within : K.lookup f_is_within = some ⟨oc_is_within, od_is_within, .func (PySem.W.fnOf "is_within" "is_within" (defArgs s_is_within) (defBody s_is_within) (defScope s_is_within) .none kv_is_within dc_is_within pm_is_within an_is_within cd_is_within ct_is_within), sl_is_within⟩) (c_is_within_ : PySem.W.codeIn K cd_is_within "is_within" = true) (k_is_within : PySem.W.keepIn K (.ref f_is_within) = true)
    (n_is_tie : PySem.W.nsIn K mainGlobals "is_tie" = some (some (.ref f_is_tie))) (l_is_tie : K.lookup f_is_tie = some ⟨oc_is_tie, od_is_tie, .func (PySem.W.fnOf "is_tie" "is_tie" (defArgs s_is_tie) (defBody s_is_tie) (defScope s_is_tie) .none kv_is_tie dc_is_tie pm_is_tie an_is_tie cd_is_tie ct_is_tie), sl_is_tie⟩) (c_is_tie_ : PySem.W.codeIn K cd_is_tie "is_tie" = true) (k_is_tie : PySem.W.keepIn K (.ref f_is_tie) = true)
    (n_look_at_web : PySem.W.nsIn K mainGlobals "look_at_web" = some (some (.ref f_look_at_web))) (l_look_at_web : K.lookup f_look_at_web = some ⟨oc_look_at_web, od_look_at_web, .func (PySem.W.fnOf "look_at_web" "look_at_web" (defArgs s_look_at_web) (defBody s_look_at_web) (defScope s_look_at_web) .none kv_look_at_web dc_look_at_web pm_look_at_web an_look_at_web cd_look_at_web ct_look_at_web), sl_look_at_web⟩) (c_look_at_web_ : PySem.W.codeIn K cd_look_at_web "look_at_web" = true) (k_look_at_web : PySem.W.keepIn K (.ref f_look_at_web) = true)
    (n_is_web : PySem.W.nsIn K mainGlobals "is_web" = some (some (.ref f_is_web))) (l_is_web : K.lookup f_is_web = some ⟨oc_is_web, od_is_web, .func (PySem.W.fnOf "is_web" "is_web" (defArgs s_is_web) (defBody s_is_web) (defScope s_is_web) .none kv_is_web dc_is_web pm_is_web an_is_web cd_is_web ct_is_web), sl_is_web⟩) (c_is_web_ : PySem.W.codeIn K cd_is_web "is_web" = true) (k_is_web : PySem.W.keepIn K (.ref f_is_web) = true)
    (n_look_at_webs : PySem.W.nsIn K mainGlobals "look_at_webs" = some (some (.ref f_look_at_webs))) (l_look_at_webs : K.lookup f_look_at_webs = some ⟨oc_look_at_webs, od_look_at_webs, .func (PySem.W.fnOf "look_at_webs" "look_at_webs" (defArgs s_look_at_webs) (defBody s_look_at_webs) (defScope s_look_at_webs) .none kv_look_at_webs dc_look_at_webs pm_look_at_webs an_look_at_webs cd_look_at_webs ct_look_at_webs), sl_look_at_webs⟩) (c_look_at_webs_ : PySem.W.codeIn K cd_look_at_webs "look_at_webs" = true) (k_look_at_webs : PySem.W.keepIn K (.ref f_look_at_webs) = true)
    (n_written : PySem.W.nsIn K mainGlobals "written" = some (some (.ref f_written))) (l_written : K.lookup f_written = some ⟨oc_written, od_written, .func (PySem.W.fnOf "written" "written" (defArgs s_written) (defBody s_written) (defScope s_written) .none kv_written dc_written pm_written an_written cd_written ct_written), sl_written⟩) (c_written_ : PySem.W.codeIn K cd_written "written" = true) (k_written : PySem.W.keepIn K (.ref f_written) = true)
    (n_all_written : PySem.W.nsIn K mainGlobals "all_written" = some (some (.ref f_all_written))) (l_all_written : K.lookup f_all_written = some ⟨oc_all_written, od_all_written, .func (PySem.W.fnOf "all_written" "all_written" (defArgs s_all_written) (defBody s_all_written) (defScope s_all_written) .none kv_all_written dc_all_written pm_all_written an_all_written cd_all_written ct_all_written), sl_all_written⟩) (c_all_written_ : PySem.W.codeIn K cd_all_written "all_written" = true) (k_all_written : PySem.W.keepIn K (.ref f_all_written) = true)
    (n_show_web : PySem.W.nsIn K mainGlobals "show_web" = some (some (.ref f_show_web))) (l_show_web : K.lookup f_show_web = some ⟨oc_show_web, od_show_web, .func (PySem.W.fnOf "show_web" "show_web" (defArgs s_show_web) (defBody s_show_web) (defScope s_show_web) .none kv_show_web dc_show_web pm_show_web an_show_web cd_show_web ct_show_web), sl_show_web⟩) (c_show_web_ : PySem.W.codeIn K cd_show_web "show_web" = true) (k_show_web : PySem.W.keepIn K (.ref f_show_web) = true)
    (n_show_webs : PySem.W.nsIn K mainGlobals "show_webs" = some (some (.ref f_show_webs))) (l_show_webs : K.lookup f_show_webs = some ⟨oc_show_webs, od_show_webs, .func (PySem.W.fnOf "show_webs" "show_webs" (defArgs s_show_webs) (defBody s_show_webs) (defScope s_show_webs) .none kv_show_webs dc_show_webs pm_show_webs an_show_webs cd_show_webs ct_show_webs), sl_show_webs⟩) (c_show_webs_ : PySem.W.codeIn K cd_show_webs "show_webs" = true) (k_show_webs : PySem.W.keepIn K (.ref f_show_webs) = true)
    (n_number_by : PySem.W.nsIn K mainGlobals "number_by" = some (some (.ref f_number_by))) (l_number_by : K.lookup f_number_by = some ⟨oc_number_by, od_number_by, .func (PySem.W.fnOf "number_by" "number_by" (defArgs s_number_by) (defBody s_number_by) (defScope s_number_by) .none kv_number_by dc_number_by pm_number_by an_number_by cd_number_by ct_number_by), sl_number_by⟩) (c_number_by_ : PySem.W.codeIn K cd_number_by "number_by" = true) (k_number_by : PySem.W.keepIn K (.ref f_number_by) = true)
    (n_tie_by : PySem.W.nsIn K mainGlobals "tie_by" = some (some (.ref f_tie_by))) (l_tie_by : K.lookup f_tie_by = some ⟨oc_tie_by, od_tie_by, .func (PySem.W.fnOf "tie_by" "tie_by" (defArgs s_tie_by) (defBody s_tie_by) (defScope s_tie_by) .none kv_tie_by dc_tie_by pm_tie_by an_tie_by cd_tie_by ct_tie_by), sl_tie_by⟩) (c_tie_by_ : PySem.W.codeIn K cd_tie_by "tie_by" = true) (k_tie_by : PySem.W.keepIn K (.ref f_tie_by) = true)
    (n_read_web : PySem.W.nsIn K mainGlobals "read_web" = some (some (.ref f_read_web))) (l_read_web : K.lookup f_read_web = some ⟨oc_read_web, od_read_web, .func (PySem.W.fnOf "read_web" "read_web" (defArgs s_read_web) (defBody s_read_web) (defScope s_read_web) .none kv_read_web dc_read_web pm_read_web an_read_web cd_read_web ct_read_web), sl_read_web⟩) (c_read_web_ : PySem.W.codeIn K cd_read_web "read_web" = true) (k_read_web : PySem.W.keepIn K (.ref f_read_web) = true)
    (n_read_webs : PySem.W.nsIn K mainGlobals "read_webs" = some (some (.ref f_read_webs))) (l_read_webs : K.lookup f_read_webs = some ⟨oc_read_webs, od_read_webs, .func (PySem.W.fnOf "read_webs" "read_webs" (defArgs s_read_webs) (defBody s_read_webs) (defScope s_read_webs) .none kv_read_webs dc_read_webs pm_read_webs an_read_webs cd_read_webs ct_read_webs), sl_read_webs⟩) (c_read_webs_ : PySem.W.codeIn K cd_read_webs "read_webs" = true) (k_read_webs : PySem.W.keepIn K (.ref f_read_webs) = true)
    (n_law_numbers : PySem.W.nsIn K mainGlobals "_law_numbers" = some (some (.ref f_law_numbers))) (l_law_numbers : K.lookup f_law_numbers = some ⟨oc_law_numbers, od_law_numbers, .func (PySem.W.fnOf "_law_numbers" "_law_numbers" (defArgs s_law_numbers) (defBody s_law_numbers) (defScope s_law_numbers) .none kv_law_numbers dc_law_numbers pm_law_numbers an_law_numbers cd_law_numbers ct_law_numbers), sl_law_numbers⟩) (c_law_numbers_ : PySem.W.codeIn K cd_law_numbers "_law_numbers" = true) (k_law_numbers : PySem.W.keepIn K (.ref f_law_numbers) = true)
    (n_law_order : PySem.W.nsIn K mainGlobals "_law_order" = some (some (.ref f_law_order))) (l_law_order : K.lookup f_law_order = some ⟨oc_law_order, od_law_order, .func (PySem.W.fnOf "_law_order" "_law_order" (defArgs s_law_order) (defBody s_law_order) (defScope s_law_order) .none kv_law_order dc_law_order pm_law_order an_law_order cd_law_order ct_law_order), sl_law_order⟩) (c_law_order_ : PySem.W.codeIn K cd_law_order "_law_order" = true) (k_law_order : PySem.W.keepIn K (.ref f_law_order) = true)
    (n_law_web : PySem.W.nsIn K mainGlobals "_law_web" = some (some (.ref f_law_web))) (l_law_web : K.lookup f_law_web = some ⟨oc_law_web, od_law_web, .func (PySem.W.fnOf "_law_web" "_law_web" (defArgs s_law_web) (defBody s_law_web) (defScope s_law_web) .none kv_law_web dc_law_web pm_law_web an_law_web cd_law_web ct_law_web), sl_law_web⟩) (c_law_web_ : PySem.W.codeIn K cd_law_web "_law_web" = true) (k_law_web : PySem.W.keepIn K (.ref f_law_web) = true)
    (n_law_shown : PySem.W.nsIn K mainGlobals "_law_shown" = some (some (.ref f_law_shown))) (l_law_shown : K.lookup f_law_shown = some ⟨oc_law_shown, od_law_shown, .func (PySem.W.fnOf "_law_shown" "_law_shown" (defArgs s_law_shown) (defBody s_law_shown) (defScope s_law_shown) .none kv_law_shown dc_law_shown pm_law_shown an_law_shown cd_law_shown ct_law_shown), sl_law_shown⟩) (c_law_shown_ : PySem.W.codeIn K cd_law_shown "_law_shown" = true) (k_law_shown : PySem.W.keepIn K (.ref f_law_shown) = true)
    (n_law_read : PySem.W.nsIn K mainGlobals "_law_read" = some (some (.ref f_law_read))) (l_law_read : K.lookup f_law_read = some ⟨oc_law_read, od_law_read, .func (PySem.W.fnOf "_law_read" "_law_read" (defArgs s_law_read) (defBody s_law_read) (defScope s_law_read) .none kv_law_read dc_law_read pm_law_read an_law_read cd_law_read ct_law_read), sl_law_read⟩) (c_law_read_ : PySem.W.codeIn K cd_law_read "_law_read" = true) (k_law_read : PySem.W.keepIn K (.ref f_law_read) = true)
    (n_law_all_read : PySem.W.nsIn K mainGlobals "_law_all_read" = some (some (.ref f_law_all_read))) (l_law_all_read : K.lookup f_law_all_read = some ⟨oc_law_all_read, od_law_all_read, .func (PySem.W.fnOf "_law_all_read" "_law_all_read" (defArgs s_law_all_read) (defBody s_law_all_read) (defScope s_law_all_read) .none kv_law_all_read dc_law_all_read pm_law_all_read an_law_all_read cd_law_all_read ct_law_all_read), sl_law_all_read⟩) (c_law_all_read_ : PySem.W.codeIn K cd_law_all_read "_law_all_read" = true) (k_law_all_read : PySem.W.keepIn K (.ref f_law_all_read) = true)
    (n_law : PySem.W.nsIn K mainGlobals "law" = some (some (.ref f_law))) (l_law : K.lookup f_law = some ⟨oc_law, od_law, .func (PySem.W.fnOf "law" "law" (defArgs s_law) (defBody s_law) (defScope s_law) .none kv_law dc_law pm_law an_law cd_law ct_law), sl_law⟩) (c_law_ : PySem.W.codeIn K cd_law "law" = true) (k_law : PySem.W.keepIn K (.ref f_law) = true)
    (z_isinstance : PySem.W.nsIn K mainGlobals "isinstance" = some none)
    (z_int : PySem.W.nsIn K mainGlobals "int" = some none)
    (z_bool : PySem.W.nsIn K mainGlobals "bool" = some none)
    (z_tuple : PySem.W.nsIn K mainGlobals "tuple" = some none)
    (z_list : PySem.W.nsIn K mainGlobals "list" = some none)
    (z_dict : PySem.W.nsIn K mainGlobals "dict" = some none)
    (z_str : PySem.W.nsIn K mainGlobals "str" = some none)
    (z_len : PySem.W.nsIn K mainGlobals "len" = some none)
    (z_range : PySem.W.nsIn K mainGlobals "range" = some none)
    (z_enumerate : PySem.W.nsIn K mainGlobals "enumerate" = some none)
    (z_zip : PySem.W.nsIn K mainGlobals "zip" = some none)
    (z_max : PySem.W.nsIn K mainGlobals "max" = some none)
    (z_min : PySem.W.nsIn K mainGlobals "min" = some none)
    (z_sum : PySem.W.nsIn K mainGlobals "sum" = some none)
    (z_all : PySem.W.nsIn K mainGlobals "all" = some none)
    (z_any : PySem.W.nsIn K mainGlobals "any" = some none)
    (z_repr : PySem.W.nsIn K mainGlobals "repr" = some none)
    (z_sorted : PySem.W.nsIn K mainGlobals "sorted" = some none)
    (v_MOST_PLACES : PySem.W.nsIn K mainGlobals "MOST_PLACES" = some (some (.int 40 t_MOST_PLACES)))
    (v_MOST_TIES : PySem.W.nsIn K mainGlobals "MOST_TIES" = some (some (.int 120 t_MOST_TIES)))
    (v_MOST_WEBS : PySem.W.nsIn K mainGlobals "MOST_WEBS" = some (some (.int 12 t_MOST_WEBS)))
    (v_MOST_FIGURES : PySem.W.nsIn K mainGlobals "MOST_FIGURES" = some (some (.int 4 t_MOST_FIGURES)))
    (v_FIGURES : PySem.W.nsIn K mainGlobals "FIGURES" = some (some (.str "0123456789" t_FIGURES)))
    (v_NONE : PySem.W.nsIn K mainGlobals "NONE" = some (some (.str "none" t_NONE)))
    (v_BETWEEN : PySem.W.nsIn K mainGlobals "BETWEEN" = some (some (.str " * " t_BETWEEN))) :
    ∃ fd : FuncData, (∀ (s : Shared) (v : Value), BindsTo s fd ⟨[v], []⟩ [("script", v)]) ∧ ∀ base : Heap, K.In base → base.Ns mainGlobals mg → FnG l.prog w K mg base 9 fa fd ["script"] (spC K c_law) := by
  have e := e0.symm.trans (PySem.W.mg_of X G n_law)
  cases e
  have T : Txt mg := ⟨PySem.W.mg_none_of X G z_isinstance, PySem.W.mg_none_of X G z_int, PySem.W.mg_none_of X G z_bool, PySem.W.mg_none_of X G z_tuple, PySem.W.mg_none_of X G z_list, PySem.W.mg_none_of X G z_dict, PySem.W.mg_none_of X G z_str, PySem.W.mg_none_of X G z_len, PySem.W.mg_none_of X G z_range, PySem.W.mg_none_of X G z_enumerate, PySem.W.mg_none_of X G z_zip, PySem.W.mg_none_of X G z_max, PySem.W.mg_none_of X G z_min, PySem.W.mg_none_of X G z_sum, PySem.W.mg_none_of X G z_all, PySem.W.mg_none_of X G z_any, PySem.W.mg_none_of X G z_repr, PySem.W.mg_none_of X G z_sorted⟩
  have g_MOST_PLACES : ∃ t, mg "MOST_PLACES" = some (.int 40 t) := ⟨_, PySem.W.mg_of X G v_MOST_PLACES⟩
  have g_MOST_TIES : ∃ t, mg "MOST_TIES" = some (.int 120 t) := ⟨_, PySem.W.mg_of X G v_MOST_TIES⟩
  have g_MOST_WEBS : ∃ t, mg "MOST_WEBS" = some (.int 12 t) := ⟨_, PySem.W.mg_of X G v_MOST_WEBS⟩
  have g_MOST_FIGURES : ∃ t, mg "MOST_FIGURES" = some (.int 4 t) := ⟨_, PySem.W.mg_of X G v_MOST_FIGURES⟩
  have g_FIGURES : ∃ t, mg "FIGURES" = some (.str "0123456789" t) := ⟨_, PySem.W.mg_of X G v_FIGURES⟩
  have g_NONE : ∃ t, mg "NONE" = some (.str "none" t) := ⟨_, PySem.W.mg_of X G v_NONE⟩
  have g_BETWEEN : ∃ t, mg "BETWEEN" = some (.str " * " t) := ⟨_, PySem.W.mg_of X G v_BETWEEN⟩
  have F_is_whole := fun_mk (st := s_is_whole) l_is_whole c_is_whole_ k_is_whole
  have b_is_whole := F_is_whole.binds (ps := ["thing"]) fun _ _ _ _ _ _ us hl => match us, hl with | [_], _ => rfl
  have F_is_within := fun_mk (st := s_is_within) l_is_within c_is_within_ k_is_within
  have b_is_within := F_is_within.binds (ps := ["thing", "least", "most"]) fun _ _ _ _ _ _ us hl => match us, hl with | [_, _, _], _ => rfl
  have F_is_tie := fun_mk (st := s_is_tie) l_is_tie c_is_tie_ k_is_tie
  have b_is_tie := F_is_tie.binds (ps := ["many", "thing"]) fun _ _ _ _ _ _ us hl => match us, hl with | [_, _], _ => rfl
  have F_look_at_web := fun_mk (st := s_look_at_web) l_look_at_web c_look_at_web_ k_look_at_web
  have b_look_at_web := F_look_at_web.binds (ps := ["thing"]) fun _ _ _ _ _ _ us hl => match us, hl with | [_], _ => rfl
  have F_is_web := fun_mk (st := s_is_web) l_is_web c_is_web_ k_is_web
  have b_is_web := F_is_web.binds (ps := ["thing"]) fun _ _ _ _ _ _ us hl => match us, hl with | [_], _ => rfl
  have F_look_at_webs := fun_mk (st := s_look_at_webs) l_look_at_webs c_look_at_webs_ k_look_at_webs
  have b_look_at_webs := F_look_at_webs.binds (ps := ["thing"]) fun _ _ _ _ _ _ us hl => match us, hl with | [_], _ => rfl
  have F_written := fun_mk (st := s_written) l_written c_written_ k_written
  have b_written := F_written.binds (ps := ["web"]) fun _ _ _ _ _ _ us hl => match us, hl with | [_], _ => rfl
  have F_all_written := fun_mk (st := s_all_written) l_all_written c_all_written_ k_all_written
  have b_all_written := F_all_written.binds (ps := ["webs"]) fun _ _ _ _ _ _ us hl => match us, hl with | [_], _ => rfl
  have F_show_web := fun_mk (st := s_show_web) l_show_web c_show_web_ k_show_web
  have b_show_web := F_show_web.binds (ps := ["web"]) fun _ _ _ _ _ _ us hl => match us, hl with | [_], _ => rfl
  have F_show_webs := fun_mk (st := s_show_webs) l_show_webs c_show_webs_ k_show_webs
  have b_show_webs := F_show_webs.binds (ps := ["webs"]) fun _ _ _ _ _ _ us hl => match us, hl with | [_], _ => rfl
  have F_number_by := fun_mk (st := s_number_by) l_number_by c_number_by_ k_number_by
  have b_number_by := F_number_by.binds (ps := ["text"]) fun _ _ _ _ _ _ us hl => match us, hl with | [_], _ => rfl
  have F_tie_by := fun_mk (st := s_tie_by) l_tie_by c_tie_by_ k_tie_by
  have b_tie_by := F_tie_by.binds (ps := ["word"]) fun _ _ _ _ _ _ us hl => match us, hl with | [_], _ => rfl
  have F_read_web := fun_mk (st := s_read_web) l_read_web c_read_web_ k_read_web
  have b_read_web := F_read_web.binds (ps := ["text"]) fun _ _ _ _ _ _ us hl => match us, hl with | [_], _ => rfl
  have F_read_webs := fun_mk (st := s_read_webs) l_read_webs c_read_webs_ k_read_webs
  have b_read_webs := F_read_webs.binds (ps := ["text"]) fun _ _ _ _ _ _ us hl => match us, hl with | [_], _ => rfl
  have F_law_numbers := fun_mk (st := s_law_numbers) l_law_numbers c_law_numbers_ k_law_numbers
  have b_law_numbers := F_law_numbers.binds (ps := ["cell", "salt", "sizes"]) fun _ _ _ _ _ _ us hl => match us, hl with | [_, _, _], _ => rfl
  have F_law_order := fun_mk (st := s_law_order) l_law_order c_law_order_ k_law_order
  have b_law_order := F_law_order.binds (ps := ["digits"]) fun _ _ _ _ _ _ us hl => match us, hl with | [_], _ => rfl
  have F_law_web := fun_mk (st := s_law_web) l_law_web c_law_web_ k_law_web
  have b_law_web := F_law_web.binds (ps := ["cell", "salt", "most", "more", "loose"]) fun _ _ _ _ _ _ us hl => match us, hl with | [_, _, _, _, _], _ => rfl
  have F_law_shown := fun_mk (st := s_law_shown) l_law_shown c_law_shown_ k_law_shown
  have b_law_shown := F_law_shown.binds (ps := ["web"]) fun _ _ _ _ _ _ us hl => match us, hl with | [_], _ => rfl
  have F_law_read := fun_mk (st := s_law_read) l_law_read c_law_read_ k_law_read
  have b_law_read := F_law_read.binds (ps := ["web"]) fun _ _ _ _ _ _ us hl => match us, hl with | [_], _ => rfl
  have F_law_all_read := fun_mk (st := s_law_all_read) l_law_all_read c_law_all_read_ k_law_all_read
  have b_law_all_read := F_law_all_read.binds (ps := ["webs"]) fun _ _ _ _ _ _ us hl => match us, hl with | [_], _ => rfl
  have F_law := fun_mk (st := s_law) l_law c_law_ k_law
  refine ⟨PySem.W.fnOf "law" "law" (defArgs s_law) (defBody s_law) (defScope s_law) .none kv_law dc_law pm_law an_law cd_law ct_law, fun s v => .of_eq rfl, fun base _ _ => ?_⟩
  have H_is_whole : FnC l.prog w K mg base 1 "is_whole" c_is_whole := fnc_mk (PySem.W.mg_of X G n_is_whole) k_is_whole b_is_whole (ok_is_whole F_is_whole T )
  have H_is_within : FnC l.prog w K mg base 2 "is_within" c_is_within := fnc_mk (PySem.W.mg_of X G n_is_within) k_is_within b_is_within (ok_is_within F_is_within T H_is_whole)
  have H_is_tie : FnC l.prog w K mg base 3 "is_tie" c_is_tie := fnc_mk (PySem.W.mg_of X G n_is_tie) k_is_tie b_is_tie (ok_is_tie F_is_tie T H_is_within)
  have H_look_at_web : FnC l.prog w K mg base 4 "look_at_web" c_look_at_web := fnc_mk (PySem.W.mg_of X G n_look_at_web) k_look_at_web b_look_at_web (ok_look_at_web F_look_at_web T g_MOST_PLACES g_MOST_TIES H_is_within H_is_tie)
  have H_is_web : FnC l.prog w K mg base 5 "is_web" c_is_web := fnc_mk (PySem.W.mg_of X G n_is_web) k_is_web b_is_web (ok_is_web F_is_web T H_look_at_web)
  have H_look_at_webs : FnC l.prog w K mg base 5 "look_at_webs" c_look_at_webs := fnc_mk (PySem.W.mg_of X G n_look_at_webs) k_look_at_webs b_look_at_webs (ok_look_at_webs F_look_at_webs T g_MOST_WEBS H_look_at_web)
  have H_written : FnC l.prog w K mg base 1 "written" c_written := fnc_mk (PySem.W.mg_of X G n_written) k_written b_written (ok_written F_written T )
  have H_all_written : FnC l.prog w K mg base 2 "all_written" c_all_written := fnc_mk (PySem.W.mg_of X G n_all_written) k_all_written b_all_written (ok_all_written F_all_written T g_NONE g_BETWEEN H_written)
  have H_show_web : FnC l.prog w K mg base 5 "show_web" c_show_web := fnc_mk (PySem.W.mg_of X G n_show_web) k_show_web b_show_web (ok_show_web F_show_web T H_look_at_web H_written)
  have H_show_webs : FnC l.prog w K mg base 6 "show_webs" c_show_webs := fnc_mk (PySem.W.mg_of X G n_show_webs) k_show_webs b_show_webs (ok_show_webs F_show_webs T H_look_at_webs H_all_written)
  have H_number_by : FnC l.prog w K mg base 1 "number_by" c_number_by := fnc_mk (PySem.W.mg_of X G n_number_by) k_number_by b_number_by (ok_number_by F_number_by T (PySem.W.mg_none_of X G z_all) g_MOST_FIGURES g_FIGURES)
  have H_tie_by : FnC l.prog w K mg base 2 "tie_by" c_tie_by := fnc_mk (PySem.W.mg_of X G n_tie_by) k_tie_by b_tie_by (ok_tie_by F_tie_by T H_number_by)
  have H_read_web : FnC l.prog w K mg base 6 "read_web" c_read_web := fnc_mk (PySem.W.mg_of X G n_read_web) k_read_web b_read_web (ok_read_web F_read_web T H_number_by H_tie_by H_is_web)
  have H_read_webs : FnC l.prog w K mg base 7 "read_webs" c_read_webs := fnc_mk (PySem.W.mg_of X G n_read_webs) k_read_webs b_read_webs (ok_read_webs F_read_webs T g_NONE g_BETWEEN g_MOST_WEBS H_read_web)
  have H_law_numbers : FnC l.prog w K mg base 1 "_law_numbers" c_law_numbers := fnc_mk (PySem.W.mg_of X G n_law_numbers) k_law_numbers b_law_numbers (ok_law_numbers F_law_numbers T )
  have H_law_order : FnC l.prog w K mg base 1 "_law_order" c_law_order := fnc_mk (PySem.W.mg_of X G n_law_order) k_law_order b_law_order (ok_law_order F_law_order T )
  have H_law_web : FnC l.prog w K mg base 2 "_law_web" c_law_web := fnc_mk (PySem.W.mg_of X G n_law_web) k_law_web b_law_web (ok_law_web F_law_web T H_law_numbers H_law_order)
  have H_law_shown : FnC l.prog w K mg base 1 "_law_shown" c_law_shown3 := fnc_mk (PySem.W.mg_of X G n_law_shown) k_law_shown b_law_shown (ok_law_shown3 F_law_shown T)
  have H_law_read : FnC l.prog w K mg base 7 "_law_read" c_law_read := fnc_mk (PySem.W.mg_of X G n_law_read) k_law_read b_law_read (ok_law_read F_law_read T H_law_shown H_show_web H_read_web)
  have H_law_all_read : FnC l.prog w K mg base 8 "_law_all_read" c_law_all_read := fnc_mk (PySem.W.mg_of X G n_law_all_read) k_law_all_read b_law_all_read (ok_law_all_read F_law_all_read T H_law_shown H_show_webs H_read_webs)
  exact ok_law F_law T H_show_webs H_read_webs H_law_numbers H_law_web H_law_read H_law_all_read
end KW
open PySem PySem.W PyProof.Rows
set_option maxHeartbeats 0 in
theorem PySem.Challenge.cw_webtimes_k83_webs_read_back_holds : PySem.Challenge.rw_webtimes_k83_webs_read_back.Holds := by
  w_on
  o_law
  k_head
  case hw => w_witness2
  k_fill
  refine W3.law_end (l := PySem.Challenge.rw_webtimes_k83_webs_read_back) (C := KW.c_law) (x := "script") (k := 9) rfl rfl ⟨rfl, by decide, by decide⟩ (fun w h Y => PySem.W.kIn_of Y) (fun zs hz => ⟨zs, hz, rfl, rfl⟩) ?nl ?fn
  case nl => intro w; rfl
  case fn =>
    intro w mg fa h KX G hmg
    refine' KW.parts KX G hmg ?n_is_whole ?l_is_whole ?c_is_whole_ ?k_is_whole ?n_is_within ?l_is_within ?c_is_within_ ?k_is_within ?n_is_tie ?l_is_tie ?c_is_tie_ ?k_is_tie ?n_look_at_web ?l_look_at_web ?c_look_at_web_ ?k_look_at_web ?n_is_web ?l_is_web ?c_is_web_ ?k_is_web ?n_look_at_webs ?l_look_at_webs ?c_look_at_webs_ ?k_look_at_webs ?n_written ?l_written ?c_written_ ?k_written ?n_all_written ?l_all_written ?c_all_written_ ?k_all_written ?n_show_web ?l_show_web ?c_show_web_ ?k_show_web ?n_show_webs ?l_show_webs ?c_show_webs_ ?k_show_webs ?n_number_by ?l_number_by ?c_number_by_ ?k_number_by ?n_tie_by ?l_tie_by ?c_tie_by_ ?k_tie_by ?n_read_web ?l_read_web ?c_read_web_ ?k_read_web ?n_read_webs ?l_read_webs ?c_read_webs_ ?k_read_webs ?n_law_numbers ?l_law_numbers ?c_law_numbers_ ?k_law_numbers ?n_law_order ?l_law_order ?c_law_order_ ?k_law_order ?n_law_web ?l_law_web ?c_law_web_ ?k_law_web ?n_law_shown ?l_law_shown ?c_law_shown_ ?k_law_shown ?n_law_read ?l_law_read ?c_law_read_ ?k_law_read ?n_law_all_read ?l_law_all_read ?c_law_all_read_ ?k_law_all_read ?n_law ?l_law ?c_law_ ?k_law ?z_isinstance ?z_int ?z_bool ?z_tuple ?z_list ?z_dict ?z_str ?z_len ?z_range ?z_enumerate ?z_zip ?z_max ?z_min ?z_sum ?z_all ?z_any ?z_repr ?z_sorted ?v_MOST_PLACES ?v_MOST_TIES ?v_MOST_WEBS ?v_MOST_FIGURES ?v_FIGURES ?v_NONE ?v_BETWEEN
    case n_is_whole => k_is
    case l_is_whole => k_is
    case c_is_whole_ => k_is
    case k_is_whole => k_is
    case n_is_within => k_is
    case l_is_within => k_is
    case c_is_within_ => k_is
    case k_is_within => k_is
    case n_is_tie => k_is
    case l_is_tie => k_is
    case c_is_tie_ => k_is
    case k_is_tie => k_is
    case n_look_at_web => k_is
    case l_look_at_web => k_is
    case c_look_at_web_ => k_is
    case k_look_at_web => k_is
    case n_is_web => k_is
    case l_is_web => k_is
    case c_is_web_ => k_is
    case k_is_web => k_is
    case n_look_at_webs => k_is
    case l_look_at_webs => k_is
    case c_look_at_webs_ => k_is
    case k_look_at_webs => k_is
    case n_written => k_is
    case l_written => k_is
    case c_written_ => k_is
    case k_written => k_is
    case n_all_written => k_is
    case l_all_written => k_is
    case c_all_written_ => k_is
    case k_all_written => k_is
    case n_show_web => k_is
    case l_show_web => k_is
    case c_show_web_ => k_is
    case k_show_web => k_is
    case n_show_webs => k_is
    case l_show_webs => k_is
    case c_show_webs_ => k_is
    case k_show_webs => k_is
    case n_number_by => k_is
    case l_number_by => k_is
    case c_number_by_ => k_is
    case k_number_by => k_is
    case n_tie_by => k_is
    case l_tie_by => k_is
    case c_tie_by_ => k_is
    case k_tie_by => k_is
    case n_read_web => k_is
    case l_read_web => k_is
    case c_read_web_ => k_is
    case k_read_web => k_is
    case n_read_webs => k_is
    case l_read_webs => k_is
    case c_read_webs_ => k_is
    case k_read_webs => k_is
    case n_law_numbers => k_is
    case l_law_numbers => k_is
    case c_law_numbers_ => k_is
    case k_law_numbers => k_is
    case n_law_order => k_is
    case l_law_order => k_is
    case c_law_order_ => k_is
    case k_law_order => k_is
    case n_law_web => k_is
    case l_law_web => k_is
    case c_law_web_ => k_is
    case k_law_web => k_is
    case n_law_shown => k_is
    case l_law_shown => k_is
    case c_law_shown_ => k_is
    case k_law_shown => k_is
    case n_law_read => k_is
    case l_law_read => k_is
    case c_law_read_ => k_is
    case k_law_read => k_is
    case n_law_all_read => k_is
    case l_law_all_read => k_is
    case c_law_all_read_ => k_is
    case k_law_all_read => k_is
    case n_law => k_is
    case l_law => k_is
    case c_law_ => k_is
    case k_law => k_is
    case z_isinstance => k_is
    case z_int => k_is
    case z_bool => k_is
    case z_tuple => k_is
    case z_list => k_is
    case z_dict => k_is
    case z_str => k_is
    case z_len => k_is
    case z_range => k_is
    case z_enumerate => k_is
    case z_zip => k_is
    case z_max => k_is
    case z_min => k_is
    case z_sum => k_is
    case z_all => k_is
    case z_any => k_is
    case z_repr => k_is
    case z_sorted => k_is
    case v_MOST_PLACES => k_is
    case v_MOST_TIES => k_is
    case v_MOST_WEBS => k_is
    case v_MOST_FIGURES => k_is
    case v_FIGURES => k_is
    case v_NONE => k_is
    case v_BETWEEN => k_is

