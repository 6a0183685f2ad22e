import PyProof.Rows.All
import Wide.All
import OpenK.AllK
import Wide.FinOn
import HandS.ForMost
import HandS.Evl
import HandS.IsInst
import HandS.Deep
import HandS.TupAny
import HandS.Star
import HandS.Flow
import HandS.More
import HandS.Zip
import PyProof.RulesMatch
import HandS.Style
import PyProof.Rows.IntMath
import PyProof.Rows.RuleB_pow
import KE.SortData
import HandS.Ends
import HandS.HeadEnd
import KE.KDictKeyed
import HandS.TupSets
import KE.SortCalls
import KE.LtSeq
import HandS.SetBool
import HandS.Head0
import HandS.Head1
import HandS.Head2
import HandS.HeadHook1
import HandS.HeadHook2
import HandS.WordsExc
import KE.KStateDown
import PySem.Challenge.RW_holdtap_k81_whole_halves_by_all_delays
set_option Elab.async false
set_option linter.all false
set_option maxRecDepth 100000
set_option maxHeartbeats 1000000
/-! PL: an abstract machine over the hand layer: slots hold shared data or owned things. -/
namespace PL
open PySem L2
/-! ### deep data that is tracked -/
mutual
inductive Dt (H : Hp) : V → PyData → Prop
  | non : Dt H .non .none
  | bl (b : Bool) : Dt H (.bl b) (.bool b)
  | int (i : Int) : Dt H (.int i) (.int i)
  | str (x : Str) : Dt H (.str x) (.str x)
  | lst {a : Addr} {xs : List V} {ds : List PyData} : H a = some (.lst xs) → DtA H xs ds → Dt H (.ref a) (.list ds)
  | tup {a : Addr} {xs : List V} {ds : List PyData} : H a = some (.tup xs) → DtA H xs ds → Dt H (.ref a) (.tuple ds)
inductive DtA (H : Hp) : List V → List PyData → Prop
  | nil : DtA H [] []
  | cons {v : V} {vs : List V} {d : PyData} {ds : List PyData} : Dt H v d → DtA H vs ds → DtA H (v :: vs) (d :: ds)
end
def Ex (H H' : Hp) : Prop := ∀ a o, H a = some o → H' a = some o
theorem Ex.rfl {H : Hp} : Ex H H := fun _ _ h => h
theorem Ex.trans {H H1 H2 : Hp} (a : Ex H H1) (b : Ex H1 H2) : Ex H H2 := fun x o h => b x o (a x o h)
theorem Ex.new {H : Hp} {p : Addr} {o : HO} (h : H p = none) : Ex H (upd H p o) := fun a u e => by
  rw [upd_ne (ne_of_none e h)]
  exact e
theorem Ex.back {H H' : Hp} {p : Addr} (e : Ex H H') (h : H' p = none) : H p = none := by
  cases q : H p with
  | none => rfl
  | some o =>
    rw [e p o q] at h
    cases h
theorem Ex.updOut {H H' : Hp} {p : Addr} {o : HO} (e : Ex H H') (h : H p = none) : Ex H (upd H' p o) := fun a u ha => by
  rw [upd_ne (ne_of_none ha h)]
  exact e a u ha
theorem Ex.upd2 {H H' : Hp} {p : Addr} {o : HO} (e : Ex H H') : Ex (upd H p o) (upd H' p o) := fun a u ha => by
  by_cases q : a = p
  · subst q
    rw [upd_same] at ha ⊢
    exact ha
  · rw [upd_ne q] at ha ⊢
    exact e a u ha
mutual
theorem Dt.mono {H H' : Hp} (e : Ex H H') : ∀ {v : V} {d : PyData}, Dt H v d → Dt H' v d
  | _, _, .non => .non
  | _, _, .bl b => .bl b
  | _, _, .int i => .int i
  | _, _, .str x => .str x
  | _, _, .lst h t => .lst (e _ _ h) (DtA.mono e t)
  | _, _, .tup h t => .tup (e _ _ h) (DtA.mono e t)
theorem DtA.mono {H H' : Hp} (e : Ex H H') : ∀ {vs : List V} {ds : List PyData}, DtA H vs ds → DtA H' vs ds
  | _, _, .nil => .nil
  | _, _, .cons h t => .cons (Dt.mono e h) (DtA.mono e t)
end
mutual
theorem Dt.dp {K : PySem.W.Frag} {H : Hp} : ∀ {v : V} {d : PyData}, Dt H v d → Dp K H v d
  | _, _, .non => .non
  | _, _, .bl b => .bl b
  | _, _, .int i => .int i
  | _, _, .str x => .str x
  | _, _, .lst h t => .lst (SqL.of h) (DtA.dp t)
  | _, _, .tup h t => .tup (SqT.of h) (DtA.dp t)
theorem DtA.dp {K : PySem.W.Frag} {H : Hp} : ∀ {vs : List V} {ds : List PyData}, DtA H vs ds → DpAll K H vs ds
  | _, _, .nil => .nil
  | _, _, .cons h t => .cons (Dt.dp h) (DtA.dp t)
end
theorem DtA.length {H : Hp} : ∀ {vs : List V} {ds : List PyData}, DtA H vs ds → vs.length = ds.length
  | _, _, .nil => rfl
  | _, _, .cons _ t => congrArg (· + 1) (DtA.length t)
theorem DtA.app {H : Hp} : ∀ {vs ws : List V} {ds es : List PyData}, DtA H vs ds → DtA H ws es → DtA H (vs ++ ws) (ds ++ es)
  | _, _, _, _, .nil, r => r
  | _, _, _, _, .cons h t, r => .cons h (DtA.app t r)
theorem DtA.get {H : Hp} : ∀ {vs : List V} {ds : List PyData} {i : Nat} {d : PyData}, DtA H vs ds → ds[i]? = some d → ∃ v, vs[i]? = some v ∧ Dt H v d
  | _, _, _, _, .nil, e => by simp at e
  | _, _, 0, _, .cons h _, e => by
    simp at e
    subst e
    exact ⟨_, rfl, h⟩
  | _, _, i + 1, _, .cons _ t, e => by
    obtain ⟨v, h1, h2⟩ := DtA.get (i := i) t (by simpa using e)
    exact ⟨v, by simpa using h1, h2⟩
theorem DtA.getV {H : Hp} : ∀ {vs : List V} {ds : List PyData} {i : Nat} {v : V}, DtA H vs ds → vs[i]? = some v → ∃ d, ds[i]? = some d ∧ Dt H v d
  | _, _, _, _, .nil, e => by simp at e
  | _, _, 0, _, .cons h _, e => by
    simp at e
    subst e
    exact ⟨_, rfl, h⟩
  | _, _, i + 1, _, .cons _ t, e => by
    obtain ⟨v, h1, h2⟩ := DtA.getV (i := i) t (by simpa using e)
    exact ⟨v, by simpa using h1, h2⟩
theorem DtA.set {H : Hp} {v : V} {d : PyData} (h : Dt H v d) : ∀ {vs : List V} {ds : List PyData} (i : Nat), DtA H vs ds → DtA H (vs.set i v) (ds.set i d)
  | _, _, _, .nil => .nil
  | _, _, 0, .cons _ t => .cons h t
  | _, _, i + 1, .cons q t => .cons q (DtA.set h i t)
theorem DtA.take {H : Hp} : ∀ {vs : List V} {ds : List PyData} (n : Nat), DtA H vs ds → DtA H (vs.take n) (ds.take n)
  | _, _, 0, _ => .nil
  | _, _, _ + 1, .nil => .nil
  | _, _, n + 1, .cons h t => .cons h (DtA.take n t)
theorem DtA.drop {H : Hp} : ∀ {vs : List V} {ds : List PyData} (n : Nat), DtA H vs ds → DtA H (vs.drop n) (ds.drop n)
  | _, _, 0, r => r
  | _, _, _ + 1, .nil => .nil
  | _, _, n + 1, .cons _ t => DtA.drop n t
theorem DtA.rep {H : Hp} {v : V} {d : PyData} (h : Dt H v d) : ∀ n : Nat, DtA H (List.replicate n v) (List.replicate n d)
  | 0 => .nil
  | n + 1 => .cons h (DtA.rep h n)
theorem DtA.flat {H : Hp} {vs : List V} {ds : List PyData} (h : DtA H vs ds) : ∀ n : Nat, DtA H (List.replicate n vs).flatten (List.replicate n ds).flatten
  | 0 => .nil
  | n + 1 => by
    rw [List.replicate_succ, List.replicate_succ, List.flatten_cons, List.flatten_cons]
    exact h.app (DtA.flat h n)
/-! ### owned things -/
structure Ow where
  rel : Hp → Hp → V → List Addr → Prop
  mono : ∀ {Hs Hs' H H' : Hp} {v : V} {F : List Addr}, rel Hs H v F → Ex Hs Hs' → (∀ a ∈ F, H' a = H a) → rel Hs' H' v F
  live : ∀ {Hs H : Hp} {v : V} {F : List Addr}, rel Hs H v F → ∀ a ∈ F, H a ≠ none
inductive En where
  | no | al (v : V) | sh (d : PyData) | lst (es : List En) | dct (kvs : List (Key × PyData)) | ob (C : Addr) (N : List Str) (es : List En) | ow (o : Ow)
abbrev Ls := List (Option V × En)
def KvR (Hs : Hp) : List (Key × V) → List (Key × PyData) → Prop
  | ks, [] => ks = []
  | ks, (k, d) :: r => ∃ v rs, ks = (k, v) :: rs ∧ Dt Hs v d ∧ KvR Hs rs r
theorem KvR.mono {Hs Hs' : Hp} (x : Ex Hs Hs') : ∀ {ks : List (Key × V)} {kvs : List (Key × PyData)}, KvR Hs ks kvs → KvR Hs' ks kvs
  | _, [], h => h
  | _, (_, _) :: _, ⟨v, rs, e, h, t⟩ => ⟨v, rs, e, h.mono x, KvR.mono x t⟩
mutual
def EnR (Hs H : Hp) : Option V → En → List Addr → Prop
  | _, .no, F => F = []
  | o, .al v, F => F = [] ∧ o = some v
  | o, .sh d, F => F = [] ∧ ∃ v, o = some v ∧ Dt Hs v d
  | o, .lst es, F => ∃ p xs G, o = some (.ref p) ∧ H p = some (.lst xs) ∧ EnsV Hs H xs es G ∧ F = p :: G
  | o, .dct kvs, F => ∃ p ks, o = some (.ref p) ∧ H p = some (.dK ks) ∧ KvR Hs ks kvs ∧ F = [p]
  | o, .ob C N es, F => ∃ p dx xs G, o = some (.ref p) ∧ H p = some (.ins C dx (N.zip xs)) ∧ N.length = es.length ∧ EnsV Hs H xs es G ∧ F = p :: G
  | o, .ow w, F => ∃ v, o = some v ∧ w.rel Hs H v F
def EnsV (Hs H : Hp) : List V → List En → List Addr → Prop
  | xs, [], F => xs = [] ∧ F = []
  | xs, e :: es, F => ∃ x r F1 F2, xs = x :: r ∧ F = F1 ++ F2 ∧ EnR Hs H (some x) e F1 ∧ EnsV Hs H r es F2
end
mutual
theorem EnR.mono {Hs Hs' H H' : Hp} (x : Ex Hs Hs') : ∀ {o : Option V} (e : En) {F : List Addr}, EnR Hs H o e F → (∀ a ∈ F, H' a = H a) → EnR Hs' H' o e F
  | _, .no, _, r, _ => by
    rw [EnR] at r ⊢
    exact r
  | _, .al v, _, r, _ => by
    rw [EnR] at r ⊢
    exact r
  | _, .sh d, _, r, _ => by
    rw [EnR] at r ⊢
    exact ⟨r.1, let ⟨v, h1, h2⟩ := r.2; ⟨v, h1, h2.mono x⟩⟩
  | _, .lst es, _, r, k => by
    rw [EnR] at r ⊢
    obtain ⟨p, xs, G, eo, h, t, e⟩ := r
    subst e
    exact ⟨p, xs, G, eo, (k p List.mem_cons_self).trans h, EnsV.mono x es t fun a ha => k a (List.mem_cons_of_mem _ ha), rfl⟩
  | _, .dct kvs, _, r, k => by
    rw [EnR] at r ⊢
    obtain ⟨p, ks, eo, h, t, e⟩ := r
    subst e
    exact ⟨p, ks, eo, (k p List.mem_cons_self).trans h, t.mono x, rfl⟩
  | _, .ob C N es, _, r, k => by
    rw [EnR] at r ⊢
    obtain ⟨p, dx, xs, G, eo, h, hN, t, e⟩ := r
    subst e
    exact ⟨p, dx, xs, G, eo, (k p List.mem_cons_self).trans h, hN, EnsV.mono x es t fun a ha => k a (List.mem_cons_of_mem _ ha), rfl⟩
  | _, .ow w, _, r, k => by
    rw [EnR] at r ⊢
    exact let ⟨v, h1, h2⟩ := r; ⟨v, h1, w.mono h2 x k⟩
theorem EnsV.mono {Hs Hs' H H' : Hp} (x : Ex Hs Hs') : ∀ {xs : List V} (es : List En) {F : List Addr}, EnsV Hs H xs es F → (∀ a ∈ F, H' a = H a) → EnsV Hs' H' xs es F
  | _, [], _, r, _ => by
    rw [EnsV] at r ⊢
    exact r
  | _, e :: es, _, r, k => by
    rw [EnsV] at r ⊢
    obtain ⟨v, r', F1, F2, ex, eF, h, t⟩ := r
    subst eF
    exact ⟨v, r', F1, F2, ex, rfl, EnR.mono x e h fun a ha => k a (List.mem_append_left _ ha), EnsV.mono x es t fun a ha => k a (List.mem_append_right _ ha)⟩
end
mutual
theorem EnR.live {Hs H : Hp} : ∀ {o : Option V} (e : En) {F : List Addr}, EnR Hs H o e F → ∀ a ∈ F, H a ≠ none
  | _, .no, _, r, a, h => by
    rw [EnR] at r
    rw [r] at h
    cases h
  | _, .al v, _, r, a, h => by
    rw [EnR] at r
    rw [r.1] at h
    cases h
  | _, .sh d, _, r, a, h => by
    rw [EnR] at r
    rw [r.1] at h
    cases h
  | _, .lst es, _, r, a, ha => by
    rw [EnR] at r
    obtain ⟨p, xs, G, eo, h, t, e⟩ := r
    subst e
    rcases List.mem_cons.mp ha with z | z
    · rw [z, h]
      exact fun z => nomatch z
    · exact EnsV.live es t a z
  | _, .dct kvs, _, r, a, ha => by
    rw [EnR] at r
    obtain ⟨p, ks, eo, h, t, e⟩ := r
    subst e
    rcases List.mem_cons.mp ha with z | z
    · rw [z, h]
      exact fun z => nomatch z
    · cases z
  | _, .ob C N es, _, r, a, ha => by
    rw [EnR] at r
    obtain ⟨p, dx, xs, G, eo, h, hN, t, e⟩ := r
    subst e
    rcases List.mem_cons.mp ha with z | z
    · rw [z, h]
      exact fun z => nomatch z
    · exact EnsV.live es t a z
  | _, .ow w, _, r, a, ha => by
    rw [EnR] at r
    exact let ⟨v, h1, h2⟩ := r; w.live h2 a ha
theorem EnsV.live {Hs H : Hp} : ∀ {xs : List V} (es : List En) {F : List Addr}, EnsV Hs H xs es F → ∀ a ∈ F, H a ≠ none
  | _, [], _, r, a, h => by
    rw [EnsV] at r
    rw [r.2] at h
    cases h
  | _, e :: es, _, r, a, ha => by
    rw [EnsV] at r
    obtain ⟨v, r', F1, F2, ex, eF, h, t⟩ := r
    subst eF
    rcases List.mem_append.mp ha with z | z
    · exact EnR.live e h a z
    · exact EnsV.live es t a z
end
theorem enR_no {Hs H : Hp} {o : Option V} {F : List Addr} : EnR Hs H o .no F ↔ F = [] := by rw [EnR]
theorem enR_al {Hs H : Hp} {o : Option V} {v : V} {F : List Addr} : EnR Hs H o (.al v) F ↔ F = [] ∧ o = some v := by rw [EnR]
theorem enR_sh {Hs H : Hp} {o : Option V} {d : PyData} {F : List Addr} : EnR Hs H o (.sh d) F ↔ F = [] ∧ ∃ v, o = some v ∧ Dt Hs v d := by rw [EnR]
def EnsR (Hs H : Hp) : Ls → List Addr → Prop
  | [], F => F = []
  | p :: L, F => ∃ F1 F2, F = F1 ++ F2 ∧ EnR Hs H p.1 p.2 F1 ∧ EnsR Hs H L F2
theorem EnsR.mono {Hs Hs' H H' : Hp} (x : Ex Hs Hs') : ∀ {L : Ls} {F : List Addr}, EnsR Hs H L F → (∀ a ∈ F, H' a = H a) → EnsR Hs' H' L F
  | [], _, r, _ => r
  | p :: L, F, ⟨F1, F2, e, r1, r2⟩, k => ⟨F1, F2, e, EnR.mono x _ r1 fun a h => k a (by rw [e]; exact List.mem_append_left _ h), EnsR.mono x r2 fun a h => k a (by rw [e]; exact List.mem_append_right _ h)⟩
theorem EnsR.live {Hs H : Hp} : ∀ {L : Ls} {F : List Addr}, EnsR Hs H L F → ∀ a ∈ F, H a ≠ none
  | [], _, r, a, h => by rw [show _ = [] from r] at h; cases h
  | p :: L, F, ⟨F1, F2, e, r1, r2⟩, a, h => by
    rw [e] at h
    rcases List.mem_append.mp h with q | q
    · exact EnR.live _ r1 a q
    · exact EnsR.live r2 a q
theorem EnsR.app {Hs H : Hp} : ∀ {L M : Ls} {F G : List Addr}, EnsR Hs H L F → EnsR Hs H M G → EnsR Hs H (L ++ M) (F ++ G)
  | [], _, F, G, r, q => by
    rw [show F = [] from r]
    exact q
  | p :: L, M, F, G, ⟨F1, F2, e, r1, r2⟩, q => ⟨F1, F2 ++ G, by rw [e, List.append_assoc], r1, EnsR.app r2 q⟩
theorem EnsR.split {Hs H : Hp} : ∀ {L M : Ls} {F : List Addr}, EnsR Hs H (L ++ M) F → ∃ F1 F2, F = F1 ++ F2 ∧ EnsR Hs H L F1 ∧ EnsR Hs H M F2
  | [], _, F, r => ⟨[], F, rfl, rfl, r⟩
  | p :: L, M, F, ⟨F1, F2, e, r1, r2⟩ => by
    obtain ⟨G1, G2, e2, q1, q2⟩ := EnsR.split (L := L) r2
    exact ⟨F1 ++ G1, G2, by rw [e, e2, List.append_assoc], ⟨F1, G1, rfl, r1, q1⟩, q2⟩
/-- the separated state: everything that is known, each owned thing with a place of its own -/
def Sep (H : Hp) (L : Ls) : Prop := ∃ (Hs : Hp) (F : List Addr), Ex Hs H ∧ EnsR Hs H L F ∧ F.Nodup ∧ ∀ a ∈ F, Hs a = none
theorem EnsR.perm {Hs H : Hp} {L M : Ls} (p : L.Perm M) : ∀ {F : List Addr}, EnsR Hs H L F → ∃ G, F.Perm G ∧ EnsR Hs H M G := by
  induction p with
  | nil => exact fun {F} r => ⟨F, List.Perm.refl _, r⟩
  | cons x _ ih =>
    rintro F ⟨F1, F2, e, r1, r2⟩
    obtain ⟨G, q, r⟩ := ih r2
    exact ⟨F1 ++ G, by rw [e]; exact q.append_left F1, F1, G, rfl, r1, r⟩
  | swap x y l =>
    rintro F ⟨F1, F2, e, r1, F3, F4, e2, r2, r3⟩
    refine ⟨F3 ++ (F1 ++ F4), ?_, F3, F1 ++ F4, rfl, r2, F1, F4, rfl, r1, r3⟩
    rw [e, e2, ← List.append_assoc, ← List.append_assoc]
    exact (List.perm_append_comm).append_right F4
  | trans _ _ ih1 ih2 =>
    intro F r
    obtain ⟨G, q, r1⟩ := ih1 r
    obtain ⟨G', q', r2⟩ := ih2 r1
    exact ⟨G', q.trans q', r2⟩
theorem Sep.perm {H : Hp} {L M : Ls} (s : Sep H L) (p : L.Perm M) : Sep H M := by
  obtain ⟨Hs, F, x, r, nd, fr⟩ := s
  obtain ⟨G, q, r'⟩ := r.perm p
  exact ⟨Hs, G, x, r', q.nodup_iff.mp nd, fun a h => fr a (q.mem_iff.mpr h)⟩
theorem Sep.tail {H : Hp} {p : Option V × En} {L : Ls} (s : Sep H (p :: L)) : Sep H L := by
  obtain ⟨Hs, F, x, ⟨F1, F2, e, r1, r2⟩, nd, fr⟩ := s
  subst e
  exact ⟨Hs, F2, x, r2, (List.nodup_append.mp nd).2.1, fun a h => fr a (List.mem_append_right _ h)⟩
theorem Sep.right {H : Hp} : ∀ {M L : Ls}, Sep H (M ++ L) → Sep H L
  | [], _, s => s
  | _ :: M, _, s => Sep.right (M := M) s.tail
theorem Sep.left {H : Hp} {M L : Ls} (s : Sep H (M ++ L)) : Sep H M := (s.perm List.perm_append_comm).right
theorem Sep.no {H : Hp} {o : Option V} {L : Ls} (s : Sep H L) : Sep H ((o, .no) :: L) := by
  obtain ⟨Hs, F, x, r, nd, fr⟩ := s
  exact ⟨Hs, F, x, ⟨[], F, rfl, rfl, r⟩, nd, fr⟩
/-- a scalar's data stands by itself -/
theorem Sep.shc {H : Hp} {v : V} {d : PyData} {L : Ls} (s : Sep H L) (h : ∀ Hs, Dt Hs v d) : Sep H ((some v, .sh d) :: L) := by
  obtain ⟨Hs, F, x, r, nd, fr⟩ := s
  exact ⟨Hs, F, x, ⟨[], F, rfl, ⟨rfl, v, rfl, h Hs⟩, r⟩, nd, fr⟩
/-- shared data may be copied -/
theorem Sep.dup {H : Hp} {o : Option V} {d : PyData} {L : Ls} (s : Sep H ((o, .sh d) :: L)) : Sep H ((o, .sh d) :: (o, .sh d) :: L) := by
  obtain ⟨Hs, F, x, ⟨F1, F2, e, ⟨e1, v, ev, h⟩, r2⟩, nd, fr⟩ := s
  subst e1
  exact ⟨Hs, F, x, ⟨[], F, rfl, ⟨rfl, v, ev, h⟩, [], F, rfl, ⟨rfl, v, ev, h⟩, e ▸ r2⟩, nd, fr⟩
theorem Sep.val {H : Hp} {o : Option V} {d : PyData} {L : Ls} (s : Sep H ((o, .sh d) :: L)) : ∃ v, o = some v ∧ Dt H v d := by
  obtain ⟨Hs, F, x, ⟨F1, F2, e, ⟨e1, v, ev, h⟩, r2⟩, nd, fr⟩ := s
  exact ⟨v, ev, h.mono x⟩
theorem perm_at {α : Type} : ∀ {L : List α} {i : Nat} {x : α}, L[i]? = some x → L.Perm (x :: L.eraseIdx i)
  | [], _, _, h => by simp at h
  | a :: L, 0, x, h => by
    simp at h
    subst h
    exact List.Perm.refl _
  | a :: L, i + 1, x, h => by
    have q := perm_at (L := L) (i := i) (x := x) (by simpa using h)
    exact (q.cons a).trans (List.Perm.swap x a _)
theorem perm_set {α : Type} : ∀ {L : List α} {i : Nat} (y : α), i < L.length → (L.set i y).Perm (y :: L.eraseIdx i)
  | [], _, _, h => by simp at h
  | a :: L, 0, y, _ => List.Perm.refl _
  | a :: L, i + 1, y, h => by
    have q := perm_set (L := L) (i := i) y (by simpa using h)
    exact (q.cons a).trans (List.Perm.swap y a _)
/-- taken out of the i-th place -/
theorem Sep.move {H : Hp} {o : Option V} {e e' : En} {L : Ls} {i : Nat} (s : Sep H L) (h : L[i]? = some (o, e)) (he : e' = .no ∨ ∃ v, e' = .al v ∧ o = some v) : Sep H ((o, e) :: L.set i (o, e')) := by
  have hi : i < L.length := (List.getElem?_eq_some_iff.mp h).1
  have s1 := s.perm (perm_at h)
  have s2 : Sep H ((o, e') :: (o, e) :: L.eraseIdx i) := by
    rcases he with q | ⟨v, q, q2⟩
    · subst q
      exact s1.no
    · subst q q2
      obtain ⟨Hs, F, x, r, nd, fr⟩ := s1
      exact ⟨Hs, F, x, ⟨[], F, rfl, ⟨rfl, rfl⟩, r⟩, nd, fr⟩
  exact s2.perm ((List.Perm.swap _ _ _).trans ((perm_set (o, e') hi).symm.cons _))
/-- shared data read at the i-th place -/
theorem Sep.copy {H : Hp} {o : Option V} {d : PyData} {L : Ls} {i : Nat} (s : Sep H L) (h : L[i]? = some (o, .sh d)) : Sep H ((o, .sh d) :: L) :=
  (s.perm (perm_at h)).dup.perm ((perm_at h).symm.cons _)
/-- put to the i-th place -/
theorem Sep.put {H : Hp} {x : Option V × En} {L : Ls} {i : Nat} (s : Sep H (x :: L)) (h : i < L.length) : Sep H (L.set i x) := by
  have hx : L[i]? = some L[i] := List.getElem?_eq_getElem h
  exact ((s.perm ((perm_at hx).cons x)).perm (List.Perm.swap _ _ _)).tail.perm (perm_set x h).symm
theorem Sep.swap {H : Hp} {x y : Option V × En} {L : Ls} (s : Sep H (x :: y :: L)) : Sep H (y :: x :: L) := s.perm (List.Perm.swap _ _ _)
/-! ### new objects -/
theorem EnsR.ne {Hs H : Hp} {L : Ls} {F : List Addr} {p : Addr} (r : EnsR Hs H L F) (n : H p = none) : ∀ a ∈ F, a ≠ p := fun a h z => by
  subst z
  exact r.live a h n
theorem Sep.fresh {H : Hp} {L : Ls} {p : Addr} {o : HO} (s : Sep H L) (n : H p = none) : Sep (upd H p o) L := by
  obtain ⟨Hs, F, x, r, nd, fr⟩ := s
  exact ⟨Hs, F, x.updOut (x.back n), r.mono Ex.rfl fun a h => upd_ne (r.ne n a h), nd, fr⟩
/-- all entries are shared data -/
theorem EnsR.shs {Hs H : Hp} : ∀ {vs : List V} {ds : List PyData} {M : Ls} {F : List Addr}, vs.length = ds.length → EnsR Hs H ((vs.map some).zip (ds.map En.sh) ++ M) F → DtA Hs vs ds ∧ EnsR Hs H M F
  | [], [], M, F, _, r => ⟨.nil, r⟩
  | v :: vs, d :: ds, M, F, hl, ⟨F1, F2, e, ⟨e1, w, ew, h⟩, r2⟩ => by
    cases ew
    subst e1
    obtain ⟨h1, h2⟩ := EnsR.shs (vs := vs) (ds := ds) (by simpa using hl) r2
    exact ⟨.cons h h1, by rw [e]; exact h2⟩
  | [], _ :: _, _, _, hl, _ => by simp at hl
  | _ :: _, [], _, _, hl, _ => by simp at hl
theorem Sep.newTup {H : Hp} {p : Addr} {vs : List V} {ds : List PyData} {M : Ls} (hl : vs.length = ds.length) (s : Sep H ((vs.map some).zip (ds.map En.sh) ++ M)) (n : H p = none) : Sep (upd H p (.tup vs)) ((some (.ref p), .sh (.tuple ds)) :: M) := by
  obtain ⟨Hs, F, x, r, nd, fr⟩ := s
  obtain ⟨h1, h2⟩ := EnsR.shs hl r
  have np := x.back n
  refine ⟨upd Hs p (.tup vs), F, x.upd2, ⟨[], F, rfl, ⟨rfl, _, rfl, .tup upd_same (h1.mono (Ex.new np))⟩, h2.mono (Ex.new np) fun a h => upd_ne (h2.ne n a h)⟩, nd, fun a h => ?_⟩
  rw [upd_ne (h2.ne n a h)]
  exact fr a h
theorem Sep.newLst {H : Hp} {p : Addr} {vs : List V} {ds : List PyData} {M : Ls} (hl : vs.length = ds.length) (s : Sep H ((vs.map some).zip (ds.map En.sh) ++ M)) (n : H p = none) : Sep (upd H p (.lst vs)) ((some (.ref p), .sh (.list ds)) :: M) := by
  obtain ⟨Hs, F, x, r, nd, fr⟩ := s
  obtain ⟨h1, h2⟩ := EnsR.shs hl r
  have np := x.back n
  refine ⟨upd Hs p (.lst vs), F, x.upd2, ⟨[], F, rfl, ⟨rfl, _, rfl, .lst upd_same (h1.mono (Ex.new np))⟩, h2.mono (Ex.new np) fun a h => upd_ne (h2.ne n a h)⟩, nd, fun a h => ?_⟩
  rw [upd_ne (h2.ne n a h)]
  exact fr a h
/-! ### an owned list -/
def vz (vs : List V) (es : List En) : Ls := (vs.map some).zip es
theorem ensV_iff {Hs H : Hp} : ∀ {xs : List V} {es : List En} {F : List Addr}, EnsV Hs H xs es F ↔ xs.length = es.length ∧ EnsR Hs H (vz xs es) F
  | xs, [], F => by
    rw [EnsV]
    constructor
    · rintro ⟨rfl, e⟩
      exact ⟨rfl, e⟩
    · rintro ⟨h, e⟩
      have z : xs = [] := List.length_eq_zero_iff.mp h
      subst z
      exact ⟨rfl, e⟩
  | xs, e :: es, F => by
    rw [EnsV]
    constructor
    · rintro ⟨x, r, F1, F2, rfl, rfl, h, t⟩
      obtain ⟨hl, t2⟩ := ensV_iff.mp t
      exact ⟨by rw [List.length_cons, List.length_cons, hl], F1, F2, rfl, h, t2⟩
    · rintro ⟨hl, t⟩
      match xs, hl, t with
      | x :: r, hl, ⟨F1, F2, e, h, t⟩ => exact ⟨x, r, F1, F2, rfl, e, h, ensV_iff.mpr ⟨by simpa using hl, t⟩⟩
theorem enR_lst {Hs H : Hp} {o : Option V} {es : List En} {F : List Addr} : EnR Hs H o (.lst es) F ↔ ∃ p xs G, o = some (.ref p) ∧ H p = some (.lst xs) ∧ xs.length = es.length ∧ EnsR Hs H (vz xs es) G ∧ F = p :: G := by
  rw [EnR]
  constructor
  · rintro ⟨p, xs, G, h1, h2, h3, h4⟩
    obtain ⟨h5, h6⟩ := ensV_iff.mp h3
    exact ⟨p, xs, G, h1, h2, h5, h6, h4⟩
  · rintro ⟨p, xs, G, h1, h2, h5, h6, h4⟩
    exact ⟨p, xs, G, h1, h2, ensV_iff.mpr ⟨h5, h6⟩, h4⟩
theorem Sep.newLs {H : Hp} {p : Addr} {vs : List V} {es : List En} {M : Ls} (hl : vs.length = es.length) (s : Sep H (vz vs es ++ M)) (n : H p = none) : Sep (upd H p (.lst vs)) ((some (.ref p), .lst es) :: M) := by
  obtain ⟨Hs, F, x, r, nd, fr⟩ := s
  obtain ⟨F1, F2, e, r1, r2⟩ := r.split
  subst e
  have np := x.back n
  have n1 : ∀ a ∈ F1 ++ F2, a ≠ p := r.ne n
  refine ⟨Hs, (p :: F1) ++ F2, x.updOut np, ⟨p :: F1, F2, rfl, enR_lst.mpr ⟨p, vs, F1, rfl, upd_same, hl, r1.mono Ex.rfl fun a h => upd_ne (n1 a (List.mem_append_left _ h)), rfl⟩, r2.mono Ex.rfl fun a h => upd_ne (n1 a (List.mem_append_right _ h))⟩, ?_, fun a h => ?_⟩
  · rw [List.cons_append]
    exact List.nodup_cons.mpr ⟨fun h => n1 p h rfl, nd⟩
  · rw [List.cons_append] at h
    rcases List.mem_cons.mp h with z | z
    · rw [z]
      exact np
    · exact fr a z
/-- an owned list is opened: its items beside it, the list itself at p -/
theorem Sep.lsGet {H : Hp} {o : Option V} {es : List En} {M : Ls} (s : Sep H ((o, .lst es) :: M)) : ∃ p xs, o = some (.ref p) ∧ H p = some (.lst xs) ∧ xs.length = es.length := by
  obtain ⟨Hs, F, x, ⟨F1, F2, e, q, r2⟩, nd, fr⟩ := s
  obtain ⟨p, xs, G, ev, h, hl, r, e3⟩ := enR_lst.mp q
  exact ⟨p, xs, ev, h, hl⟩
/-- an owned list is rewritten, from its items and more -/
theorem Sep.lsSet {H : Hp} {p : Addr} {xs ys : List V} {es fs : List En} {N M : Ls} (s : Sep H ((some (.ref p), .lst es) :: (N ++ M))) (h : H p = some (.lst xs)) (hl : ys.length = fs.length)
    (k : ∀ (Hs : Hp) (F : List Addr), EnsR Hs H (vz xs es ++ N) F → ∃ F', (∀ a ∈ F', a ∈ F) ∧ (F.Nodup → F'.Nodup) ∧ EnsR Hs H (vz ys fs) F') : Sep (upd H p (.lst ys)) ((some (.ref p), .lst fs) :: M) := by
  obtain ⟨Hs, F, x, ⟨F1, F2, e, q, r2⟩, nd, fr⟩ := s
  obtain ⟨p', xs', G, ev, h', hl', r, e3⟩ := enR_lst.mp q
  cases ev
  rw [h] at h'
  cases h'
  subst e3 e
  obtain ⟨F3, F4, e4, r3, r4⟩ := r2.split
  subst e4
  obtain ⟨nd1, nd2⟩ := List.nodup_cons.mp (show (p :: (G ++ (F3 ++ F4))).Nodup from nd)
  obtain ⟨F', sb, nd', r'⟩ := k Hs (G ++ F3) (r.app r3)
  have np : Hs p = none := fr p (by simp)
  have nd3 : ((G ++ F3) ++ F4).Nodup := by
    rw [List.append_assoc]
    exact nd2
  obtain ⟨na, nb, nc⟩ := List.nodup_append.mp nd3
  have sb2 : ∀ a ∈ F' ++ F4, a ∈ G ++ (F3 ++ F4) := fun a ha => by
    rw [← List.append_assoc]
    rcases List.mem_append.mp ha with q | q
    · exact List.mem_append_left _ (sb a q)
    · exact List.mem_append_right _ q
  have n1 : ∀ a ∈ F' ++ F4, a ≠ p := fun a ha z => by
    subst z
    exact nd1 (sb2 a ha)
  refine ⟨Hs, (p :: F') ++ F4, x.updOut np, ⟨p :: F', F4, rfl, enR_lst.mpr ⟨p, ys, F', rfl, upd_same, hl, r'.mono Ex.rfl fun a h => upd_ne (n1 a (List.mem_append_left _ h)), rfl⟩, r4.mono Ex.rfl fun a h => upd_ne (n1 a (List.mem_append_right _ h))⟩, ?_, fun a ha => ?_⟩
  · rw [List.cons_append]
    exact List.nodup_cons.mpr ⟨fun h => n1 p h rfl, List.nodup_append.mpr ⟨nd' na, nb, fun a ha b hb => nc a (sb a ha) b hb⟩⟩
  · rw [List.cons_append] at ha
    rcases List.mem_cons.mp ha with z | z
    · rw [z]
      exact np
    · exact fr a (List.mem_cons_of_mem _ (sb2 a z))
/-- an owned list of shared data becomes shared -/
theorem Sep.share {H : Hp} {o : Option V} {ds : List PyData} {M : Ls} (s : Sep H ((o, .lst (ds.map En.sh)) :: M)) : Sep H ((o, .sh (.list ds)) :: M) := by
  obtain ⟨Hs, F, x, ⟨F1, F2, e, q, r2⟩, nd, fr⟩ := s
  obtain ⟨p, xs, G, ev, h, hl, r, e3⟩ := enR_lst.mp q
  have hl' : xs.length = ds.length := by rw [hl, List.length_map]
  obtain ⟨h1, h2⟩ := EnsR.shs (M := []) hl' (by rw [List.append_nil]; exact r)
  have eG : G = [] := h2
  subst eG e3 e
  have np : Hs p = none := fr p (by simp)
  obtain ⟨nd1, nd2⟩ := List.nodup_cons.mp (show (p :: F2).Nodup from nd)
  refine ⟨upd Hs p (.lst xs), F2, fun a o ha => ?_, ⟨[], F2, rfl, ⟨rfl, _, ev, .lst upd_same (h1.mono (Ex.new np))⟩, r2.mono (Ex.new np) fun _ _ => rfl⟩, nd2, fun a ha => ?_⟩
  · by_cases z : a = p
    · subst z
      rw [upd_same] at ha
      rw [h, ← ha]
    · rw [upd_ne z] at ha
      exact x a o ha
  · have n2 : a ≠ p := fun z => by
      subst z
      exact nd1 ha
    rw [upd_ne n2]
    exact fr a (by simp [ha])
/-- what of it is read: its items are shared data -/
theorem Sep.lsVal {H : Hp} {o : Option V} {ds : List PyData} {M : Ls} (s : Sep H ((o, .lst (ds.map En.sh)) :: M)) : ∃ p xs, o = some (.ref p) ∧ H p = some (.lst xs) ∧ DtA H xs ds ∧ Sep H (vz xs (ds.map En.sh) ++ ((o, .lst (ds.map En.sh)) :: M)) := by
  obtain ⟨Hs, F, x, ⟨F1, F2, e, q, r2⟩, nd, fr⟩ := s
  obtain ⟨p, xs, G, ev, h, hl, r, e3⟩ := enR_lst.mp q
  have hl' : xs.length = ds.length := by rw [hl, List.length_map]
  obtain ⟨h1, h2⟩ := EnsR.shs (M := []) hl' (by rw [List.append_nil]; exact r)
  have eG : G = [] := h2
  refine ⟨p, xs, ev, h, h1.mono x, Hs, F, x, ?_, nd, fr⟩
  have q2 : EnsR Hs H (vz xs (ds.map En.sh)) [] := eG ▸ r
  exact q2.app (F := []) ⟨F1, F2, e, q, r2⟩
end PL
set_option maxRecDepth 100000
set_option maxHeartbeats 1000000
namespace PL
open PySem L2
/-! ### the state by slots -/
abbrev Ga := List En
def Sx (T : Ls) (Γ : Ga) (σ : St) (H : Hp) : Prop := σ.length = Γ.length ∧ Sep H (T ++ σ.zip Γ)
abbrev AE := Ga → (En → Ga → Prop) → Prop
abbrev AT := Ga → (Bool → Ga → Prop) → Prop
abbrev AA := Ga → (List En → Ga → Prop) → Prop
def Snd (t : TE) (τ : AE) : Prop := ∀ (T : Ls) (Γ : Ga) (σ : St) (H : Hp) (Q : VK) (P : En → Ga → Prop), Sx T Γ σ H → τ Γ P → (∀ r Γ' v H', P r Γ' → Sx ((some v, r) :: T) Γ' σ H' → Q v H') → t σ H Q
def SndT (t : TT) (τ : AT) : Prop := ∀ (T : Ls) (Γ : Ga) (σ : St) (H : Hp) (Q : Bool → Hp → Prop) (P : Bool → Ga → Prop), Sx T Γ σ H → τ Γ P → (∀ b Γ' H', P b Γ' → Sx T Γ' σ H' → Q b H') → t σ H Q
def SndA (t : TA) (τ : AA) : Prop := ∀ (T : Ls) (Γ : Ga) (σ : St) (H : Hp) (Q : List V → Hp → Prop) (P : List En → Ga → Prop), Sx T Γ σ H → τ Γ P → (∀ rs Γ' vs H', P rs Γ' → vs.length = rs.length → Sx (vz vs rs ++ T) Γ' σ H' → Q vs H') → t σ H Q
structure AX (X : Cx) (e : Expr) (t : TE) (τ : AE) : Prop where
  pe : PE X e t
  snd : Snd t τ
structure AXT (X : Cx) (e : Expr) (t : TT) (τ : AT) : Prop where
  pe : PT X e t
  snd : SndT t τ
structure AXW (X : Cx) (e : Expr) (t : TT) (τ : AT) : Prop where
  pe : PW X e t
  snd : SndT t τ
structure AXA (X : Cx) (es : List Expr) (t : TA) (τ : AA) : Prop where
  pe : PA X es t
  snd : SndA t τ
theorem zip_at {σ : St} {Γ : Ga} (hl : σ.length = Γ.length) {i : Nat} {e : En} (h : Γ[i]? = some e) : ∃ o, σ[i]? = some o ∧ (σ.zip Γ)[i]? = some (o, e) := by
  have hi : i < σ.length := hl ▸ (List.getElem?_eq_some_iff.mp h).1
  refine ⟨σ[i], List.getElem?_eq_getElem hi, ?_⟩
  rw [List.getElem?_zip_eq_some]
  exact ⟨List.getElem?_eq_getElem hi, h⟩
theorem app_at {α : Type} (T L : List α) (i : Nat) : (T ++ L)[T.length + i]? = L[i]? := by
  rw [List.getElem?_append_right (Nat.le_add_right _ _), Nat.add_sub_cancel_left]
theorem app_set {α : Type} (T L : List α) (i : Nat) (x : α) : (T ++ L).set (T.length + i) x = T ++ L.set i x := by
  rw [List.set_append_right _ _ (Nat.le_add_right _ _), Nat.add_sub_cancel_left]
theorem zip_set {α β : Type} : ∀ (l : List α) (m : List β) (i : Nat) (a : α) (b : β), (l.set i a).zip (m.set i b) = (l.zip m).set i (a, b)
  | [], m, i, a, b => by simp
  | x :: l, [], i, a, b => by
    cases i <;> simp
  | x :: l, y :: m, 0, a, b => rfl
  | x :: l, y :: m, i + 1, a, b => by
    simp only [List.set_cons_succ, List.zip_cons_cons]
    rw [zip_set l m i a b]
theorem zip_set2 {α β : Type} {l : List α} {m : List β} {i : Nat} {a : α} {b : β} (h : l[i]? = some a) : l.zip (m.set i b) = (l.zip m).set i (a, b) := by
  rw [← zip_set]
  congr 1
  obtain ⟨hi, e⟩ := List.getElem?_eq_some_iff.mp h
  rw [← e, List.set_getElem_self]
theorem Sx.copy {T : Ls} {Γ : Ga} {σ : St} {H : Hp} {i : Nat} {d : PyData} (s : Sx T Γ σ H) (h : Γ[i]? = some (.sh d)) : ∃ v, σ[i]? = some (some v) ∧ Dt H v d ∧ Sx ((some v, .sh d) :: T) Γ σ H := by
  obtain ⟨hl, s⟩ := s
  obtain ⟨o, h1, h2⟩ := zip_at hl h
  have s1 := s.copy (i := T.length + i) (by rw [app_at]; exact h2)
  obtain ⟨v, e, dt⟩ := s1.val
  subst e
  exact ⟨v, h1, dt, hl, s1⟩
/-- it has a value -/
@[simp] def hv : En → Bool
  | .no => false
  | _ => true
theorem enR_val {Hs H : Hp} {o : Option V} : ∀ {e : En} {F : List Addr}, hv e = true → EnR Hs H o e F → ∃ v, o = some v
  | .no, _, h, _ => by cases h
  | .al v, _, _, r => ⟨v, r.2⟩
  | .sh d, _, _, r => let ⟨v, h, _⟩ := r.2; ⟨v, h⟩
  | .lst es, _, _, r => let ⟨p, _, _, h, _⟩ := enR_lst.mp r; ⟨_, h⟩
  | .dct kvs, _, _, r => by
    rw [EnR] at r
    obtain ⟨p, _, h, _⟩ := r
    exact ⟨_, h⟩
  | .ob C N es, _, _, r => by
    rw [EnR] at r
    obtain ⟨p, _, _, _, h, _⟩ := r
    exact ⟨_, h⟩
  | .ow w, _, _, r => by
    rw [EnR] at r
    exact let ⟨v, h, _⟩ := r; ⟨v, h⟩
theorem Sep.valOf {H : Hp} {o : Option V} {e : En} {L : Ls} (s : Sep H ((o, e) :: L)) (h : hv e = true) : ∃ v, o = some v := by
  obtain ⟨Hs, F, x, ⟨F1, F2, _, r, _⟩, nd, fr⟩ := s
  exact enR_val h r
/-- moved out of its slot, the value remembered or not -/
theorem Sx.move {T : Ls} {Γ : Ga} {σ : St} {H : Hp} {i : Nat} {e : En} (s : Sx T Γ σ H) (h : Γ[i]? = some e) (he : hv e = true) : ∃ v, σ[i]? = some (some v) ∧ Sx ((some v, e) :: T) (Γ.set i .no) σ H ∧ Sx ((some v, e) :: T) (Γ.set i (.al v)) σ H := by
  obtain ⟨hl, s⟩ := s
  obtain ⟨o, h1, h2⟩ := zip_at hl h
  have hi : (T ++ σ.zip Γ)[T.length + i]? = some (o, e) := by
    rw [app_at]
    exact h2
  have s1 := s.move (i := T.length + i) (e' := .no) hi (Or.inl rfl)
  obtain ⟨v, ev⟩ := s1.valOf he
  subst ev
  have s2 := s.move (i := T.length + i) (e' := .al v) hi (Or.inr ⟨v, rfl, rfl⟩)
  rw [app_set] at s1 s2
  refine ⟨v, h1, ⟨by rw [List.length_set]; exact hl, ?_⟩, by rw [List.length_set]; exact hl, ?_⟩
  · rw [zip_set2 h1]
    exact s1
  · rw [zip_set2 h1]
    exact s2
/-- a thing is put back to the slot that holds its value -/
theorem Sx.back {T : Ls} {Γ : Ga} {σ : St} {H : Hp} {i : Nat} {v : V} {e : En} (s : Sx ((some v, e) :: T) Γ σ H) (h : σ[i]? = some (some v)) : Sx T (Γ.set i e) σ H := by
  obtain ⟨hl, s⟩ := s
  have hi : i < σ.length := (List.getElem?_eq_some_iff.mp h).1
  refine ⟨by rw [List.length_set]; exact hl, ?_⟩
  have s1 : Sep H ((some v, e) :: (T ++ σ.zip Γ)) := s
  have s2 := s1.put (i := T.length + i) (by rw [List.length_append, List.length_zip]; omega)
  rw [app_set] at s2
  rw [zip_set2 h]
  exact s2
theorem Sx.asg {T : Ls} {Γ : Ga} {σ : St} {H : Hp} {i : Nat} {v : V} {e : En} (s : Sx ((some v, e) :: T) Γ σ H) (h : i < Γ.length) : Sx T (Γ.set i e) (σ.set i (some v)) H := by
  obtain ⟨hl, s⟩ := s
  refine ⟨by rw [List.length_set, List.length_set]; exact hl, ?_⟩
  have s1 : Sep H ((some v, e) :: (T ++ σ.zip Γ)) := s
  have s2 := s1.put (i := T.length + i) (by rw [List.length_append, List.length_zip]; omega)
  rw [app_set] at s2
  rw [zip_set]
  exact s2
theorem Sx.pop {T : Ls} {Γ : Ga} {σ : St} {H : Hp} {x : Option V × En} (s : Sx (x :: T) Γ σ H) : Sx T Γ σ H := ⟨s.1, Sep.tail s.2⟩
theorem Sx.popA {T M : Ls} {Γ : Ga} {σ : St} {H : Hp} (s : Sx (M ++ T) Γ σ H) : Sx T Γ σ H := ⟨s.1, Sep.right (M := M) (by rw [← List.append_assoc]; exact s.2)⟩
/-! ### names, constants -/
@[simp] def aVar (i : Nat) : AE := fun Γ P => ∃ d, Γ[i]? = some (.sh d) ∧ P (.sh d) Γ
theorem snd_var {i : Nat} : Snd (tVar i) (aVar i) := fun T Γ σ H Q P s ⟨d, h, q⟩ k =>
  let ⟨v, h1, _, s1⟩ := s.copy h
  ⟨v, h1, k _ _ _ _ q s1⟩
@[simp] def aMov (i : Nat) : AE := fun Γ P => ∃ e, Γ[i]? = some e ∧ hv e = true ∧ P e (Γ.set i .no)
theorem snd_mov {i : Nat} : Snd (tVar i) (aMov i) := fun T Γ σ H Q P s ⟨w, h, he, q⟩ k =>
  let ⟨v, h1, s1, _⟩ := s.move h he
  ⟨v, h1, k _ _ _ _ q s1⟩
@[simp] def aC (d : PyData) : AE := fun Γ P => P (.sh d) Γ
theorem snd_c {v : V} {d : PyData} (h : ∀ H, Dt H v d) : Snd (tC v) (aC d) := fun T Γ σ H Q P s q k => k _ _ _ _ q ⟨s.1, Sep.shc s.2 h⟩
section
variable {X : Cx} {pos : Pos}
theorem ax_v (i : Nat) {x : Str} (hN : X.N[i]? = some x := by rfl) (hv : Vis X.env.scope x := by first | exact Or.inl rfl | exact Or.inr (Or.inl rfl) | exact Or.inr (Or.inr rfl)) (hd : (x == ("__debug__" : Str)) = false := by decide)
    (hcd : (x == ("__classdict__" : Str)) = false := by decide) : AX X (.Name x pos) (tVar i) (aVar i) := ⟨pe_var hN hv hd hcd, snd_var⟩
theorem ax_mv (i : Nat) {x : Str} (hN : X.N[i]? = some x := by rfl) (hv : Vis X.env.scope x := by first | exact Or.inl rfl | exact Or.inr (Or.inl rfl) | exact Or.inr (Or.inr rfl)) (hd : (x == ("__debug__" : Str)) = false := by decide)
    (hcd : (x == ("__classdict__" : Str)) = false := by decide) : AX X (.Name x pos) (tVar i) (aMov i) := ⟨pe_var hN hv hd hcd, snd_mov⟩
theorem ax_int {i j} : AX X (.Constant (.int i) j pos) (tC (.int i)) (aC (.int i)) := ⟨pe_int, snd_c fun _ => .int _⟩
theorem ax_bl {b j} : AX X (.Constant (.bool b) j pos) (tC (.bl b)) (aC (.bool b)) := ⟨pe_bl, snd_c fun _ => .bl _⟩
theorem ax_non {j} : AX X (.Constant .none j pos) (tC .non) (aC .none) := ⟨pe_non, snd_c fun _ => .non⟩
theorem ax_str {x j} : AX X (.Constant (.str x) j pos) (tC (.str x)) (aC (.str x)) := ⟨pe_str, snd_c fun _ => .str _⟩
theorem ax_gS {x z : Str} (hg : Gl X x) (hm : ∃ t, X.mg x = some (.str z t)) (hd : (x == ("__debug__" : Str)) = false := by decide) : AX X (.Name x pos) (tC (.str z)) (aC (.str z)) :=
  let ⟨t, h⟩ := hm
  ⟨pe_glob hg h ⟨t, rfl⟩ hd, snd_c fun _ => .str _⟩
theorem ax_gI {x : Str} {i : Int} (hg : Gl X x) (hm : ∃ t, X.mg x = some (.int i t)) (hd : (x == ("__debug__" : Str)) = false := by decide) : AX X (.Name x pos) (tC (.int i)) (aC (.int i)) :=
  let ⟨t, h⟩ := hm
  ⟨pe_glob hg h ⟨t, rfl⟩ hd, snd_c fun _ => .int _⟩
end
/-! ### operators by values -/
abbrev A2 := En → En → (En → Prop) → Prop
def Snd2 (r : R2) (ρ : A2) : Prop := ∀ (L : Ls) (H : Hp) (x y : V) (e1 e2 : En) (Q : VK) (P : En → Prop), Sep H ((some y, e2) :: (some x, e1) :: L) → ρ e1 e2 P → (∀ e v H', P e → Sep H' ((some v, e) :: L) → Q v H') → r x y H Q
@[simp] def aOp (ρ : A2) (τ υ : AE) : AE := fun Γ P => τ Γ fun r1 Γ1 => υ Γ1 fun r2 Γ2 => ρ r1 r2 fun r => P r Γ2
theorem snd_op {r : R2} {ρ : A2} {ta tb : TE} {τ υ : AE} (h : Snd2 r ρ) (ha : Snd ta τ) (hb : Snd tb υ) : Snd (tOp r ta tb) (aOp ρ τ υ) := fun T Γ σ H Q P s p k =>
  ha T Γ σ H _ _ s p fun r1 Γ1 v1 H1 p1 s1 => hb _ Γ1 σ H1 _ _ s1 p1 fun r2 Γ2 v2 H2 p2 s2 =>
    h (T ++ σ.zip Γ2) H2 v1 v2 r1 r2 Q _ s2.2 p2 fun e v H' pe se => k e Γ2 v H' pe ⟨s2.1, se⟩
/-- where both are scalars and the heap stays -/
theorem snd2_pure {r : R2} {ρ : A2} (h : ∀ H x y e1 e2 Q P, ρ e1 e2 P → (∀ d1, e1 = .sh d1 → Dt H x d1) → (∀ d2, e2 = .sh d2 → Dt H y d2) → (∀ d v, P (.sh d) → (∀ Hs, Dt Hs v d) → Q v H) → r x y H Q) : Snd2 r ρ := fun L H x y e1 e2 Q P s p k => by
  refine h H x y e1 e2 Q P p (fun d1 e => ?_) (fun d2 e => ?_) fun d v pd hd => k _ v H pd (Sep.shc s.tail.tail hd)
  · subst e
    obtain ⟨w, e, q⟩ := s.tail.val
    cases e
    exact q
  · subst e
    obtain ⟨w, e, q⟩ := s.val
    cases e
    exact q
@[simp] def rhoI (C : Int → Int → Prop) (g : Int → Int → PyData) : A2 := fun e1 e2 P => ∃ i j, e1 = .sh (.int i) ∧ e2 = .sh (.int j) ∧ C i j ∧ P (.sh (g i j))
@[simp] def rhoI0 (g : Int → Int → PyData) : A2 := fun e1 e2 P => ∃ i j, e1 = .sh (.int i) ∧ e2 = .sh (.int j) ∧ P (.sh (g i j))
theorem Dt.intE {H : Hp} {v : V} {i : Int} (h : Dt H v (.int i)) : v = .int i := by cases h; rfl
theorem Dt.strE {H : Hp} {v : V} {i : Str} (h : Dt H v (.str i)) : v = .str i := by cases h; rfl
theorem Dt.blE {H : Hp} {v : V} {i : Bool} (h : Dt H v (.bool i)) : v = .bl i := by cases h; rfl
theorem snd2_I {C : Int → Int → Prop} {g : Int → Int → Int} : Snd2 (rI C fun i j => .int (g i j)) (rhoI C fun i j => .int (g i j)) := snd2_pure fun H x y e1 e2 Q P ⟨i, j, h1, h2, c, p⟩ d1 d2 k =>
  ⟨i, j, (d1 _ h1).intE, (d2 _ h2).intE, c, k _ _ p fun _ => .int _⟩
theorem snd2_I0 {g : Int → Int → Int} : Snd2 (rI0 fun i j => .int (g i j)) (rhoI0 fun i j => .int (g i j)) := snd2_pure fun H x y e1 e2 Q P ⟨i, j, h1, h2, p⟩ d1 d2 k =>
  ⟨i, j, (d1 _ h1).intE, (d2 _ h2).intE, k _ _ p fun _ => .int _⟩
theorem snd2_B0 {g : Int → Int → Bool} : Snd2 (rI0 fun i j => .bl (g i j)) (rhoI0 fun i j => .bool (g i j)) := snd2_pure fun H x y e1 e2 Q P ⟨i, j, h1, h2, p⟩ d1 d2 k =>
  ⟨i, j, (d1 _ h1).intE, (d2 _ h2).intE, k _ _ p fun _ => .bl _⟩
/-- == and != of data -/
@[simp] def rhoEq (neg : Bool) : A2 := fun e1 e2 P => ∃ d1 d2, e1 = .sh d1 ∧ e2 = .sh d2 ∧ SeqAt.shaped d1 = true ∧ SeqAt.shaped d2 = true ∧ P (.sh (.bool (if neg then !PyData.eqv d1 d2 else PyData.eqv d1 d2)))
theorem snd2_eq {K : PySem.W.Frag} : Snd2 (rEqD K) (rhoEq false) := snd2_pure fun H x y e1 e2 Q P ⟨a, b, h1, h2, s1, s2, p⟩ d1 d2 k =>
  ⟨a, b, (d1 _ h1).dp, (d2 _ h2).dp, s1, s2, k _ _ p fun _ => .bl _⟩
theorem snd2_ne {K : PySem.W.Frag} : Snd2 (rNeD K) (rhoEq true) := snd2_pure fun H x y e1 e2 Q P ⟨a, b, h1, h2, s1, s2, p⟩ d1 d2 k =>
  ⟨a, b, (d1 _ h1).dp, (d2 _ h2).dp, s1, s2, k _ _ p fun _ => .bl _⟩
/-- a subscript of shared data -/
@[simp] def rhoIx : A2 := fun e1 e2 P => ∃ ds i d, (e1 = .sh (.list ds) ∨ e1 = .sh (.tuple ds)) ∧ e2 = .sh (.int i) ∧ atI ds i = some d ∧ P (.sh d)
theorem atI_len {ys : List PyData} {i : Int} {y : PyData} (e : atI ys i = some y) : ∃ j : Nat, ys[j]? = some y ∧ ∀ (xs : List V) (x : V), xs.length = ys.length → xs[j]? = some x → atI xs i = some x := by
  unfold atI at e
  cases q : ixN ys.length i with
  | none =>
    rw [q] at e
    cases e
  | some j =>
    rw [q] at e
    refine ⟨j, e, fun xs x h hx => ?_⟩
    unfold atI
    rw [h, q]
    exact hx
/-- an item of shared data is shared data -/
theorem Sep.item {H : Hp} {o : Option V} {ds : List PyData} {d : PyData} {j : Nat} {L : Ls} {D : PyData} (hD : D = .list ds ∨ D = .tuple ds) (s : Sep H ((o, .sh D) :: L)) (h : ds[j]? = some d) :
    ∃ a xs v, o = some (.ref a) ∧ (D = .list ds ∧ H a = some (.lst xs) ∨ D = .tuple ds ∧ H a = some (.tup xs)) ∧ xs.length = ds.length ∧ xs[j]? = some v ∧ Sep H ((some v, .sh d) :: (o, .sh D) :: L) := by
  obtain ⟨Hs, F, x, ⟨F1, F2, e, ⟨e1, v, ev, dt⟩, r2⟩, nd, fr⟩ := s
  subst e1 ev
  rcases hD with hD | hD
  · subst hD
    cases id dt with
    | lst ha hA =>
      obtain ⟨v, h1, h2⟩ := hA.get h
      exact ⟨_, _, v, rfl, Or.inl ⟨rfl, x _ _ ha⟩, hA.length, h1, Hs, F, x, ⟨[], F, rfl, ⟨rfl, v, rfl, h2⟩, [], F, rfl, ⟨rfl, _, rfl, dt⟩, e ▸ r2⟩, nd, fr⟩
  · subst hD
    cases id dt with
    | tup ha hA =>
      obtain ⟨v, h1, h2⟩ := hA.get h
      exact ⟨_, _, v, rfl, Or.inr ⟨rfl, x _ _ ha⟩, hA.length, h1, Hs, F, x, ⟨[], F, rfl, ⟨rfl, v, rfl, h2⟩, [], F, rfl, ⟨rfl, _, rfl, dt⟩, e ▸ r2⟩, nd, fr⟩
theorem snd2_ix {K : PySem.W.Frag} : Snd2 (rIx K) rhoIx := fun L H x y e1 e2 Q P s ⟨ds, i, d, h1, h2, at_, p⟩ k => by
  subst h2
  obtain ⟨w, ew, dy⟩ := s.val
  cases ew
  have ey := dy.intE
  subst ey
  obtain ⟨j, hj, hx⟩ := atI_len at_
  rcases h1 with h1 | h1
  · subst h1
    obtain ⟨a, xs, v, eo, cs, hl, hv, s2⟩ := Sep.item (Or.inl rfl) s.tail hj
    cases eo
    rcases cs with ⟨_, ha⟩ | ⟨z, _⟩
    · exact Or.inl ⟨a, xs, i, v, rfl, rfl, SqL.of ha, hx xs v hl hv, k _ _ _ p s2.swap.tail⟩
    · cases z
  · subst h1
    obtain ⟨a, xs, v, eo, cs, hl, hv, s2⟩ := Sep.item (Or.inr rfl) s.tail hj
    cases eo
    rcases cs with ⟨z, _⟩ | ⟨_, ha⟩
    · cases z
    · exact Or.inr (Or.inl ⟨a, xs, i, v, rfl, rfl, SqT.of ha, hx xs v hl hv, k _ _ _ p s2.swap.tail⟩)
end PL
set_option maxRecDepth 100000
set_option maxHeartbeats 1000000
namespace PL
open PySem L2
section
variable {X : Cx} {a b c : Expr} {ta tb tc : TE} {τ υ φ : AE} {pos : Pos}
/-! ### binary operators -/
theorem ax_add (ha : AX X a ta τ) (hb : AX X b tb υ) : AX X (.BinOp a .Add b pos) (tOp (rI0 fun i j => .int (i + j)) ta tb) (aOp (rhoI0 fun i j => .int (i + j)) τ υ) := ⟨pe_op op_add ha.pe hb.pe, snd_op snd2_I0 ha.snd hb.snd⟩
theorem ax_sub (ha : AX X a ta τ) (hb : AX X b tb υ) : AX X (.BinOp a .Sub b pos) (tOp (rI0 fun i j => .int (i - j)) ta tb) (aOp (rhoI0 fun i j => .int (i - j)) τ υ) := ⟨pe_op op_sub ha.pe hb.pe, snd_op snd2_I0 ha.snd hb.snd⟩
theorem ax_mul (ha : AX X a ta τ) (hb : AX X b tb υ) : AX X (.BinOp a .Mult b pos) (tOp (rI CMul fun i j => .int (i * j)) ta tb) (aOp (rhoI CMul fun i j => .int (i * j)) τ υ) := ⟨pe_op op_mul ha.pe hb.pe, snd_op snd2_I ha.snd hb.snd⟩
theorem ax_mod (ha : AX X a ta τ) (hb : AX X b tb υ) : AX X (.BinOp a .Mod b pos) (tOp (rI (fun _ j => 0 < j) fun i j => .int (i % j)) ta tb) (aOp (rhoI (fun _ j => 0 < j) fun i j => .int (i % j)) τ υ) := ⟨pe_op op_mod ha.pe hb.pe, snd_op snd2_I ha.snd hb.snd⟩
theorem ax_fdiv (ha : AX X a ta τ) (hb : AX X b tb υ) : AX X (.BinOp a .FloorDiv b pos) (tOp (rI CDiv fun i j => .int (i / j)) ta tb) (aOp (rhoI CDiv fun i j => .int (i / j)) τ υ) := ⟨pe_op op_fdiv ha.pe hb.pe, snd_op snd2_I ha.snd hb.snd⟩
theorem ax_pow (ha : AX X a ta τ) (hb : AX X b tb υ) : AX X (.BinOp a .Pow b pos) (tOp (rI CPow fun i j => .int (i ^ j.toNat)) ta tb) (aOp (rhoI CPow fun i j => .int (i ^ j.toNat)) τ υ) := ⟨pe_op op_pow ha.pe hb.pe, snd_op snd2_I ha.snd hb.snd⟩
@[simp] def aUn (g : Int → Int) (τ : AE) : AE := fun Γ P => τ Γ fun r Γ1 => ∃ i, r = .sh (.int i) ∧ P (.sh (.int (g i))) Γ1
theorem ax_neg (ha : AX X a ta τ) : AX X (.UnaryOp .USub a pos) (tUn (rU fun i => .int (-i)) ta) (aUn (fun i => -i) τ) := ⟨pe_un un_neg ha.pe, fun T Γ σ H Q P s p k =>
  ha.snd T Γ σ H _ _ s p fun r Γ1 v H1 ⟨i, e, q⟩ s1 => by
    subst e
    obtain ⟨w, ew, d⟩ := Sep.val s1.2
    cases ew
    have ev := d.intE
    subst ev
    exact ⟨i, rfl, k _ _ _ _ q ⟨s1.1, Sep.shc s1.pop.2 fun _ => .int _⟩⟩⟩
/-! ### lists: + and * -/
@[simp] def rhoCat : A2 := fun e1 e2 P => ∃ ds es, e1 = .sh (.list ds) ∧ e2 = .sh (.list es) ∧ ds.length + es.length ≤ sizeLine ∧ P (.sh (.list (ds ++ es)))
theorem Sep.lst {H : Hp} {o : Option V} {ds : List PyData} {L : Ls} (s : Sep H ((o, .sh (.list ds)) :: L)) : ∃ a xs, o = some (.ref a) ∧ H a = some (.lst xs) ∧ xs.length = ds.length ∧ Sep H (vz xs (ds.map En.sh) ++ ((o, .sh (.list ds)) :: L)) := by
  obtain ⟨Hs, F, x, ⟨F1, F2, e, ⟨e1, v, ev, dt⟩, r2⟩, nd, fr⟩ := s
  subst e1 ev
  cases id dt with
  | lst ha hA =>
    refine ⟨_, _, rfl, x _ _ ha, hA.length, Hs, F, x, ?_, nd, fr⟩
    have q : ∀ {vs : List V} {ds : List PyData}, DtA Hs vs ds → EnsR Hs H (vz vs (ds.map En.sh)) [] := fun {vs ds} h => by
      induction vs generalizing ds with
      | nil => cases h; rfl
      | cons v vs ih =>
        cases h with
        | cons h1 h2 => exact ⟨[], [], rfl, ⟨rfl, v, rfl, h1⟩, ih h2⟩
    exact (q hA).app (F := []) ⟨[], F, rfl, ⟨rfl, _, rfl, dt⟩, e ▸ r2⟩
theorem Sep.tup {H : Hp} {o : Option V} {ds : List PyData} {L : Ls} (s : Sep H ((o, .sh (.tuple ds)) :: L)) : ∃ a xs, o = some (.ref a) ∧ H a = some (.tup xs) ∧ xs.length = ds.length ∧ Sep H (vz xs (ds.map En.sh) ++ ((o, .sh (.tuple ds)) :: L)) := by
  obtain ⟨Hs, F, x, ⟨F1, F2, e, ⟨e1, v, ev, dt⟩, r2⟩, nd, fr⟩ := s
  subst e1 ev
  cases id dt with
  | tup ha hA =>
    refine ⟨_, _, rfl, x _ _ ha, hA.length, Hs, F, x, ?_, nd, fr⟩
    have q : ∀ {vs : List V} {ds : List PyData}, DtA Hs vs ds → EnsR Hs H (vz vs (ds.map En.sh)) [] := fun {vs ds} h => by
      induction vs generalizing ds with
      | nil => cases h; rfl
      | cons v vs ih =>
        cases h with
        | cons h1 h2 => exact ⟨[], [], rfl, ⟨rfl, v, rfl, h1⟩, ih h2⟩
    exact (q hA).app (F := []) ⟨[], F, rfl, ⟨rfl, _, rfl, dt⟩, e ▸ r2⟩
theorem vz_app {xs ys : List V} {es fs : List En} (h : xs.length = es.length) : vz (xs ++ ys) (es ++ fs) = vz xs es ++ vz ys fs := by
  unfold vz
  rw [List.map_append, List.zip_append (by rw [List.length_map]; exact h)]
theorem perm_mid (A B C : Ls) : (A ++ (B ++ C)).Perm (B ++ (A ++ C)) := by
  rw [← List.append_assoc, ← List.append_assoc]
  exact List.perm_append_comm.append_right C
theorem snd2_cat : Snd2 rCat rhoCat := fun L H x y e1 e2 Q P s ⟨ds, es, h1, h2, hz, p⟩ k => by
  subst h1 h2
  obtain ⟨b, ys, eb, hb, lb, s1⟩ := s.lst
  have s2 := (s1.perm (perm_mid _ [_] _)).tail
  obtain ⟨a, xs, ea, ha, la, s3⟩ := (s2.perm (perm_mid _ [_] _)).lst
  cases ea
  cases eb
  refine ⟨a, b, xs, ys, rfl, rfl, ha, hb, by omega, fun q nq => k _ _ _ p ?_⟩
  refine Sep.newLst (by rw [List.length_append, List.length_append]; omega) ?_ nq
  have ev : vz (xs ++ ys) ((ds ++ es).map En.sh) = vz xs (ds.map En.sh) ++ vz ys (es.map En.sh) := by rw [List.map_append, vz_app (by rw [List.length_map]; exact la)]
  show Sep H (vz (xs ++ ys) ((ds ++ es).map En.sh) ++ L)
  rw [ev, List.append_assoc]
  exact (s3.perm (perm_mid _ [_] _)).tail
theorem ax_cat (ha : AX X a ta τ) (hb : AX X b tb υ) : AX X (.BinOp a .Add b pos) (tOp rCat ta tb) (aOp rhoCat τ υ) := ⟨pe_op op_cat ha.pe hb.pe, snd_op snd2_cat ha.snd hb.snd⟩
@[simp] def rhoRep : A2 := fun e1 e2 P => ∃ (d : PyData) (k : Int), e1 = .sh (.list [d]) ∧ e2 = .sh (.int k) ∧ 0 ≤ k ∧ k ≤ 1000 ∧ P (.sh (.list (List.replicate k.toNat d)))
theorem flat_rep {α : Type} (n : Nat) (x : α) : (List.replicate n [x]).flatten = List.replicate n x := by
  induction n with
  | zero => rfl
  | succ n ih => rw [List.replicate_succ, List.flatten_cons, ih, List.replicate_succ]; rfl
theorem Sep.reps {H : Hp} {v : V} {d : PyData} {L : Ls} (s : Sep H ((some v, .sh d) :: L)) : ∀ n : Nat, Sep H (vz (List.replicate n v) ((List.replicate n d).map En.sh) ++ ((some v, .sh d) :: L))
  | 0 => s
  | n + 1 => by
    have q := Sep.reps s n
    exact ((q.perm (perm_mid _ [_] _)).dup.perm ((perm_mid _ [_] _).symm.cons _))
theorem snd2_rep : Snd2 rRep rhoRep := fun L H x y e1 e2 Q P s ⟨d, m, h1, h2, m0, m1, p⟩ k => by
  subst h1 h2
  obtain ⟨w, ew, dy⟩ := s.val
  cases ew
  have ey := dy.intE
  subst ey
  obtain ⟨a, xs, ea, ha, la, s3⟩ := s.tail.lst
  cases ea
  obtain ⟨v, rfl⟩ : ∃ v, xs = [v] := List.length_eq_one_iff.mp la
  have hk : ∀ n : Nat, n ≤ 1000 → 1 * n ≤ sizeLine := fun n h => Nat.le_trans (by omega) (show 1000 ≤ sizeLine by decide)
  refine ⟨a, m, [v], rfl, rfl, ha, by omega, by omega, hk _ (by omega), fun q nq => k _ _ _ p ?_⟩
  rw [flat_rep]
  refine Sep.newLst (by rw [List.length_replicate, List.length_replicate]) ?_ nq
  have s4 : Sep H ((some v, .sh d) :: L) := (s3.swap).tail
  exact ((s4.reps m.toNat).perm (perm_mid _ [_] _)).tail
theorem ax_rep (ha : AX X a ta τ) (hb : AX X b tb υ) : AX X (.BinOp a .Mult b pos) (tOp rRep ta tb) (aOp rhoRep τ υ) := ⟨pe_op op_rep ha.pe hb.pe, snd_op snd2_rep ha.snd hb.snd⟩
/-- tuples: + (the left one not empty) -/
@[simp] def rhoCatT : A2 := fun e1 e2 P => ∃ ds es, e1 = .sh (.tuple ds) ∧ e2 = .sh (.tuple es) ∧ ds ≠ [] ∧ es ≠ [] ∧ ds.length + es.length ≤ sizeLine ∧ P (.sh (.tuple (ds ++ es)))
theorem snd2_catT {K : PySem.W.Frag} : Snd2 (rCatA K) rhoCatT := fun L H x y e1 e2 Q P s ⟨ds, es, h1, h2, n1, n2, hz, p⟩ k => by
  subst h1 h2
  obtain ⟨b, ys, eb, hb, lb, s1⟩ := s.tup
  have s2 := (s1.perm (perm_mid _ [_] _)).tail
  obtain ⟨a, xs, ea, ha, la, s3⟩ := (s2.perm (perm_mid _ [_] _)).tup
  cases ea
  cases eb
  refine ⟨a, b, xs, ys, rfl, rfl, SqT.of ha, SqT.of hb, by omega, fun z => ?_, fun _ z => ?_, fun _ _ q nq => k _ _ _ p ?_⟩
  · subst z
    exact (n1 (List.length_eq_zero_iff.mp la.symm)).elim
  · subst z
    exact (n2 (List.length_eq_zero_iff.mp lb.symm)).elim
  refine Sep.newTup (by rw [List.length_append, List.length_append]; omega) ?_ nq
  have ev : vz (xs ++ ys) ((ds ++ es).map En.sh) = vz xs (ds.map En.sh) ++ vz ys (es.map En.sh) := by rw [List.map_append, vz_app (by rw [List.length_map]; exact la)]
  show Sep H (vz (xs ++ ys) ((ds ++ es).map En.sh) ++ L)
  rw [ev, List.append_assoc]
  exact (s3.perm (perm_mid _ [_] _)).tail
theorem ax_catT (ha : AX X a ta τ) (hb : AX X b tb υ) : AX X (.BinOp a .Add b pos) (tOp (rCatA X.K) ta tb) (aOp rhoCatT τ υ) := ⟨pe_op op_catA ha.pe hb.pe, snd_op snd2_catT ha.snd hb.snd⟩
/-! ### in -/
@[simp] def fl : PyData → Bool
  | .none | .bool _ | .int _ | .str _ => true
  | _ => false
theorem fl_V {H : Hp} {v : V} {d : PyData} (h : Dt H v d) (f : fl d = true) : flatV v = true := by
  cases h <;> first | rfl | cases f
theorem fl_eq {H : Hp} {v w : V} {d e : PyData} (h : Dt H v d) (g : Dt H w e) (f : fl d = true) (f2 : fl e = true) : eqV v w = PyData.eqv d e := by
  cases h <;> cases g <;> first | (cases f; done) | (cases f2; done) | (simp [eqV, PyData.eqv]; done)
theorem fl_all {H : Hp} : ∀ {vs : List V} {ds : List PyData}, DtA H vs ds → ds.all fl = true → vs.all flatV = true
  | _, _, .nil, _ => rfl
  | _, _, .cons h t, f => by
    rw [List.all_cons, Bool.and_eq_true] at f ⊢
    exact ⟨fl_V h f.1, fl_all t f.2⟩
theorem fl_any {H : Hp} {w : V} {e : PyData} (g : Dt H w e) (f2 : fl e = true) : ∀ {vs : List V} {ds : List PyData}, DtA H vs ds → ds.all fl = true → inV w vs = ds.any fun z => PyData.eqv z e
  | _, _, .nil, _ => rfl
  | _, _, .cons h t, f => by
    rw [List.all_cons, Bool.and_eq_true] at f
    have q := fl_any g f2 t f.2
    unfold inV at q ⊢
    rw [List.any_cons, List.any_cons, q, fl_eq h g f.1 f2]
@[simp] def rhoIn (neg : Bool) : A2 := fun e1 e2 P => ∃ d ds, e1 = .sh d ∧ (e2 = .sh (.list ds) ∨ e2 = .sh (.tuple ds)) ∧ fl d = true ∧ ds.all fl = true ∧ P (.sh (.bool (if neg then !ds.any (fun z => PyData.eqv z d) else ds.any fun z => PyData.eqv z d)))
theorem snd2_in {K : PySem.W.Frag} {neg : Bool} : Snd2 (rIn K neg) (rhoIn neg) := snd2_pure fun H x y e1 e2 Q P ⟨d, ds, h1, h2, f1, f2, p⟩ d1 d2 k => by
  have hx := d1 _ h1
  have fin : ∀ {xs : List V}, DtA H xs ds → Q (.bl (if neg = true then !inV x xs else inV x xs)) H := fun {xs} hA => by
    rw [fl_any hx f1 hA f2]
    exact k _ _ p fun _ => .bl _
  rcases h2 with h2 | h2
  · cases d2 _ h2 with
    | lst ha hA => exact ⟨_, _, rfl, Or.inl (SqL.of ha), fl_V hx f1, fl_all hA f2, fin hA⟩
  · cases d2 _ h2 with
    | tup ha hA => exact ⟨_, _, rfl, Or.inr (SqT.of ha), fl_V hx f1, fl_all hA f2, fin hA⟩
theorem ax_in (ha : AX X a ta τ) (hb : AX X b tb υ) (hm : behindInMarks .In b = false := by rfl) : AX X (.Compare a [.In] [b] pos) (tOp (rIn X.K false) ta tb) (aOp (rhoIn false) τ υ) := ⟨pe_cmpR op_in_seq ha.pe hb.pe hm, snd_op snd2_in ha.snd hb.snd⟩
theorem ax_notin (ha : AX X a ta τ) (hb : AX X b tb υ) (hm : behindInMarks .NotIn b = false := by rfl) : AX X (.Compare a [.NotIn] [b] pos) (tOp (rIn X.K true) ta tb) (aOp (rhoIn true) τ υ) := ⟨pe_cmpR op_notIn_seq ha.pe hb.pe hm, snd_op snd2_in ha.snd hb.snd⟩
/-- of a list of anything -/
@[simp] def rhoNotInD : A2 := fun e1 e2 P => ∃ d ds, e1 = .sh d ∧ e2 = .sh (.list ds) ∧ SeqAt.shaped d = true ∧ SeqAt.shaped (.list ds) = true ∧ P (.sh (.bool (!ds.any fun z => PyData.eqv z d)))
theorem snd2_notInD {K : PySem.W.Frag} : Snd2 (rNotInD K) rhoNotInD := snd2_pure fun H x y e1 e2 Q P ⟨d, ds, h1, h2, f1, f2, p⟩ d1 d2 k =>
  ⟨d, ds, (d1 _ h1).dp, (d2 _ h2).dp, f1, f2, k _ _ p fun _ => .bl _⟩
theorem ax_notinD (hu : X.A.units + 65 < cLine) (ha : AX X a ta τ) (hb : AX X b tb υ) (hm : behindInMarks .NotIn b = false := by rfl) : AX X (.Compare a [.NotIn] [b] pos) (tOp (rNotInD X.K) ta tb) (aOp rhoNotInD τ υ) := ⟨pe_cmpR (op_notInD hu) ha.pe hb.pe hm, snd_op snd2_notInD ha.snd hb.snd⟩
/-- a sign in a text -/
@[simp] def rhoInS : A2 := fun e1 e2 P => ∃ c z, e1 = .sh (.str ⟨#[c]⟩) ∧ e2 = .sh (.str z) ∧ P (.sh (.bool (decide (c ∈ z.cps.toList))))
theorem ax_inS (ha : AX X a ta τ) (hb : AX X b tb υ) (hm : behindInMarks .In b = false := by rfl) : AX X (.Compare a [.In] [b] pos) (tOp (fun x y H Q => ∃ (c : Nat) (z : Str), x = .str ⟨#[c]⟩ ∧ y = .str z ∧ Q (.bl (decide (c ∈ z.cps.toList))) H) ta tb) (aOp rhoInS τ υ) := ⟨pe_cmpR op_in_sign ha.pe hb.pe hm, snd_op (snd2_pure fun H x y e1 e2 Q P ⟨c, z, h1, h2, p⟩ d1 d2 k =>
  ⟨c, z, (d1 _ h1).strE, (d2 _ h2).strE, k _ _ p fun _ => .bl _⟩) ha.snd hb.snd⟩
/-! ### comparisons -/
theorem ax_lt (ha : AX X a ta τ) (hb : AX X b tb υ) : AX X (.Compare a [.Lt] [b] pos) (tOp (rI0 fun i j => .bl (decide (i < j))) ta tb) (aOp (rhoI0 fun i j => .bool (decide (i < j))) τ υ) := ⟨pe_cmpR op_lt ha.pe hb.pe (nomark _), snd_op snd2_B0 ha.snd hb.snd⟩
theorem ax_le (ha : AX X a ta τ) (hb : AX X b tb υ) : AX X (.Compare a [.LtE] [b] pos) (tOp (rI0 fun i j => .bl (decide (i ≤ j))) ta tb) (aOp (rhoI0 fun i j => .bool (decide (i ≤ j))) τ υ) := ⟨pe_cmpR op_le ha.pe hb.pe (nomark _), snd_op snd2_B0 ha.snd hb.snd⟩
theorem ax_gt (ha : AX X a ta τ) (hb : AX X b tb υ) : AX X (.Compare a [.Gt] [b] pos) (tOp (rI0 fun i j => .bl (decide (j < i))) ta tb) (aOp (rhoI0 fun i j => .bool (decide (j < i))) τ υ) := ⟨pe_cmpR op_gt ha.pe hb.pe (nomark _), snd_op snd2_B0 ha.snd hb.snd⟩
theorem ax_ge (ha : AX X a ta τ) (hb : AX X b tb υ) : AX X (.Compare a [.GtE] [b] pos) (tOp (rI0 fun i j => .bl (decide (j ≤ i))) ta tb) (aOp (rhoI0 fun i j => .bool (decide (j ≤ i))) τ υ) := ⟨pe_cmpR op_ge ha.pe hb.pe (nomark _), snd_op snd2_B0 ha.snd hb.snd⟩
theorem ax_eq (hu : X.A.units + 64 < cLine) (ha : AX X a ta τ) (hb : AX X b tb υ) : AX X (.Compare a [.Eq] [b] pos) (tOp (rEqD X.K) ta tb) (aOp (rhoEq false) τ υ) := ⟨pe_cmpR (op_eqD hu) ha.pe hb.pe (nomark _), snd_op snd2_eq ha.snd hb.snd⟩
theorem ax_ne (hu : X.A.units + 64 < cLine) (ha : AX X a ta τ) (hb : AX X b tb υ) : AX X (.Compare a [.NotEq] [b] pos) (tOp (rNeD X.K) ta tb) (aOp (rhoEq true) τ υ) := ⟨pe_cmpR (op_neD hu) ha.pe hb.pe (nomark _), snd_op snd2_ne ha.snd hb.snd⟩
/-- two bools -/
@[simp] def rhoB (g : Bool → Bool → Bool) : A2 := fun e1 e2 P => ∃ i j, e1 = .sh (.bool i) ∧ e2 = .sh (.bool j) ∧ P (.sh (.bool (g i j)))
theorem ax_neB (ha : AX X a ta τ) (hb : AX X b tb υ) : AX X (.Compare a [.NotEq] [b] pos) (tOp rNe ta tb) (aOp (rhoB fun i j => i != j) τ υ) := ⟨pe_cmpR op_ne ha.pe hb.pe (nomark _), snd_op (snd2_pure fun H x y e1 e2 Q P ⟨i, j, h1, h2, p⟩ d1 d2 k => by
  have h3 := (d1 _ h1).blE
  have h4 := (d2 _ h2).blE
  subst h3 h4
  refine ⟨rfl, ?_⟩
  have e : (!decide (V.bl i = V.bl j)) = (i != j) := by cases i <;> cases j <;> rfl
  rw [e]
  exact k _ _ p fun _ => .bl _) ha.snd hb.snd⟩
/-- is None, is not None -/
@[simp] def isNone : PyData → Bool
  | .none => true
  | _ => false
theorem isNone_V {H : Hp} {v : V} {d : PyData} (h : Dt H v d) : decide (v = .non) = isNone d := by
  cases h <;> rfl
@[simp] def aIsN (neg : Bool) (τ : AE) : AE := fun Γ P => τ Γ fun r Γ1 => ∃ d, r = .sh d ∧ P (.sh (.bool (if neg then !isNone d else isNone d))) Γ1
/-- a <= b <= c of ints -/
@[simp] def aChain (τ υ φ : AE) : AE := fun Γ P => τ Γ fun r1 Γ1 => υ Γ1 fun r2 Γ2 => ∃ i j, r1 = .sh (.int i) ∧ r2 = .sh (.int j) ∧ if decide (i ≤ j) = true then φ Γ2 fun r3 Γ3 => ∃ k, r3 = .sh (.int k) ∧ P (.sh (.bool (decide (j ≤ k)))) Γ3 else P (.sh (.bool false)) Γ2
abbrev tChainL (ta tb tc : TE) : TE := tChain (rI0 fun i j => .bl (decide (i ≤ j))) (rI0 fun i j => .bl (decide (i ≤ j))) ta tb tc
theorem snd_chain (ha : Snd ta τ) (hb : Snd tb υ) (hc : Snd tc φ) : Snd (tChainL ta tb tc) (aChain τ υ φ) := fun T Γ σ H Q P s p k =>
  ha T Γ σ H _ _ s p fun r1 Γ1 v1 H1 p1 s1 => hb _ Γ1 σ H1 _ _ s1 p1 fun r2 Γ2 v2 H2 ⟨i, j, e1, e2, q⟩ s2 => by
    subst e1 e2
    obtain ⟨w, ew, d2⟩ := Sep.val s2.2
    cases ew
    obtain ⟨w, ew, d1⟩ := Sep.val s2.pop.2
    cases ew
    have e1 := d1.intE
    have e2 := d2.intE
    subst e1 e2
    refine ⟨i, j, rfl, rfl, _, rfl, ?_⟩
    cases hd : decide (i ≤ j) with
    | true =>
      rw [hd, if_pos rfl] at q
      refine iteT (hc _ Γ2 σ H2 _ _ s2 q fun r3 Γ3 v3 H3 ⟨m, e3, q3⟩ s3 => ?_)
      subst e3
      obtain ⟨w, ew, d3⟩ := Sep.val s3.2
      cases ew
      have e3 := d3.intE
      subst e3
      exact ⟨j, m, rfl, rfl, k _ _ _ _ q3 ⟨s3.1, Sep.shc s3.pop.pop.pop.2 fun _ => .bl _⟩⟩
    | false =>
      rw [hd, if_neg Bool.false_ne_true] at q
      exact iteF (k _ _ _ _ q ⟨s2.1, Sep.shc s2.pop.pop.2 fun _ => .bl _⟩)
theorem ax_chain (ha : AX X a ta τ) (hb : AX X b tb υ) (hc : AX X c tc φ) (hm : lastMarks [.LtE, .LtE] [b, c] = false := by with_unfolding_all rfl) : AX X (.Compare a [.LtE, .LtE] [b, c] pos) (tChainL ta tb tc) (aChain τ υ φ) :=
  ⟨pe_chain op_le op_le ha.pe hb.pe hc.pe hm, snd_chain ha.snd hb.snd hc.snd⟩
/-! ### tests -/
@[simp] def aTest (τ : AE) : AT := fun Γ P => τ Γ fun r Γ1 => ∃ b, r = .sh (.bool b) ∧ P b Γ1
theorem snd_test {t : TE} (h : Snd t τ) : SndT (tB t) (aTest τ) := fun T Γ σ H Q P s p k =>
  h T Γ σ H _ _ s p fun r Γ1 v H1 ⟨b, e, q⟩ s1 => by
    subst e
    obtain ⟨w, ew, dt⟩ := Sep.val s1.2
    cases ew
    exact ⟨b, dt.blE, k _ _ _ q s1.pop⟩
theorem at_val (h : AX X a ta τ) (he : ∀ whole, isTrue a X.env whole = (do let v ← whole; standAt a.pos; holding [v] (truthy v)) := by intro _; rfl) : AXT X a (tB ta) (aTest τ) := ⟨pt_val h.pe he, snd_test h.snd⟩
theorem at_cmp {op : CmpOp} {r : R2} {ρ : A2} (ho : OpR X (compareOp op) r) (h2 : Snd2 r ρ) (ha : AX X a ta τ) (hb : AX X b tb υ) (hm : behindInMarks op b = false) : AXT X (.Compare a [op] [b] pos) (tTest (tOp r ta tb)) (aTest (aOp ρ τ υ)) :=
  ⟨pt_cmpR ho ha.pe hb.pe hm, snd_test (snd_op h2 ha.snd hb.snd)⟩
theorem at_lt (ha : AX X a ta τ) (hb : AX X b tb υ) : AXT X (.Compare a [.Lt] [b] pos) (tTest (tOp (rI0 fun i j => .bl (decide (i < j))) ta tb)) (aTest (aOp (rhoI0 fun i j => .bool (decide (i < j))) τ υ)) := at_cmp op_lt snd2_B0 ha hb (nomark _)
theorem at_le (ha : AX X a ta τ) (hb : AX X b tb υ) : AXT X (.Compare a [.LtE] [b] pos) (tTest (tOp (rI0 fun i j => .bl (decide (i ≤ j))) ta tb)) (aTest (aOp (rhoI0 fun i j => .bool (decide (i ≤ j))) τ υ)) := at_cmp op_le snd2_B0 ha hb (nomark _)
theorem at_gt (ha : AX X a ta τ) (hb : AX X b tb υ) : AXT X (.Compare a [.Gt] [b] pos) (tTest (tOp (rI0 fun i j => .bl (decide (j < i))) ta tb)) (aTest (aOp (rhoI0 fun i j => .bool (decide (j < i))) τ υ)) := at_cmp op_gt snd2_B0 ha hb (nomark _)
theorem at_ge (ha : AX X a ta τ) (hb : AX X b tb υ) : AXT X (.Compare a [.GtE] [b] pos) (tTest (tOp (rI0 fun i j => .bl (decide (j ≤ i))) ta tb)) (aTest (aOp (rhoI0 fun i j => .bool (decide (j ≤ i))) τ υ)) := at_cmp op_ge snd2_B0 ha hb (nomark _)
theorem at_eq (hu : X.A.units + 64 < cLine) (ha : AX X a ta τ) (hb : AX X b tb υ) : AXT X (.Compare a [.Eq] [b] pos) (tTest (tOp (rEqD X.K) ta tb)) (aTest (aOp (rhoEq false) τ υ)) := at_cmp (op_eqD hu) snd2_eq ha hb (nomark _)
theorem at_ne (hu : X.A.units + 64 < cLine) (ha : AX X a ta τ) (hb : AX X b tb υ) : AXT X (.Compare a [.NotEq] [b] pos) (tTest (tOp (rNeD X.K) ta tb)) (aTest (aOp (rhoEq true) τ υ)) := at_cmp (op_neD hu) snd2_ne ha hb (nomark _)
theorem at_in (ha : AX X a ta τ) (hb : AX X b tb υ) (hm : behindInMarks .In b = false := by rfl) : AXT X (.Compare a [.In] [b] pos) (tTest (tOp (rIn X.K false) ta tb)) (aTest (aOp (rhoIn false) τ υ)) := at_cmp op_in_seq snd2_in ha hb hm
theorem at_notin (ha : AX X a ta τ) (hb : AX X b tb υ) (hm : behindInMarks .NotIn b = false := by rfl) : AXT X (.Compare a [.NotIn] [b] pos) (tTest (tOp (rIn X.K true) ta tb)) (aTest (aOp (rhoIn true) τ υ)) := at_cmp op_notIn_seq snd2_in ha hb hm
theorem at_notinD (hu : X.A.units + 65 < cLine) (ha : AX X a ta τ) (hb : AX X b tb υ) (hm : behindInMarks .NotIn b = false := by rfl) : AXT X (.Compare a [.NotIn] [b] pos) (tTest (tOp (rNotInD X.K) ta tb)) (aTest (aOp rhoNotInD τ υ)) := at_cmp (op_notInD hu) snd2_notInD ha hb hm
theorem snd_isN (h : Snd ta τ) : Snd (tIsN ta) (aIsN false τ) := fun T Γ σ H Q P s p k =>
  h T Γ σ H _ _ s p fun r Γ1 v H1 ⟨d, e, q⟩ s1 => by
    subst e
    obtain ⟨w, ew, dt⟩ := Sep.val s1.2
    cases ew
    rw [isNone_V dt]
    exact k _ _ _ _ q ⟨s1.1, Sep.shc s1.pop.2 fun _ => .bl _⟩
theorem snd_notN (h : Snd ta τ) : Snd (tNotN ta) (aIsN true τ) := fun T Γ σ H Q P s p k =>
  h T Γ σ H _ _ s p fun r Γ1 v H1 ⟨d, e, q⟩ s1 => by
    subst e
    obtain ⟨w, ew, dt⟩ := Sep.val s1.2
    cases ew
    rw [isNone_V dt]
    exact k _ _ _ _ q ⟨s1.1, Sep.shc s1.pop.2 fun _ => .bl _⟩
theorem ax_isN {j pos'} (ha : AX X a ta τ) : AX X (.Compare a [.Is] [.Constant .none j pos'] pos) (tIsN ta) (aIsN false τ) := ⟨pe_cmp (pc_isN ha.pe) rfl, snd_isN ha.snd⟩
theorem ax_notN {j pos'} (ha : AX X a ta τ) : AX X (.Compare a [.IsNot] [.Constant .none j pos'] pos) (tNotN ta) (aIsN true τ) := ⟨pe_cmp (pc_notN ha.pe) rfl, snd_notN ha.snd⟩
theorem at_isN {j pos'} (ha : AX X a ta τ) : AXT X (.Compare a [.Is] [.Constant .none j pos'] pos) (tB (tIsN ta)) (aTest (aIsN false τ)) := ⟨pt_cmp (pc_isN ha.pe) rfl, snd_test (snd_isN ha.snd)⟩
theorem at_notN {j pos'} (ha : AX X a ta τ) : AXT X (.Compare a [.IsNot] [.Constant .none j pos'] pos) (tB (tNotN ta)) (aTest (aIsN true τ)) := ⟨pt_cmp (pc_notN ha.pe) rfl, snd_test (snd_notN ha.snd)⟩
theorem at_chain (ha : AX X a ta τ) (hb : AX X b tb υ) (hc : AX X c tc φ) (hm : lastMarks [.LtE, .LtE] [b, c] = false := by with_unfolding_all rfl) : AXT X (.Compare a [.LtE, .LtE] [b, c] pos) (tTest (tChainL ta tb tc)) (aTest (aChain τ υ φ)) :=
  ⟨pt_chain op_le op_le ha.pe hb.pe hc.pe hm, snd_test (snd_chain ha.snd hb.snd hc.snd)⟩
end
section
variable {X : Cx} {a b c : Expr} {rest : List Expr} {ta tb : TE} {t u : TT} {τ υ : AT} {α β : AE} {pos : Pos}
@[simp] def aAnd (τ υ : AT) : AT := fun Γ P => τ Γ fun b Γ1 => if b = true then υ Γ1 P else P false Γ1
@[simp] def aOr (τ υ : AT) : AT := fun Γ P => τ Γ fun b Γ1 => if b = true then P true Γ1 else υ Γ1 P
@[simp] def aNot (τ : AT) : AT := fun Γ P => τ Γ fun b Γ1 => P (!b) Γ1
theorem snd_and (h : SndT t τ) (g : SndT u υ) : SndT (tAnd t u) (aAnd τ υ) := fun T Γ σ H Q P s p k => h T Γ σ H _ _ s p fun b Γ1 H1 q s1 => by
  cases b with
  | true => exact g T Γ1 σ H1 _ _ s1 q k
  | false => exact k _ _ _ q s1
theorem snd_or (h : SndT t τ) (g : SndT u υ) : SndT (tOr t u) (aOr τ υ) := fun T Γ σ H Q P s p k => h T Γ σ H _ _ s p fun b Γ1 H1 q s1 => by
  cases b with
  | true => exact k _ _ _ q s1
  | false => exact g T Γ1 σ H1 _ _ s1 q k
theorem aw_and1 (h : AXT X a t τ) : AXW X (.BoolOp .And [a] pos) t τ := ⟨pw_and1 h.pe, h.snd⟩
theorem aw_or1 (h : AXT X a t τ) : AXW X (.BoolOp .Or [a] pos) t τ := ⟨pw_or1 h.pe, h.snd⟩
theorem aw_and (h : AXT X a t τ) (g : AXW X (.BoolOp .And (b :: rest) pos) u υ) : AXW X (.BoolOp .And (a :: b :: rest) pos) (tAnd t u) (aAnd τ υ) := ⟨pw_and h.pe g.pe, snd_and h.snd g.snd⟩
theorem aw_or (h : AXT X a t τ) (g : AXW X (.BoolOp .Or (b :: rest) pos) u υ) : AXW X (.BoolOp .Or (a :: b :: rest) pos) (tOr t u) (aOr τ υ) := ⟨pw_or h.pe g.pe, snd_or h.snd g.snd⟩
theorem at_bool (h : AXW X a t τ) : AXT X a t τ := ⟨h.pe.pt, h.snd⟩
theorem at_not (h : AXT X a t τ) : AXT X (.UnaryOp .Not a pos) (tNot t) (aNot τ) := ⟨pt_not h.pe, fun T Γ σ H Q P s p k => h.snd T Γ σ H _ _ s p fun b Γ1 H1 q s1 => k _ _ _ q s1⟩
/-- .. as values -/
@[simp] def aAndV (τ υ : AE) : AE := fun Γ P => τ Γ fun r Γ1 => ∃ b, r = .sh (.bool b) ∧ if b = true then υ Γ1 P else P (.sh (.bool false)) Γ1
@[simp] def aOrV (τ υ : AE) : AE := fun Γ P => τ Γ fun r Γ1 => ∃ b, r = .sh (.bool b) ∧ if b = true then P (.sh (.bool true)) Γ1 else υ Γ1 P
theorem ax_one {op} (h : AX X a ta α) : AX X (.BoolOp op [a] pos) ta α := ⟨pe_one h.pe, h.snd⟩
theorem ax_and (h : AX X a ta α) (g : AX X (.BoolOp .And (b :: rest) pos) tb β) : AX X (.BoolOp .And (a :: b :: rest) pos) (tAndV ta tb) (aAndV α β) := ⟨pe_and h.pe g.pe, fun T Γ σ H Q P s p k => h.snd T Γ σ H _ _ s p fun r Γ1 v H1 ⟨b, e, q⟩ s1 => by
  subst e
  obtain ⟨w, ew, dt⟩ := Sep.val s1.2
  cases ew
  refine ⟨b, dt.blE, ?_⟩
  cases b with
  | true => exact g.snd T Γ1 σ H1 _ _ s1.pop q k
  | false => exact k _ _ _ _ q ⟨s1.1, Sep.shc s1.pop.2 fun _ => .bl _⟩⟩
theorem ax_or (h : AX X a ta α) (g : AX X (.BoolOp .Or (b :: rest) pos) tb β) : AX X (.BoolOp .Or (a :: b :: rest) pos) (tOrV ta tb) (aOrV α β) := ⟨pe_or h.pe g.pe, fun T Γ σ H Q P s p k => h.snd T Γ σ H _ _ s p fun r Γ1 v H1 ⟨b, e, q⟩ s1 => by
  subst e
  obtain ⟨w, ew, dt⟩ := Sep.val s1.2
  cases ew
  refine ⟨b, dt.blE, ?_⟩
  cases b with
  | true => exact k _ _ _ _ q ⟨s1.1, Sep.shc s1.pop.2 fun _ => .bl _⟩
  | false => exact g.snd T Γ1 σ H1 _ _ s1.pop q k⟩
@[simp] def aNotV (τ : AE) : AE := fun Γ P => τ Γ fun r Γ1 => ∃ b, r = .sh (.bool b) ∧ P (.sh (.bool (!b))) Γ1
theorem ax_not (h : AX X a ta α) : AX X (.UnaryOp .Not a pos) (tNotV ta) (aNotV α) := ⟨pe_not h.pe, fun T Γ σ H Q P s p k => h.snd T Γ σ H _ _ s p fun r Γ1 v H1 ⟨b, e, q⟩ s1 => by
  subst e
  obtain ⟨w, ew, dt⟩ := Sep.val s1.2
  cases ew
  exact ⟨b, dt.blE, k _ _ _ _ q ⟨s1.1, Sep.shc s1.pop.2 fun _ => .bl _⟩⟩⟩
@[simp] def aIf (τ : AT) (α β : AE) : AE := fun Γ P => τ Γ fun b Γ1 => if b = true then α Γ1 P else β Γ1 P
theorem ax_if (hc : AXT X c t τ) (h : AX X a ta α) (g : AX X b tb β) : AX X (.IfExp c a b pos) (tIf t ta tb) (aIf τ α β) := ⟨pe_ifExp hc.pe h.pe g.pe, fun T Γ σ H Q P s p k => hc.snd T Γ σ H _ _ s p fun b Γ1 H1 q s1 => by
  cases b with
  | true => exact h.snd T Γ1 σ H1 _ _ s1 q k
  | false => exact g.snd T Γ1 σ H1 _ _ s1 q k⟩
end
end PL
set_option maxRecDepth 100000
set_option maxHeartbeats 1000000
namespace PL
open PySem L2 StX
/-! ### arguments -/
theorem Sx.perm {T U : Ls} {Γ : Ga} {σ : St} {H : Hp} (s : Sx T Γ σ H) (p : T.Perm U) : Sx U Γ σ H := ⟨s.1, s.2.perm (p.append_right _)⟩
theorem Sx.sep2 {A T : Ls} {Γ : Ga} {σ : St} {H : Hp} (s : Sx (A ++ T) Γ σ H) : Sep H (A ++ (T ++ σ.zip Γ)) := by
  have q := s.2
  rw [List.append_assoc] at q
  exact q
@[simp] def unsh : List En → Option (List PyData)
  | [] => some []
  | .sh d :: r => (unsh r).map (d :: ·)
  | _ :: _ => none
theorem unsh_eq : ∀ {es : List En} {ds : List PyData}, unsh es = some ds → es = ds.map En.sh
  | [], ds, h => by
    cases h
    rfl
  | .sh d :: r, ds, h => by
    have h' : (unsh r).map (d :: ·) = some ds := h
    cases q : unsh r with
    | none => rw [q] at h'; cases h'
    | some m =>
      rw [q] at h'
      cases h'
      rw [List.map_cons, unsh_eq q]
  | .no :: _, _, h => by cases h
  | .al _ :: _, _, h => by cases h
  | .ow _ :: _, _, h => by cases h
theorem unsh_map : ∀ (ds : List PyData), unsh (ds.map En.sh) = some ds
  | [] => rfl
  | d :: r => by
    show (unsh (r.map En.sh)).map (d :: ·) = some (d :: r)
    rw [unsh_map r]
    rfl
theorem unsh_app (ds : List PyData) {es : List En} {fs : List PyData} (h : unsh es = some fs) : unsh (ds.map En.sh ++ es) = some (ds ++ fs) := by
  rw [unsh_eq h, ← List.map_append, unsh_map]
@[simp] def aNil : AA := fun Γ P => P [] Γ
@[simp] def aCons (τ : AE) (α : AA) : AA := fun Γ P => τ Γ fun r Γ1 => α Γ1 fun rs Γ2 => P (r :: rs) Γ2
@[simp] def aStar (τ : AE) (α : AA) : AA := fun Γ P => τ Γ fun r Γ1 => ∃ ds, (r = .sh (.tuple ds) ∨ r = .sh (.list ds)) ∧ α Γ1 fun rs Γ2 => P (ds.map En.sh ++ rs) Γ2
section
variable {X : Cx} {e : Expr} {es : List Expr} {te : TE} {t : TA} {τ : AE} {α : AA} {pos p : Pos}
theorem axa_nil : AXA X [] tNil aNil := ⟨pa_nil, fun T Γ σ H Q P s p k => k _ _ _ _ p rfl s⟩
theorem axa_cons (h : AX X e te τ) (g : AXA X es t α) (hs : starEach (e :: es) X.env = (false, eval e X.env) :: starEach es X.env := by rfl) : AXA X (e :: es) (tCons te t) (aCons τ α) := ⟨pa_cons h.pe g.pe hs, fun T Γ σ H Q P s p k =>
  h.snd T Γ σ H _ _ s p fun r Γ1 v H1 p1 s1 => g.snd _ Γ1 σ H1 _ _ s1 p1 fun rs Γ2 vs H2 p2 hl s2 => k _ _ _ _ p2 (by simp [hl]) (s2.perm (perm_mid _ [_] _))⟩
theorem axa_star {sp_ : Pos} (h : AX X e te τ) (g : AXA X es t α) (hs : starEach (.Starred e p :: es) X.env = (true, eval e X.env) :: starEach es X.env := by rfl) : AXA X (.Starred e p :: es) (tStar X.K te t) (aStar τ α) := ⟨pa_star h.pe g.pe hs, fun T Γ σ H Q P s p k =>
  h.snd T Γ σ H _ _ s p fun r Γ1 v H1 ⟨ds, e, p1⟩ s1 => by
    rcases e with e | e
    · subst e
      obtain ⟨a, xs, ea, ha, la, s2⟩ := Sep.tup s1.2
      cases ea
      refine ⟨a, xs, rfl, Or.inl (SqT.of ha), g.snd (vz xs (ds.map En.sh) ++ T) Γ1 σ H1 _ _ ⟨s1.1, ?_⟩ p1 fun rs Γ2 vs H2 p2 hl s3 => k _ _ _ _ p2 (by simp [hl, la]) ?_⟩
      · rw [List.append_assoc]
        exact (Sep.perm s2 (perm_mid _ [_] _)).tail
      · rw [vz_app (by rw [List.length_map]; exact la), List.append_assoc]
        exact s3.perm (perm_mid _ _ _)
    · subst e
      obtain ⟨a, xs, ea, ha, la, s2⟩ := Sep.lst s1.2
      cases ea
      refine ⟨a, xs, rfl, Or.inr (SqL.of ha), g.snd (vz xs (ds.map En.sh) ++ T) Γ1 σ H1 _ _ ⟨s1.1, ?_⟩ p1 fun rs Γ2 vs H2 p2 hl s3 => k _ _ _ _ p2 (by simp [hl, la]) ?_⟩
      · rw [List.append_assoc]
        exact (Sep.perm s2 (perm_mid _ [_] _)).tail
      · rw [vz_app (by rw [List.length_map]; exact la), List.append_assoc]
        exact s3.perm (perm_mid _ _ _)⟩
/-! ### displays -/
@[simp] def aTup (α : AA) : AE := fun Γ P => α Γ fun rs Γ1 => ∃ ds, unsh rs = some ds ∧ ds.length ≤ sizeLine ∧ P (.sh (.tuple ds)) Γ1
@[simp] def aLst (α : AA) : AE := fun Γ P => α Γ fun rs Γ1 => ∃ ds, unsh rs = some ds ∧ ds.length ≤ sizeLine ∧ P (.sh (.list ds)) Γ1
@[simp] def aLstO (α : AA) : AE := fun Γ P => α Γ fun rs Γ1 => rs.length ≤ sizeLine ∧ P (.lst rs) Γ1
theorem ax_tup {x1} (h : AXA X es t α) : AX X (.Tuple es x1 pos) (tTup t) (aTup α) := ⟨pe_tup h.pe, fun T Γ σ H Q P s p k =>
  h.snd T Γ σ H _ _ s p fun rs Γ1 vs H1 ⟨ds, e, z, p1⟩ hl s1 => by
    have e2 := unsh_eq e
    subst e2
    have hl' : vs.length = ds.length := by rw [hl, List.length_map]
    exact ⟨by rw [hl']; exact z, fun p np => k _ _ _ _ p1 ⟨s1.1, Sep.newTup hl' s1.sep2 np⟩⟩⟩
theorem ax_lst (h : AXA X es t α) : AX X (.List es pos) (tLst t) (aLst α) := ⟨pe_lst h.pe, fun T Γ σ H Q P s p k =>
  h.snd T Γ σ H _ _ s p fun rs Γ1 vs H1 ⟨ds, e, z, p1⟩ hl s1 => by
    have e2 := unsh_eq e
    subst e2
    have hl' : vs.length = ds.length := by rw [hl, List.length_map]
    exact ⟨by rw [hl']; exact z, fun p np => k _ _ _ _ p1 ⟨s1.1, Sep.newLst hl' s1.sep2 np⟩⟩⟩
theorem ax_lstO (h : AXA X es t α) : AX X (.List es pos) (tLst t) (aLstO α) := ⟨pe_lst h.pe, fun T Γ σ H Q P s p k =>
  h.snd T Γ σ H _ _ s p fun rs Γ1 vs H1 ⟨z, p1⟩ hl s1 => ⟨by rw [hl]; exact z, fun p np => k _ _ _ _ p1 ⟨s1.1, Sep.newLs hl s1.sep2 np⟩⟩⟩
/-- an owned list of shared data becomes shared -/
@[simp] def aSh (τ : AE) : AE := fun Γ P => τ Γ fun r Γ1 => ∃ es ds, r = .lst es ∧ unsh es = some ds ∧ P (.sh (.list ds)) Γ1
theorem ax_sh (h : AX X e te τ) : AX X e te (aSh τ) := ⟨h.pe, fun T Γ σ H Q P s p k => h.snd T Γ σ H _ _ s p fun r Γ1 v H1 ⟨es, ds, er, hu, p1⟩ s1 => by
  subst er
  rw [unsh_eq hu] at s1
  exact k _ _ _ _ p1 ⟨s1.1, Sep.share s1.2⟩⟩
/-- code that is never reached -/
theorem ax_never : AX X e (fun _ _ _ => False) (fun _ _ => False) := ⟨⟨fun _ _ _ _ _ _ h => h.elim⟩, fun _ _ _ _ _ _ _ p _ => p.elim⟩
/-! ### subscripts -/
@[simp] def aIx (τ υ : AE) : AE := aOp rhoIx τ υ
theorem ax_ix {b : Expr} {tb : TE} {υ : AE} (ha : AX X e te τ) (hb : AX X b tb υ) (hs : PlainIx b := by intro _ _; rfl) : AX X (.Subscript e b pos) (tOp (rIx X.K) te tb) (aIx τ υ) := ⟨pe_ix ix_seq ha.pe hb.pe hs, snd_op snd2_ix ha.snd hb.snd⟩
/-- an item of an owned list of shared data, in the i-th slot -/
@[simp] def aIxO (i : Nat) (υ : AE) : AE := fun Γ P => (∃ es, Γ[i]? = some (.lst es)) ∧ υ Γ fun r Γ1 => ∃ es ds k d, Γ1[i]? = some (.lst es) ∧ unsh es = some ds ∧ r = .sh (.int k) ∧ atI ds k = some d ∧ P (.sh d) Γ1
theorem Sx.lsAt {T : Ls} {Γ : Ga} {σ : St} {H : Hp} {i : Nat} {ds : List PyData} (s : Sx T Γ σ H) (h : Γ[i]? = some (.lst (ds.map En.sh))) : ∃ p xs, σ[i]? = some (some (.ref p)) ∧ H p = some (.lst xs) ∧ xs.length = ds.length ∧ Sx (vz xs (ds.map En.sh) ++ T) Γ σ H := by
  obtain ⟨hl, s⟩ := s
  obtain ⟨o, h1, h2⟩ := zip_at hl h
  have s1 := s.perm (perm_at (i := T.length + i) (by rw [app_at]; exact h2))
  obtain ⟨p, xs, ev, hp, hA, s2⟩ := s1.lsVal
  subst ev
  exact ⟨p, xs, h1, hp, hA.length, hl, by rw [List.append_assoc]; exact s2.perm ((perm_at (i := T.length + i) (by rw [app_at]; exact h2)).symm.append_left _)⟩
theorem zipGet {H : Hp} {xs : List V} {ds : List PyData} {j : Nat} {d : PyData} {M : Ls} (hl : xs.length = ds.length) (h : ds[j]? = some d) (s : Sep H (vz xs (ds.map En.sh) ++ M)) : ∃ v, xs[j]? = some v ∧ Sep H ((some v, .sh d) :: M) := by
  have hj : j < xs.length := by rw [hl]; exact (List.getElem?_eq_some_iff.mp h).1
  refine ⟨xs[j], List.getElem?_eq_getElem hj, ?_⟩
  have e : (vz xs (ds.map En.sh) ++ M)[j]? = some (some xs[j], .sh d) := by
    have h1 : j < (vz xs (ds.map En.sh)).length := by
      unfold vz
      rw [List.length_zip, List.length_map, List.length_map]
      omega
    rw [List.getElem?_append_left h1]
    unfold vz
    rw [List.getElem?_zip_eq_some]
    exact ⟨by rw [List.getElem?_map, List.getElem?_eq_getElem hj]; rfl, by rw [List.getElem?_map, h]; rfl⟩
  exact (Sep.perm (s.copy e) (perm_mid _ _ _ : (([(some xs[j], En.sh d)] : Ls) ++ (vz xs (ds.map En.sh) ++ M)).Perm _)).right
theorem ax_ixO (i : Nat) {x : Str} {b : Expr} {tb : TE} {υ : AE} {npos : Pos} (hb : AX X b tb υ) (hN : X.N[i]? = some x := by rfl) (hv : Vis X.env.scope x := by first | exact Or.inl rfl | exact Or.inr (Or.inl rfl) | exact Or.inr (Or.inr rfl)) (hd : (x == ("__debug__" : Str)) = false := by decide)
    (hcd : (x == ("__classdict__" : Str)) = false := by decide) (hs : PlainIx b := by intro _ _; rfl) : AX X (.Subscript (.Name x npos) b pos) (tOp (rIx X.K) (tVar i) tb) (aIxO i υ) := ⟨pe_ix ix_seq (pe_var hN hv hd hcd) hb.pe hs, fun T Γ σ H Q P s ⟨⟨w, h0⟩, p⟩ k => by
  obtain ⟨v, hv1, _⟩ := s.move h0 rfl
  refine ⟨v, hv1, hb.snd T Γ σ H _ _ s p fun r Γ1 v2 H1 ⟨es1, ds, m, d, h1, hu1, er, hat, p1⟩ s1 => ?_⟩
  rw [unsh_eq hu1] at h1
  subst er
  obtain ⟨w2, ew, d2⟩ := Sep.val s1.2
  cases ew
  have e2 := d2.intE
  subst e2
  obtain ⟨q, xs, h2, h3, h4, s2⟩ := s1.pop.lsAt h1
  rw [hv1] at h2
  cases h2
  obtain ⟨j, hj, hx⟩ := atI_len hat
  obtain ⟨y, hy, s3⟩ := zipGet h4 hj s2.sep2
  exact Or.inl ⟨q, xs, m, y, rfl, rfl, SqL.of h3, hx xs y h4 hy, k _ _ _ _ p1 ⟨s1.1, s3⟩⟩⟩
/-- e[1:] -/
@[simp] def aTail (τ : AE) : AE := fun Γ P => τ Γ fun r Γ1 => ∃ ds, (r = .sh (.list ds) ∧ P (.sh (.list (ds.drop 1))) Γ1) ∨ (r = .sh (.tuple ds) ∧ ds ≠ [] ∧ P (.sh (.tuple (ds.drop 1))) Γ1)
theorem cut1 (xs : List V) : cutV xs (some 1) none = xs.drop 1 := by
  unfold cutV
  have e : HT.sIx xs.length 0 (some (1 : Int)) = min 1 xs.length := HT.sIx_nat xs.length 0 1
  rw [e, HT.sIx_none]
  by_cases h : 1 ≤ xs.length
  · rw [Nat.min_eq_left h]
    exact List.take_of_length_le (by rw [List.length_drop]; omega)
  · have z : xs = [] := List.length_eq_zero_iff.mp (by omega)
    subst z
    rfl
theorem drop1 (xs : List V) (es : List En) : vz (xs.drop 1) (es.drop 1) = (vz xs es).drop 1 := by
  unfold vz
  rw [List.map_drop, List.zip_eq_zipWith, List.zip_eq_zipWith, List.drop_zipWith]
theorem Sep.dropL {H : Hp} {A M : Ls} (n : Nat) (s : Sep H (A ++ M)) : Sep H (A.drop n ++ M) := by
  have e : A ++ M = A.take n ++ (A.drop n ++ M) := by rw [← List.append_assoc, List.take_append_drop]
  rw [e] at s
  exact s.right
theorem ax_tail {j : Nat} {p1 p2 : Pos} (h : AX X e te τ) : AX X (.Subscript e (.Slice (some (.Constant (.int 1) j p1)) none none p2) pos) (tSl (fun x lo hi H Q => rSlL X.K x lo hi H Q ∨ rSlT X.K x lo hi H Q) te (tPart (tC (.int 1))) tNoPart) (aTail τ) :=
  ⟨pe_slice (sl_list.or sl_tup) h.pe (po_some pe_int) po_none, fun T Γ σ H Q P s p k => h.snd T Γ σ H _ _ s p fun r Γ1 v H1 ⟨ds, p1⟩ s1 => by
    refine ⟨1, rfl, ?_⟩
    rcases p1 with ⟨er, p1⟩ | ⟨er, hne, p1⟩
    · subst er
      obtain ⟨a, xs, ea, ha, la, s2⟩ := Sep.lst s1.2
      cases ea
      refine Or.inl ⟨a, xs, rfl, SqL.of ha, fun q nq => k _ _ _ _ p1 ⟨s1.1, ?_⟩⟩
      rw [cut1]
      refine Sep.newLst (by rw [List.length_drop, List.length_drop, la]) ?_ nq
      have ev : vz (xs.drop 1) ((ds.drop 1).map En.sh) = (vz xs (ds.map En.sh)).drop 1 := by rw [List.map_drop, drop1]
      show Sep H1 (vz (xs.drop 1) ((ds.drop 1).map En.sh) ++ (T ++ σ.zip Γ1))
      rw [ev]
      exact Sep.dropL 1 (Sep.perm s2 (perm_mid _ [_] _)).tail
    · subst er
      obtain ⟨a, xs, ea, ha, la, s2⟩ := Sep.tup s1.2
      cases ea
      have hx : 1 ≤ xs.length := by
        rw [la]
        exact List.length_pos_iff.mpr hne
      refine Or.inr ⟨a, xs, rfl, SqT.of ha, fun z => ?_, fun q nq => k _ _ _ _ p1 ⟨s1.1, ?_⟩⟩
      · have e : HT.sIx xs.length 0 (some (1 : Int)) = min 1 xs.length := HT.sIx_nat xs.length 0 1
        have z1 := z.1
        rw [e] at z1
        omega
      rw [cut1]
      refine Sep.newTup (by rw [List.length_drop, List.length_drop, la]) ?_ nq
      have ev : vz (xs.drop 1) ((ds.drop 1).map En.sh) = (vz xs (ds.map En.sh)).drop 1 := by rw [List.map_drop, drop1]
      show Sep H1 (vz (xs.drop 1) ((ds.drop 1).map En.sh) ++ (T ++ σ.zip Γ1))
      rw [ev]
      exact Sep.dropL 1 (Sep.perm s2 (perm_mid _ [_] _)).tail⟩
end
end PL
set_option maxRecDepth 100000
set_option maxHeartbeats 1000000
namespace PL
open PySem L2 StX
/-! ### built-in functions -/
abbrev AC := List En → (En → Prop) → Prop
def SndC (r : List V → Hp → VK → Prop) (ρ : AC) : Prop := ∀ (L : Ls) (H : Hp) (xs : List V) (es : List En) (Q : VK) (P : En → Prop), xs.length = es.length → Sep H (vz xs es ++ L) → ρ es P → (∀ e v H', P e → Sep H' ((some v, e) :: L) → Q v H') → r xs H Q
@[simp] def aCB (ρ : AC) (α : AA) : AE := fun Γ P => α Γ fun es Γ1 => ρ es fun r => P r Γ1
theorem snd_CB {r : List V → Hp → VK → Prop} {ρ : AC} {t : TA} {α : AA} (h : SndC r ρ) (ha : SndA t α) : Snd (tCB r t) (aCB ρ α) := fun T Γ σ H Q P s p k =>
  ha T Γ σ H _ _ s p fun rs Γ1 vs H1 p1 hl s1 => h _ H1 vs rs Q _ hl s1.sep2 p1 fun e v H' pe se => k _ _ _ _ pe ⟨s1.1, se⟩
section
variable {X : Cx} {x : Str} {p pos : Pos} {e : Expr} {es : List Expr} {t : TA} {id T : String} {r : List V → Hp → VK → Prop} {ρ : AC} {α : AA}
theorem ax_callB (hc : CallR X (.builtin id) r) (h : SndC r ρ) (hg : Gl X x) (hm : X.mg x = none) (hv : bootBuiltins x = some (.builtin id)) (ha : AXA X (e :: es) t α) (hn : x ≠ "__name__" := by decide) (hdb : (x == ("__debug__" : Str)) = false := by decide)
    (he : starEach (e :: es) X.env = (false, eval e X.env) :: starEach es X.env := by rfl) (hpl : (backTo pos (starEach es X.env)).any (·.1) = false := by rfl) : AX X (.Call (.Name x p) (e :: es) [] pos) (tCB r t) (aCB ρ α) := ⟨pe_callB hc hg hm hv ha.pe hn hdb he hpl, snd_CB h ha.snd⟩
theorem ax_callTy (hc : CallR X (.type T) r) (h : SndC r ρ) (hg : Gl X x) (hm : X.mg x = none) (hv : bootBuiltins x = some (.type T)) (ha : AXA X (e :: es) t α) (hn : x ≠ "__name__" := by decide) (hdb : (x == ("__debug__" : Str)) = false := by decide)
    (he : starEach (e :: es) X.env = (false, eval e X.env) :: starEach es X.env := by rfl) (hpl : (backTo pos (starEach es X.env)).any (·.1) = false := by rfl) : AX X (.Call (.Name x p) (e :: es) [] pos) (tCB r t) (aCB ρ α) := ⟨pe_callTy hc hg hm hv ha.pe hn hdb he hpl, snd_CB h ha.snd⟩
end
/-- of shared data, to a scalar -/
@[simp] def scC (ρ : List PyData → (PyData → Prop) → Prop) : AC := fun es P => ∃ ds, unsh es = some ds ∧ ρ ds fun d => P (.sh d)
theorem sepDtA {H : Hp} {L : Ls} : ∀ {xs : List V} {ds : List PyData}, xs.length = ds.length → Sep H (vz xs (ds.map En.sh) ++ L) → DtA H xs ds := fun {xs ds} hl s => by
  obtain ⟨Hs, F, x, r, nd, fr⟩ := s
  exact (EnsR.shs hl r).1.mono x
theorem sndC_sc {r : List V → Hp → VK → Prop} {ρ : List PyData → (PyData → Prop) → Prop} (h : ∀ (H : Hp) (xs : List V) (ds : List PyData) (Q : VK) (P : PyData → Prop), ρ ds P → DtA H xs ds → (∀ d v, P d → (∀ Hs, Dt Hs v d) → Q v H) → r xs H Q) : SndC r (scC ρ) := fun L H xs es Q P hl s ⟨ds, e, p⟩ k => by
  have e2 := unsh_eq e
  subst e2
  exact h H xs ds Q _ p (sepDtA (by rw [hl, List.length_map]) s) fun d v pd hd => k _ v H pd (Sep.shc (Sep.right (M := vz xs (ds.map En.sh)) s) hd)
@[simp] def lenD : PyData → Option Nat
  | .list xs => some xs.length
  | .tuple xs => some xs.length
  | .str z => if z.length ≤ sizeLine then some z.length else none
  | _ => none
@[simp] def rhoLen : List PyData → (PyData → Prop) → Prop := fun ds P => ∃ d n, ds = [d] ∧ lenD d = some n ∧ P (.int n)
theorem sndC_len {K : PySem.W.Frag} : SndC (fun xs H Q => ∃ x n, xs = [x] ∧ LenV K x H n ∧ Q (.int n) H) (scC rhoLen) := sndC_sc fun H xs ds Q P ⟨d, n, e, el, p⟩ hA k => by
  subst e
  cases hA with
  | cons h t =>
    cases t
    have fin := k _ _ p fun _ => .int _
    cases h with
    | str z =>
      have el' : (if z.length ≤ sizeLine then some z.length else none) = some n := el
      split at el'
      · cases el'
        exact ⟨_, _, rfl, ⟨by assumption, rfl⟩, fin⟩
      · cases el'
    | lst ha hA =>
      cases el
      exact ⟨_, _, rfl, Or.inl ⟨_, SqL.of ha, hA.length.symm⟩, fin⟩
    | tup ha hA =>
      cases el
      exact ⟨_, _, rfl, Or.inr ⟨_, SqT.of ha, hA.length.symm⟩, fin⟩
    | _ => cases el
@[simp] def rhoAbs : List PyData → (PyData → Prop) → Prop := fun ds P => ∃ i, ds = [.int i] ∧ P (.int (if i < 0 then -i else i))
theorem sndC_abs : SndC (fun xs H Q => ∃ i, xs = [.int i] ∧ Q (.int (if i < 0 then -i else i)) H) (scC rhoAbs) := sndC_sc fun H xs ds Q P ⟨i, e, p⟩ hA k => by
  subst e
  cases hA with
  | cons h t =>
    cases t
    have q := h.intE
    subst q
    exact ⟨i, rfl, k _ _ p fun _ => .int _⟩
@[simp] def rho2 (g : Int → Int → Int) : List PyData → (PyData → Prop) → Prop := fun ds P => ∃ i j, ds = [.int i, .int j] ∧ P (.int (g i j))
theorem sndC_2 {g : Int → Int → Int} : SndC (fun xs H Q => ∃ i j, xs = [.int i, .int j] ∧ Q (.int (g i j)) H) (scC (rho2 g)) := sndC_sc fun H xs ds Q P ⟨i, j, e, p⟩ hA k => by
  subst e
  cases hA with
  | cons h t =>
    cases t with
    | cons h2 t =>
      cases t
      have q := h.intE
      have q2 := h2.intE
      subst q q2
      exact ⟨i, j, rfl, k _ _ p fun _ => .int _⟩
/-- int(x) of an int or a bool -/
@[simp] def rhoInt1 : List PyData → (PyData → Prop) → Prop := fun ds P => (∃ i, ds = [.int i] ∧ P (.int i)) ∨ ∃ b, ds = [.bool b] ∧ P (.int (if b then 1 else 0))
theorem sndC_int1 : SndC (fun xs H Q => (∃ i, xs = [.int i] ∧ Q (.int i) H) ∨ ∃ k, xs = [.bl k] ∧ Q (.int (if k then 1 else 0)) H) (scC rhoInt1) := sndC_sc fun H xs ds Q P p hA k => by
  rcases p with ⟨i, e, p⟩ | ⟨b, e, p⟩
  · subst e
    cases hA with
    | cons h t =>
      cases t
      have q := h.intE
      subst q
      exact Or.inl ⟨i, rfl, k _ _ p fun _ => .int _⟩
  · subst e
    cases hA with
    | cons h t =>
      cases t
      have q := h.blE
      subst q
      exact Or.inr ⟨b, rfl, k _ _ p fun _ => .int _⟩
theorem DtA.ints {H : Hp} : ∀ {xs : List V} {ns : List Int}, DtA H xs (ns.map PyData.int) → xs = ns.map V.int
  | [], [], _ => rfl
  | _ :: _, [], h => by cases h
  | [], _ :: _, h => by cases h
  | x :: xs, n :: ns, h => by
    cases h with
    | cons h t => rw [h.intE, DtA.ints t]; rfl
theorem DtA.bls {H : Hp} : ∀ {xs : List V} {ns : List Bool}, DtA H xs (ns.map PyData.bool) → xs = ns.map V.bl
  | [], [], _ => rfl
  | _ :: _, [], h => by cases h
  | [], _ :: _, h => by cases h
  | x :: xs, n :: ns, h => by
    cases h with
    | cons h t => rw [h.blE, DtA.bls t]; rfl
theorem DtA.strs {H : Hp} : ∀ {xs : List V} {ns : List Str}, DtA H xs (ns.map PyData.str) → xs = ns.map V.str
  | [], [], _ => rfl
  | _ :: _, [], h => by cases h
  | [], _ :: _, h => by cases h
  | x :: xs, n :: ns, h => by
    cases h with
    | cons h t => rw [h.strE, DtA.strs t]; rfl
@[simp] def rhoMost (le : Int → Int → Prop) : List PyData → (PyData → Prop) → Prop := fun ds P => ∃ ns : List Int, ds = [.list (ns.map .int)] ∧ 0 < ns.length ∧ ∀ m, m ∈ ns → (∀ y, y ∈ ns → le y m) → P (.int m)
theorem sndC_max {K : PySem.W.Frag} : SndC (rMax K) (scC (rhoMost fun y m => y ≤ m)) := sndC_sc fun H xs ds Q P ⟨ns, e, n0, p⟩ hA k => by
  subst e
  cases hA with
  | cons h t =>
    cases t
    cases h with
    | lst ha hA =>
      rw [hA.ints] at ha
      exact ⟨_, ns, rfl, SqL.of ha, n0, fun m h1 h2 => k _ _ (p m h1 h2) fun _ => .int _⟩
theorem sndC_min {K : PySem.W.Frag} : SndC (rMin K) (scC (rhoMost fun y m => m ≤ y)) := sndC_sc fun H xs ds Q P ⟨ns, e, n0, p⟩ hA k => by
  subst e
  cases hA with
  | cons h t =>
    cases t
    cases h with
    | lst ha hA =>
      rw [hA.ints] at ha
      exact ⟨_, ns, rfl, SqL.of ha, n0, fun m h1 h2 => k _ _ (p m h1 h2) fun _ => .int _⟩
@[simp] def rhoBools (g : List Bool → Bool) : List PyData → (PyData → Prop) → Prop := fun ds P => ∃ bs : List Bool, ds = [.list (bs.map .bool)] ∧ P (.bool (g bs))
theorem sndC_all {K : PySem.W.Frag} : SndC (rAll K) (scC (rhoBools fun bs => bs.all id)) := sndC_sc fun H xs ds Q P ⟨bs, e, p⟩ hA k => by
  subst e
  cases hA with
  | cons h t =>
    cases t
    cases h with
    | lst ha hA =>
      rw [hA.bls] at ha
      exact ⟨_, bs, rfl, SqL.of ha, k _ _ p fun _ => .bl _⟩
theorem sndC_any {K : PySem.W.Frag} : SndC (rAny K) (scC (rhoBools fun bs => bs.any id)) := sndC_sc fun H xs ds Q P ⟨bs, e, p⟩ hA k => by
  subst e
  cases hA with
  | cons h t =>
    cases t
    cases h with
    | lst ha hA =>
      rw [hA.bls] at ha
      exact ⟨_, bs, rfl, SqL.of ha, k _ _ p fun _ => .bl _⟩
/-- list(x), tuple(x) of shared data -/
@[simp] def rhoList : AC := fun es P => ∃ D ds, es = [.sh D] ∧ (D = .list ds ∨ D = .tuple ds) ∧ P (.sh (.list ds))
@[simp] def rhoListO : AC := fun es P => ∃ D ds, es = [.sh D] ∧ (D = .list ds ∨ D = .tuple ds) ∧ P (.lst (ds.map En.sh))
@[simp] def rhoTuple : AC := fun es P => ∃ ds, es = [.sh (.list ds)] ∧ P (.sh (.tuple ds))
theorem sep_seq {H : Hp} {L : Ls} {x : V} {D : PyData} {ds : List PyData} (hD : D = .list ds ∨ D = .tuple ds) (s : Sep H ((some x, .sh D) :: L)) : ∃ a xs, x = .ref a ∧ (H a = some (.lst xs) ∧ D = .list ds ∨ H a = some (.tup xs) ∧ D = .tuple ds) ∧ xs.length = ds.length ∧ Sep H (vz xs (ds.map En.sh) ++ L) := by
  rcases hD with e | e
  · subst e
    obtain ⟨a, xs, ea, ha, la, s2⟩ := s.lst
    cases ea
    exact ⟨a, xs, rfl, Or.inl ⟨ha, rfl⟩, la, (s2.perm (perm_mid _ [_] _)).tail⟩
  · subst e
    obtain ⟨a, xs, ea, ha, la, s2⟩ := s.tup
    cases ea
    exact ⟨a, xs, rfl, Or.inr ⟨ha, rfl⟩, la, (s2.perm (perm_mid _ [_] _)).tail⟩
theorem one_of {xs : List V} {es : List En} {e : En} (hl : xs.length = es.length) (h : es = [e]) : ∃ x, xs = [x] := by
  subst h
  exact List.length_eq_one_iff.mp hl
abbrev rListOf (K : PySem.W.Frag) : List V → Hp → VK → Prop := fun xs H Q => ∃ p ys, xs = [.ref p] ∧ (SqL K H p ys ∨ SqT K H p ys) ∧ ∀ l, H l = none → Q (.ref l) (upd H l (.lst ys))
theorem sndC_list {K : PySem.W.Frag} : SndC (rListOf K) rhoList := fun L H xs es Q P hl s ⟨D, ds, e, hD, p⟩ k => by
  obtain ⟨x, ex⟩ := one_of hl e
  subst e ex
  obtain ⟨a, ys, ea, ha, la, s2⟩ := sep_seq hD s
  subst ea
  refine ⟨a, ys, rfl, ?_, fun l hn => k _ _ _ p (Sep.newLst la s2 hn)⟩
  rcases ha with ⟨ha, _⟩ | ⟨ha, _⟩
  · exact Or.inl (SqL.of ha)
  · exact Or.inr (SqT.of ha)
theorem sndC_listO {K : PySem.W.Frag} : SndC (rListOf K) rhoListO := fun L H xs es Q P hl s ⟨D, ds, e, hD, p⟩ k => by
  obtain ⟨x, ex⟩ := one_of hl e
  subst e ex
  obtain ⟨a, ys, ea, ha, la, s2⟩ := sep_seq hD s
  subst ea
  refine ⟨a, ys, rfl, ?_, fun l hn => k _ _ _ p (Sep.newLs (by rw [List.length_map]; exact la) s2 hn)⟩
  rcases ha with ⟨ha, _⟩ | ⟨ha, _⟩
  · exact Or.inl (SqL.of ha)
  · exact Or.inr (SqT.of ha)
abbrev rTupOf (K : PySem.W.Frag) : List V → Hp → VK → Prop := fun xs H Q => ∃ p ys, xs = [.ref p] ∧ ((SqL K H p ys ∧ ∀ l, H l = none → Q (.ref l) (upd H l (.tup ys))) ∨ (SqT K H p ys ∧ Q (.ref p) H))
theorem sndC_tuple {K : PySem.W.Frag} : SndC (rTupOf K) rhoTuple := fun L H xs es Q P hl s ⟨ds, e, p⟩ k => by
  obtain ⟨x, ex⟩ := one_of hl e
  subst e ex
  obtain ⟨a, ys, ea, ha, la, s2⟩ := sep_seq (Or.inl rfl) s
  subst ea
  rcases ha with ⟨ha, _⟩ | ⟨_, z⟩
  · exact ⟨a, ys, rfl, Or.inl ⟨SqL.of ha, fun l hn => k _ _ _ p (Sep.newTup la s2 hn)⟩⟩
  · cases z
/-! ### isinstance(x, T), T a built-in type -/
@[simp] def tyN : PyData → String
  | .none => "NoneType"
  | .bool _ => "bool"
  | .int _ => "int"
  | .str _ => "str"
  | .list _ => "list"
  | .tuple _ => "tuple"
  | .dict _ => "dict"
theorem tyX {K : PySem.W.Frag} {H : Hp} {v : V} {d : PyData} (h : Dt H v d) : TyX K H v (.type (tyN d)) := by
  cases h with
  | non => exact .base .non
  | bl b => exact .base (.bl b)
  | int i => exact .base (.int i)
  | str x => exact .base (.str x)
  | lst ha _ => exact .base (.lst ha)
  | tup ha _ => exact .base (.tup ha)
@[simp] def aIsi (T : String) (τ : AE) : AE := fun Γ P => τ Γ fun r Γ1 => ∃ d b, r = .sh d ∧ kitB (tyN d) T = some b ∧ P (.sh (.bool b)) Γ1
theorem ax_isi {X : Cx} {e : Expr} {te : TE} {τ : AE} {T : String} {xT : Str} {p p2 pos : Pos} (h : AX X e te τ) (hg : Gl X "isinstance") (hm : X.mg "isinstance" = none) (hgT : Gl X xT) (hmT : X.mg xT = none) (hv : bootBuiltins xT = some (.type T)) (hnT : xT ≠ "__name__" := by decide) (hdT : (xT == ("__debug__" : Str)) = false := by decide)
    (he : starEach [e, .Name xT p2] X.env = (false, eval e X.env) :: starEach [.Name xT p2] X.env := by rfl) (hpl : (backTo pos (starEach [.Name xT p2] X.env)).any (·.1) = false := by rfl) (hs2 : starEach [.Name xT p2] X.env = (false, eval (.Name xT p2) X.env) :: starEach [] X.env := by rfl) :
    AX X (.Call (.Name "isinstance" p) [e, .Name xT p2] [] pos) (tCB (rIsi X.K) (tCons te (tCons (tC (.ty T)) tNil))) (aIsi T τ) :=
  ⟨pe_callB call_isi hg hm (by decide +kernel) (pa_cons h.pe (pa_cons (pe_bltn hgT hmT hv rfl hnT hdT) pa_nil hs2) he) (by decide) (by decide) he hpl, fun L Γ σ H Q P s q k => h.snd L Γ σ H _ _ s q fun r Γ1 v H1 ⟨d, b, er, kb, p1⟩ s1 => by
    subst er
    obtain ⟨w, ew, dt⟩ := Sep.val s1.2
    cases ew
    exact ⟨v, .ty T, _, _, b, rfl, .ty T, tyX dt, kit_ty kb, k _ _ _ _ p1 ⟨s1.1, Sep.shc s1.pop.2 fun _ => .bl _⟩⟩⟩
end PL
set_option maxRecDepth 100000
set_option maxHeartbeats 1000000
namespace PL
open PySem L2 StX
/-! ### what is walked -/
def Walk (J : It) (S : Ls) (ds : List PyData) : Prop := ∀ (L : Ls) (H : Hp), Sep H (S ++ L) → (∀ i, i < ds.length → J.go i H) ∧ J.stop ds.length H ∧ ∀ i x H', i < ds.length → J.yld i H x H' → ∃ d, ds[i]? = some d ∧ Sep H' ((some x, .sh d) :: (S ++ L))
abbrev AI := Ga → (List PyData → Ga → Prop) → Prop
def SndI (wi : TI) (ι : AI) : Prop := ∀ (T : Ls) (Γ : Ga) (σ : St) (H : Hp) (R : It → Hp → Prop) (P : List PyData → Ga → Prop), Sx T Γ σ H → ι Γ P → (∀ ds Γ' S J H', P ds Γ' → Sx (S ++ T) Γ' σ H' → Walk J S ds → R J H') → wi σ H R
structure AXI (X : Cx) (tg iter : Expr) (wi : TI) (ι : AI) : Prop where
  pi : PI X tg iter wi
  snd : SndI wi ι
theorem list_only {K : PySem.W.Frag} {H : Hp} {a : Addr} {xs ys : List V} (h : H a = some (.lst xs)) (q : SqL K H a ys) (hk : K.lookup a = none) : ys = xs := by
  rcases q with (q | ⟨o, q⟩) | ⟨o, its, n, q, _⟩
  · rw [h] at q
    cases q
    rfl
  · rw [h] at q
    cases q
  · rw [hk] at q
    cases q
theorem walk_list {K : PySem.W.Frag} {a : Addr} {ds : List PyData} : Walk (Itl K a) [(some (.ref a), .sh (.list ds))] ds := fun L H s => by
  obtain ⟨a', xs, ea, ha, la, s2⟩ := Sep.lst s
  cases ea
  refine ⟨fun i hi => ⟨xs, xs[i]'(by omega), SqL.of ha, List.getElem?_eq_getElem _⟩, ⟨xs, SqL.of ha, by omega⟩, fun i x H' hi y => ?_⟩
  obtain ⟨e, y⟩ := y
  subst e
  have hx := y xs (SqL.of ha)
  obtain ⟨d, hd⟩ : ∃ d, ds[i]? = some d := ⟨_, List.getElem?_eq_getElem hi⟩
  obtain ⟨v, hv, s3⟩ := zipGet la hd s2
  rw [hx] at hv
  cases hv
  exact ⟨d, hd, s3⟩
theorem walk_tup {K : PySem.W.Frag} {a : Addr} {ds : List PyData} : Walk (Itt K a) [(some (.ref a), .sh (.tuple ds))] ds := fun L H s => by
  obtain ⟨a', xs, ea, ha, la, s2⟩ := Sep.tup s
  cases ea
  refine ⟨fun i hi => ⟨xs, xs[i]'(by omega), SqT.of ha, List.getElem?_eq_getElem _⟩, ⟨xs, SqT.of ha, by omega⟩, fun i x H' hi y => ?_⟩
  obtain ⟨e, y⟩ := y
  subst e
  have hx := y xs (SqT.of ha)
  obtain ⟨d, hd⟩ : ∃ d, ds[i]? = some d := ⟨_, List.getElem?_eq_getElem hi⟩
  obtain ⟨v, hv, s3⟩ := zipGet la hd s2
  rw [hx] at hv
  cases hv
  exact ⟨d, hd, s3⟩
def rangeD (lo : Int) (n : Nat) : List PyData := (List.range n).map fun (k : Nat) => .int (lo + k)
theorem rangeD_len {lo : Int} {n : Nat} : (rangeD lo n).length = n := by simp [rangeD]
theorem rangeD_get {lo : Int} {n i : Nat} (h : i < n) : (rangeD lo n)[i]? = some (.int (lo + i)) := by
  unfold rangeD
  rw [List.getElem?_map, List.getElem?_range h]
  rfl
theorem walk_range {lo : Int} {n : Nat} : Walk (Itr lo n) [] (rangeD lo n) := fun L H s => by
  rw [rangeD_len]
  refine ⟨fun i hi => hi, Nat.le_refl _, fun i x H' hi y => ?_⟩
  obtain ⟨e, y⟩ := y
  subst e y
  exact ⟨_, rangeD_get hi, Sep.shc s fun _ => .int _⟩
def strD (z : Str) : List PyData := z.cps.toList.map fun c => .str ⟨#[c]⟩
theorem walk_str {z : Str} : Walk (Its z) [] (strD z) := fun L H s => by
  have hl : (strD z).length = z.cps.size := by simp [strD]
  rw [hl]
  refine ⟨fun i hi => hi, Nat.le_refl _, fun i x H' hi y => ?_⟩
  obtain ⟨e, c, hc, ev⟩ := y
  subst e ev
  refine ⟨.str ⟨#[c]⟩, ?_, Sep.shc s fun _ => .str _⟩
  unfold strD
  rw [List.getElem?_map, Array.getElem?_toList, hc]
  rfl
def enumD (ds : List PyData) : List PyData := ds.zipIdx.map fun p => .tuple [.int (p.2 : Nat), p.1]
theorem enumD_len {ds : List PyData} : (enumD ds).length = ds.length := by simp [enumD]
theorem enumD_get {ds : List PyData} {i : Nat} {d : PyData} (h : ds[i]? = some d) : (enumD ds)[i]? = some (.tuple [.int (i : Nat), d]) := by
  unfold enumD
  rw [List.getElem?_map, List.getElem?_zipIdx, h]
  simp
theorem sep_pair {H : Hp} {T : Addr} {v w : V} {d e : PyData} {L : Ls} (s : Sep H ((some v, .sh d) :: (some w, .sh e) :: L)) (n : H T = none) : Sep (upd H T (.tup [v, w])) ((some (.ref T), .sh (.tuple [d, e])) :: L) :=
  Sep.newTup (vs := [v, w]) (ds := [d, e]) rfl s n
theorem walk_enum {K : PySem.W.Frag} {a : Addr} {ds : List PyData} : Walk (Ite K a) [(some (.ref a), .sh (.list ds))] (enumD ds) := fun L H s => by
  obtain ⟨a', xs, ea, ha, la, s2⟩ := Sep.lst s
  cases ea
  rw [enumD_len]
  refine ⟨fun i hi => ⟨xs, xs[i]'(by omega), SqL.of ha, List.getElem?_eq_getElem _⟩, ⟨xs, SqL.of ha, by omega⟩, fun i x H' hi y => ?_⟩
  obtain ⟨T, w, e1, nT, e2, y⟩ := y
  subst e1 e2
  have hx := y xs (SqL.of ha)
  obtain ⟨d, hd⟩ : ∃ d, ds[i]? = some d := ⟨_, List.getElem?_eq_getElem hi⟩
  obtain ⟨v, hv, s3⟩ := zipGet la hd s2
  rw [hx] at hv
  cases hv
  exact ⟨_, enumD_get hd, sep_pair (Sep.shc s3 fun _ => .int _) nT⟩
def zipD (ds es : List PyData) : List PyData := List.zipWith (fun a b => .tuple [a, b]) ds es
theorem walk_zip {K : PySem.W.Frag} {a b : Addr} {ds es : List PyData} : Walk (Itz K a b) [(some (.ref a), .sh (.list ds)), (some (.ref b), .sh (.list es))] (zipD ds es) := fun L H s => by
  obtain ⟨a', xs, ea, ha, la, s2⟩ := Sep.lst s
  cases ea
  have sb := (s2.perm (perm_mid _ [_] _)).tail
  obtain ⟨b', ys, eb, hb, lb, s3⟩ := Sep.lst (sb.perm (perm_mid _ [_] _))
  cases eb
  have hl : (zipD ds es).length = min ds.length es.length := by simp [zipD]
  rw [hl]
  refine ⟨fun i hi => ⟨xs, ys, xs[i]'(by omega), ys[i]'(by omega), SqL.of ha, SqL.of hb, List.getElem?_eq_getElem _, List.getElem?_eq_getElem _⟩, ⟨xs, ys, SqL.of ha, SqL.of hb, by omega⟩, fun i x H' hi y => ?_⟩
  obtain ⟨T, u, w, e1, nT, e2, yx, yy⟩ := y
  subst e1 e2
  have hx := yx xs (SqL.of ha)
  have hy := yy ys (SqL.of hb)
  obtain ⟨d, hd⟩ : ∃ d, ds[i]? = some d := ⟨_, List.getElem?_eq_getElem (by omega)⟩
  obtain ⟨e, he⟩ : ∃ e, es[i]? = some e := ⟨_, List.getElem?_eq_getElem (by omega)⟩
  have s4 : Sep H (vz ys (es.map En.sh) ++ ((some (.ref a), .sh (.list ds)) :: (some (.ref b), .sh (.list es)) :: L)) := by
    obtain ⟨b2, ys2, eb2, hb2, lb2, s5⟩ := Sep.lst (s.perm (List.Perm.swap _ _ _))
    cases eb2
    rw [hb] at hb2
    cases hb2
    exact s5.perm ((List.Perm.swap _ _ _).append_left _)
  obtain ⟨w', hw', s6⟩ := zipGet lb he s4
  rw [hy] at hw'
  cases hw'
  obtain ⟨a2, xs2, ea2, ha2, la2, s7⟩ := Sep.lst s6.tail
  cases ea2
  rw [ha] at ha2
  cases ha2
  have s8 : Sep H (vz xs (ds.map En.sh) ++ ((some w, .sh e) :: (some (.ref a), .sh (.list ds)) :: (some (.ref b), .sh (.list es)) :: L)) := by
    obtain ⟨a3, xs3, ea3, ha3, la3, s9⟩ := Sep.lst (s6.perm (List.Perm.swap _ _ _))
    cases ea3
    rw [ha] at ha3
    cases ha3
    exact s9.perm ((List.Perm.swap _ _ _).append_left _)
  obtain ⟨v, hv, s9⟩ := zipGet la hd s8
  rw [hx] at hv
  cases hv
  refine ⟨.tuple [d, e], ?_, sep_pair s9 nT⟩
  unfold zipD
  rw [List.getElem?_zipWith, hd, he]
/-! ### how a walk begins -/
@[simp] def iLst (τ : AE) : AI := fun Γ P => τ Γ fun r Γ1 => ∃ ds, r = .sh (.list ds) ∧ P ds Γ1
@[simp] def iTp (τ : AE) : AI := fun Γ P => τ Γ fun r Γ1 => ∃ ds, r = .sh (.tuple ds) ∧ P ds Γ1
@[simp] def iSt (τ : AE) : AI := fun Γ P => τ Γ fun r Γ1 => ∃ z, r = .sh (.str z) ∧ P (strD z) Γ1
@[simp] def iR1 (α : AA) : AI := fun Γ P => α Γ fun rs Γ1 => ∃ n : Int, rs = [.sh (.int n)] ∧ -(2 ^ 62) ≤ n ∧ n < 2 ^ 62 ∧ P (rangeD 0 n.toNat) Γ1
@[simp] def iR2 (α : AA) : AI := fun Γ P => α Γ fun rs Γ1 => ∃ m n : Int, rs = [.sh (.int m), .sh (.int n)] ∧ (-(2 ^ 62) ≤ m ∧ m < 2 ^ 62 ∧ -(2 ^ 62) ≤ n ∧ n < 2 ^ 62) ∧ P (rangeD m (n - m).toNat) Γ1
@[simp] def iEn (α : AA) : AI := fun Γ P => α Γ fun rs Γ1 => ∃ ds, rs = [.sh (.list ds)] ∧ P (enumD ds) Γ1
@[simp] def iZp (α : AA) : AI := fun Γ P => α Γ fun rs Γ1 => ∃ ds es, rs = [.sh (.list ds), .sh (.list es)] ∧ P (zipD ds es) Γ1
section
variable {X : Cx} {tg e : Expr} {te : TE} {τ : AE} {t : TA} {α : AA} {p pos : Pos}
theorem ai_list (h : AX X e te τ) : AXI X tg e (iList X.K te) (iLst τ) := ⟨pi_list h.pe, fun T Γ σ H R P s q k => h.snd T Γ σ H _ _ s q fun r Γ1 v H1 ⟨ds, er, p1⟩ s1 => by
  subst er
  obtain ⟨a, xs, ea, ha, la, s2⟩ := Sep.lst s1.2
  cases ea
  exact ⟨a, rfl, ⟨xs, SqL.of ha⟩, k ds Γ1 [(some (.ref a), .sh (.list ds))] _ _ p1 s1 walk_list⟩⟩
theorem ai_tup (h : AX X e te τ) : AXI X tg e (iTup X.K te) (iTp τ) := ⟨pi_tup h.pe, fun T Γ σ H R P s q k => h.snd T Γ σ H _ _ s q fun r Γ1 v H1 ⟨ds, er, p1⟩ s1 => by
  subst er
  obtain ⟨a, xs, ea, ha, la, s2⟩ := Sep.tup s1.2
  cases ea
  exact ⟨a, rfl, ⟨xs, SqT.of ha⟩, k ds Γ1 [(some (.ref a), .sh (.tuple ds))] _ _ p1 s1 walk_tup⟩⟩
theorem ai_str (h : AX X e te τ) : AXI X tg e (iStr te) (iSt τ) := ⟨pi_str h.pe, fun T Γ σ H R P s q k => h.snd T Γ σ H _ _ s q fun r Γ1 v H1 ⟨z, er, p1⟩ s1 => by
  subst er
  obtain ⟨w, ew, d⟩ := Sep.val s1.2
  cases ew
  have ev := d.strE
  subst ev
  exact ⟨z, rfl, k _ Γ1 [] _ _ p1 s1.pop walk_str⟩⟩
theorem ai_range1 {a : Expr} (hg : Gl X "range") (hm : X.mg "range" = none) (h : AXA X [a] t α) (hs : starEach [a] X.env = [(false, eval a X.env)] := by rfl) : AXI X tg (.Call (.Name "range" p) [a] [] pos) (iRng1 t) (iR1 α) := ⟨pi_range1 hg hm h.pe hs, fun T Γ σ H R P s q k => h.snd T Γ σ H _ _ s q fun rs Γ1 vs H1 ⟨n, er, n1, n2, p1⟩ hl s1 => by
  subst er
  obtain ⟨x, ex⟩ := one_of hl rfl
  subst ex
  obtain ⟨w, ew, d⟩ := Sep.val s1.2
  cases ew
  have ev := d.intE
  subst ev
  exact ⟨n, rfl, n1, n2, k _ Γ1 [] _ _ p1 s1.pop walk_range⟩⟩
theorem ai_range2 {a b : Expr} (hg : Gl X "range") (hm : X.mg "range" = none) (h : AXA X [a, b] t α) (hs : starEach [a, b] X.env = [(false, eval a X.env), (false, eval b X.env)] := by rfl) (hs2 : starEach [b] X.env = [(false, eval b X.env)] := by rfl) : AXI X tg (.Call (.Name "range" p) [a, b] [] pos) (iRng2 t) (iR2 α) := ⟨pi_range2 hg hm h.pe hs hs2, fun T Γ σ H R P s q k => h.snd T Γ σ H _ _ s q fun rs Γ1 vs H1 ⟨m, n, er, hb, p1⟩ hl s1 => by
  subst er
  match vs, hl with
  | [x, y], _ =>
    obtain ⟨w, ew, d⟩ := Sep.val s1.2
    cases ew
    have ev := d.intE
    subst ev
    obtain ⟨w, ew, d⟩ := Sep.val s1.pop.2
    cases ew
    have ev := d.intE
    subst ev
    exact ⟨m, n, rfl, hb, k _ Γ1 [] _ _ p1 s1.pop.pop walk_range⟩⟩
theorem ai_enum {a : Expr} {elts : List Expr} {kk : Nat} {tpos : Pos} (hg : Gl X "enumerate") (hm : X.mg "enumerate" = none) (h : AXA X [a] t α) (hs : starEach [a] X.env = [(false, eval a X.env)] := by rfl) : AXI X (.Tuple elts kk tpos) (.Call (.Name "enumerate" p) [a] [] pos) (iEnum X.K t) (iEn α) := ⟨pi_enum hg hm h.pe hs, fun T Γ σ H R P s q k => h.snd T Γ σ H _ _ s q fun rs Γ1 vs H1 ⟨ds, er, p1⟩ hl s1 => by
  subst er
  obtain ⟨x, ex⟩ := one_of hl rfl
  subst ex
  obtain ⟨a, xs, ea, ha, la, s2⟩ := Sep.lst s1.2
  cases ea
  exact ⟨a, xs, rfl, SqL.of ha, k _ Γ1 [(some (.ref a), .sh (.list ds))] _ _ p1 s1 walk_enum⟩⟩
theorem ai_zip {a b : Expr} {elts : List Expr} {kk : Nat} {tpos : Pos} (hg : Gl X "zip") (hm : X.mg "zip" = none) (h : AXA X [a, b] t α) (hs : starEach [a, b] X.env = (false, eval a X.env) :: starEach [b] X.env := by rfl) (hpl : (backTo pos (starEach [b] X.env)).any (·.1) = false := by rfl) :
    AXI X (.Tuple elts kk tpos) (.Call (.Name "zip" p) [a, b] [] pos) (iZip X.K t) (iZp α) := ⟨pi_zip hg hm h.pe hs hpl, fun T Γ σ H R P s q k => h.snd T Γ σ H _ _ s q fun rs Γ1 vs H1 ⟨ds, es, er, p1⟩ hl s1 => by
  subst er
  match vs, hl with
  | [x, y], _ =>
    obtain ⟨a, xs, ea, ha, la, s2⟩ := Sep.lst s1.2
    cases ea
    obtain ⟨b, ys, eb, hb, lb, s3⟩ := Sep.lst s1.pop.2
    cases eb
    exact ⟨a, b, xs, ys, rfl, SqL.of ha, SqL.of hb, k _ Γ1 [(some (.ref a), .sh (.list ds)), (some (.ref b), .sh (.list es))] _ _ p1 s1 walk_zip⟩⟩
end
/-! ### targets -/
abbrev AG := En → Ga → (Ga → Prop) → Prop
abbrev AGs := List PyData → Ga → (Ga → Prop) → Prop
def Out (W : List Nat) (σ σ' : St) : Prop := σ'.length = σ.length ∧ ∀ i, i ∉ W → σ'[i]? = σ[i]?
def SndG (g : TG) (β : AG) (W : List Nat) : Prop := ∀ (T : Ls) (Γ : Ga) (σ : St) (H : Hp) (v : V) (e : En) (Q : St → Hp → Prop) (P : Ga → Prop), Sx ((some v, e) :: T) Γ σ H → β e Γ P → (∀ Γ' σ' H', P Γ' → Sx T Γ' σ' H' → Out W σ σ' → Q σ' H') → g v σ H Q
def SndGs (g : TGs) (β : AGs) (W : List Nat) : Prop := ∀ (T : Ls) (Γ : Ga) (σ : St) (H : Hp) (vs : List V) (ds : List PyData) (Q : St → Hp → Prop) (P : Ga → Prop), vs.length = ds.length → Sx (vz vs (ds.map En.sh) ++ T) Γ σ H → β ds Γ P → (∀ Γ' σ' H', P Γ' → Sx T Γ' σ' H' → Out W σ σ' → Q σ' H') → g vs σ H Q
structure AXG (X : Cx) (tg : Expr) (g : TG) (β : AG) (W : List Nat) : Prop where
  pg : PG X tg g
  snd : SndG g β W
structure AXGs (X : Cx) (tgs : List Expr) (g : TGs) (β : AGs) (W : List Nat) : Prop where
  pg : PGs X tgs g
  snd : SndGs g β W
@[simp] def bN (i : Nat) : AG := fun e Γ P => i < Γ.length ∧ P (Γ.set i e)
@[simp] def bTp (n : Nat) (β : AGs) : AG := fun e Γ P => ∃ ds, e = .sh (.tuple ds) ∧ ds.length = n ∧ β ds Γ P
@[simp] def bNil : AGs := fun ds Γ P => ds = [] ∧ P Γ
@[simp] def bCons (β : AG) (γ : AGs) : AGs := fun ds Γ P => ∃ d r, ds = d :: r ∧ β (.sh d) Γ fun Γ1 => γ r Γ1 P
theorem snd_bN {i : Nat} : SndG (gName i) (bN i) [i] := fun T Γ σ H v e Q P s ⟨hi, p⟩ k => by
  refine k _ (σ.set i (some v)) H p (s.asg hi) ⟨by rw [List.length_set], fun j hj => ?_⟩
  rw [List.getElem?_set_ne (by intro z; subst z; exact hj (by simp))]
section
variable {X : Cx} {pos : Pos}
theorem ag_n (i : Nat) {x : Str} (hN : X.N.Nodup) (hi : X.N[i]? = some x := by rfl) (hx : Loc X.env.scope x := by first | exact Or.inl rfl | exact Or.inr rfl) (hf : X.fn x = true ∨ X.env.scope.names.lookup x = some .local := by first | exact .inl rfl | exact .inr rfl | assumption) : AXG X (.Name x pos) (gName i) (bN i) [i] := ⟨pg_name hN hi hx hf, snd_bN⟩
theorem ags_nil : AXGs X [] gNil bNil [] := ⟨pgs_nil, fun T Γ σ H vs ds Q P hl s ⟨e, p⟩ k => by
  subst e
  have ev : vs = [] := List.length_eq_zero_iff.mp hl
  subst ev
  exact ⟨rfl, k _ _ _ p s ⟨rfl, fun _ _ => rfl⟩⟩⟩
theorem ags_cons {e : Expr} {es : List Expr} {g : TG} {gs : TGs} {β : AG} {γ : AGs} {W W2 : List Nat} (h : AXG X e g β W) (h2 : AXGs X es gs γ W2) (hs : (assignEach (e :: es) X.env).map (·.2) = assign e X.env :: (assignEach es X.env).map (·.2) := by rfl) : AXGs X (e :: es) (gCons g gs) (bCons β γ) (W ++ W2) := ⟨pgs_cons h.pg h2.pg hs, fun T Γ σ H vs ds Q P hl s ⟨d, r, e, p⟩ k => by
  subst e
  match vs, hl with
  | v :: vr, hl =>
    refine ⟨v, vr, rfl, h.snd (vz vr (r.map En.sh) ++ T) Γ σ H v (.sh d) _ _ s p fun Γ1 σ1 H1 p1 s1 o1 => ?_⟩
    refine h2.snd T Γ1 σ1 H1 vr r _ _ (by simpa using hl) s1 p1 fun Γ2 σ2 H2 p2 s2 o2 => k _ _ _ p2 s2 ⟨o2.1.trans o1.1, fun i hi => ?_⟩
    rw [List.mem_append, not_or] at hi
    rw [o2.2 i hi.2, o1.2 i hi.1]⟩
theorem ag_tup {es : List Expr} {k n : Nat} {gs : TGs} {γ : AGs} {W : List Nat} (hc : X.calm = true) (h : AXGs X es gs γ W) (hn : (assignEach es X.env).length = n := by rfl) (hst : (assignEach es X.env).findIdx? (·.1) = none := by rfl) : AXG X (.Tuple es k pos) (gTup X.K n gs) (bTp n γ) W := ⟨pg_tup hc h.pg hn hst, fun T Γ σ H v e Q P s ⟨ds, er, hl, p⟩ kk => by
  subst er
  obtain ⟨a, xs, ea, ha, la, s2⟩ := Sep.tup s.2
  cases ea
  exact ⟨a, xs, rfl, SqT.of ha, la.trans hl, h.snd T Γ σ H xs ds _ _ la ⟨s.1, by rw [List.append_assoc]; exact (Sep.perm s2 (perm_mid _ [_] _)).tail⟩ p kk⟩⟩
end
end PL
set_option maxRecDepth 100000
set_option maxHeartbeats 1000000
namespace PL
open PySem L2 StX
/-! ### slots forgotten -/
@[simp] def wipeG (Γ : Ga) : List Nat → Ga
  | [] => Γ
  | v :: vs => (wipeG Γ vs).set v .no
theorem wipeG_length (Γ : Ga) : ∀ vs : List Nat, (wipeG Γ vs).length = Γ.length
  | [] => rfl
  | v :: vs => by unfold wipeG; rw [List.length_set, wipeG_length Γ vs]
/-- an entry is forgotten -/
theorem Sx.forget {T : Ls} {Γ : Ga} {σ : St} {H : Hp} (i : Nat) (o : Option V) (s : Sx T Γ σ H) : Sx T (Γ.set i .no) (σ.set i o) H := by
  by_cases hi : i < Γ.length
  · refine ⟨by rw [List.length_set, List.length_set]; exact s.1, ?_⟩
    have s1 : Sep H ((o, .no) :: (T ++ σ.zip Γ)) := s.2.no
    have s2 := s1.put (i := T.length + i) (by rw [List.length_append, List.length_zip, s.1]; omega)
    rw [app_set] at s2
    rw [zip_set]
    exact s2
  · rw [List.set_eq_of_length_le (by omega), List.set_eq_of_length_le (by rw [s.1]; omega)]
    exact s
theorem Sx.wipe {T : Ls} {Γ : Ga} {σ : St} {H : Hp} (s : Sx T Γ σ H) : ∀ vs : List Nat, Sx T (wipeG Γ vs) (L2.wipe σ vs) H
  | [] => s
  | v :: vs => by
    unfold wipeG L2.wipe
    exact (Sx.wipe s vs).forget v none
theorem wipeG_no (Γ : Ga) : ∀ (vs : List Nat) (i : Nat), i ∈ vs → i < Γ.length → (wipeG Γ vs)[i]? = some .no
  | v :: vs, i, h, hl => by
    unfold wipeG
    by_cases e : v = i
    · subst e
      rw [List.getElem?_set_self (by rw [wipeG_length]; exact hl)]
    · rw [List.getElem?_set_ne e]
      exact wipeG_no Γ vs i (by
        rcases List.mem_cons.mp h with z | z
        · exact (e z.symm).elim
        · exact z) hl
theorem wipe_out (σ : St) : ∀ (vs : List Nat) (i : Nat), i ∉ vs → (L2.wipe σ vs)[i]? = σ[i]?
  | [], _, _ => rfl
  | v :: vs, i, h => by
    rw [List.mem_cons, not_or] at h
    unfold L2.wipe
    rw [List.getElem?_set_ne (fun z => h.1 z.symm)]
    exact wipe_out σ vs i h.2
theorem wipe_in (σ : St) : ∀ (vs : List Nat) (i : Nat), i ∈ vs → i < σ.length → (L2.wipe σ vs)[i]? = some none
  | v :: vs, i, h, hl => by
    unfold L2.wipe
    by_cases e : v = i
    · subst e
      rw [List.getElem?_set_self (by rw [L2.wipe_length]; exact hl)]
    · rw [List.getElem?_set_ne e]
      exact wipe_in σ vs i (by
        rcases List.mem_cons.mp h with z | z
        · exact (e z.symm).elim
        · exact z) hl
theorem wipe_eq {σ σ' : St} {vs : List Nat} (hl : σ'.length = σ.length) (h : ∀ i, i ∉ vs → σ'[i]? = σ[i]?) : L2.wipe σ' vs = L2.wipe σ vs := by
  refine List.ext_getElem? fun i => ?_
  by_cases hi : i ∈ vs
  · by_cases hlt : i < σ.length
    · rw [wipe_in σ vs i hi hlt, wipe_in σ' vs i hi (by omega)]
    · rw [List.getElem?_eq_none (by rw [L2.wipe_length]; omega), List.getElem?_eq_none (by rw [L2.wipe_length]; omega)]
  · rw [wipe_out σ vs i hi, wipe_out σ' vs i hi, h i hi]
theorem wipe_wipe (σ : St) (vs : List Nat) : L2.wipe (L2.wipe σ vs) vs = L2.wipe σ vs := wipe_eq (L2.wipe_length σ vs) fun i hi => wipe_out σ vs i hi
/-- entries that are nothing have no need of a value -/
theorem zip_reval {Hs H : Hp} : ∀ {σ σ' : St} {Γ : Ga} {F : List Addr}, σ.length = σ'.length → (∀ (i : Nat) (e : En), Γ[i]? = some e → e = En.no ∨ σ'[i]? = σ[i]?) → EnsR Hs H (σ.zip Γ) F → EnsR Hs H (σ'.zip Γ) F
  | [], [], Γ, F, _, _, r => r
  | [], _ :: _, _, _, hl, _, _ => by simp at hl
  | _ :: _, [], _, _, hl, _, _ => by simp at hl
  | a :: σ, b :: σ', [], F, _, _, r => r
  | a :: σ, b :: σ', e :: Γ, F, hl, h, ⟨F1, F2, eF, r1, r2⟩ => by
    refine ⟨F1, F2, eF, ?_, zip_reval (by simpa using hl) (fun i e' he => by simpa using h (i + 1) e' (by simpa using he)) r2⟩
    rcases h 0 e rfl with z | z
    · subst z
      exact r1
    · have z' : b = a := by simpa using z
      rw [z']
      exact r1
theorem Sx.reval {T : Ls} {Γ : Ga} {σ σ' : St} {H : Hp} (s : Sx T Γ σ H) (hl : σ'.length = σ.length) (h : ∀ (i : Nat) (e : En), Γ[i]? = some e → e = En.no ∨ σ'[i]? = σ[i]?) : Sx T Γ σ' H := by
  refine ⟨hl.trans s.1, ?_⟩
  obtain ⟨Hs, F, x, r, nd, fr⟩ := s.2
  obtain ⟨F1, F2, e, r1, r2⟩ := r.split
  exact ⟨Hs, F, x, by rw [e]; exact r1.app (zip_reval hl.symm h r2), nd, fr⟩
theorem Sx.unwipe {T : Ls} {Γ : Ga} {σ : St} {H : Hp} {vs : List Nat} (s : Sx T (wipeG Γ vs) (L2.wipe σ vs) H) : Sx T (wipeG Γ vs) σ H := by
  refine s.reval (L2.wipe_length σ vs).symm fun i e he => ?_
  by_cases hi : i ∈ vs
  · have hl : i < Γ.length := by
      have := (List.getElem?_eq_some_iff.mp he).1
      rw [wipeG_length] at this
      exact this
    rw [wipeG_no Γ vs i hi hl] at he
    cases he
    exact Or.inl rfl
  · exact Or.inr (wipe_out σ vs i hi).symm
/-! ### comprehensions -/
structure AXTs (X : Cx) (ifs : List Expr) (t : TT) (τ : AT) : Prop where
  pe : PTs X ifs t
  snd : SndT t τ
@[simp] def aYes : AT := fun Γ P => P true Γ
theorem ats_nil {X : Cx} : AXTs X [] tYes aYes := ⟨pts_nil, fun T Γ σ H Q P s p k => k _ _ _ p s⟩
theorem ats_one {X : Cx} {c : Expr} {t : TT} {τ : AT} (h : AXT X c t τ) : AXTs X [c] t τ := ⟨pts_one h.pe, h.snd⟩
def lcB (β : AG) (τt : AT) (τe : AE) (vs : List Nat) (ds : List PyData) (Γ : Ga) (P : En → Ga → Prop) : Prop := ∃ I : Nat → List En → Ga → Prop, I 0 [] (wipeG Γ vs) ∧
  (∀ i d acc Γ2, ds[i]? = some d → I i acc Γ2 → β (.sh d) Γ2 fun Γ3 => τt Γ3 fun b Γ4 => if b = true then τe Γ4 fun r Γ5 => acc.length < sizeLine ∧ I (i + 1) (acc ++ [r]) (wipeG Γ5 vs) else I (i + 1) acc (wipeG Γ4 vs)) ∧
  ∀ acc Γ2, I ds.length acc Γ2 → P (.lst acc) (wipeG Γ2 vs)
@[simp] def aLc (ι : AI) (β : AG) (τt : AT) (τe : AE) (vs : List Nat) : AE := fun Γ P => ι Γ fun ds Γ1 => lcB β τt τe vs ds Γ1 P
theorem app_ls {H : Hp} {D : Addr} {y : V} {r : En} {acc : List En} {M : Ls} (s : Sep H ((some y, r) :: (some (.ref D), .lst acc) :: M)) : ∃ xs, H D = some (.lst xs) ∧ xs.length = acc.length ∧ Sep (upd H D (.lst (xs ++ [y]))) ((some (.ref D), .lst (acc ++ [r])) :: M) := by
  have s1 := s.swap
  obtain ⟨p, xs, ep, hp, hl⟩ := s1.lsGet
  cases ep
  refine ⟨xs, hp, hl, ?_⟩
  refine Sep.lsSet (N := [(some y, r)]) (es := acc) (xs := xs) s1 hp (by simp [hl]) fun Hs F rr => ⟨F, fun _ h => h, fun h => h, ?_⟩
  have e : vz (xs ++ [y]) (acc ++ [r]) = vz xs acc ++ [(some y, r)] := by
    unfold vz
    rw [List.map_append, List.zip_append (by rw [List.length_map]; exact hl)]
    rfl
  rw [e]
  exact rr
theorem snd_lc {wi : TI} {ι : AI} {g : TG} {β : AG} {W : List Nat} {tt : TT} {τt : AT} {te : TE} {τe : AE} {vs : List Nat} (hi : SndI wi ι) (hg : SndG g β W) (ht : SndT tt τt) (he : Snd te τe) (hW : ∀ i ∈ W, i ∈ vs) : Snd (tLc wi g tt te vs) (aLc ι β τt τe vs) := fun T Γ σ H Q P s p k =>
  hi T Γ σ H _ _ s p fun ds Γ1 S J H1 ⟨I, i0, it, ie⟩ s1 wk D nD => by
    -- between two turns
    let IV : Nat → Nat → Hp → Prop := fun i m H => m = ds.length - i ∧ i ≤ ds.length ∧ ∃ acc Γ2, I i acc Γ2 ∧ Sx ((some (.ref D), .lst acc) :: (S ++ T)) Γ2 (L2.wipe σ vs) H
    refine ⟨IV, ⟨ds.length, by omega, Nat.zero_le _, [], _, i0, ?_⟩, ?_⟩
    · have s2 := s1.wipe vs
      exact ⟨s2.1, Sep.newLs (vs := []) (es := []) rfl s2.2 nD⟩
    · rintro i m H2 ⟨rfl, hle, acc, Γ2, iv, s2⟩
      obtain ⟨go, stop, yld⟩ := wk (((some (.ref D), .lst acc) :: T) ++ (L2.wipe σ vs).zip Γ2) H2 (by
        have q := s2.2
        exact q.perm (by
          rw [← List.append_assoc]
          refine List.Perm.append_right _ ?_
          exact (perm_mid [_] S T)))
      by_cases hlt : i < ds.length
      · refine Or.inr ⟨go i hlt, fun H' => IV (i + 1) (ds.length - (i + 1)) H', fun H' n => ⟨_, by omega, n⟩, fun x H' y => ?_⟩
        obtain ⟨d, hd, s3⟩ := yld i x H' hlt y
        have s4 : Sx ((some x, .sh d) :: ((some (.ref D), .lst acc) :: (S ++ T))) Γ2 (L2.wipe σ vs) H' := ⟨s2.1, s3.perm (by
          refine List.Perm.cons _ ?_
          rw [← List.append_assoc]
          exact List.Perm.append_right _ (perm_mid S [_] T))⟩
        refine hg _ Γ2 _ H' x _ _ _ s4 (it i d acc Γ2 hd iv) fun Γ3 σ3 H3 p3 s5 o3 => ?_
        have ew : L2.wipe σ3 vs = L2.wipe σ vs := by
          rw [wipe_eq o3.1 fun j hj => o3.2 j fun z => hj (hW j z), wipe_wipe]
        refine ⟨ew, ht _ Γ3 σ3 H3 _ _ s5 p3 fun b Γ4 H4 p4 s6 => ?_⟩
        cases b with
        | true =>
          refine iteT (he _ Γ4 σ3 H4 _ _ s6 p4 fun r Γ5 v H5 ⟨hz, p5⟩ s7 => ?_)
          obtain ⟨xs, hD, hl, s8⟩ := app_ls s7.2
          refine ⟨xs, hD, by rw [hl]; exact hz, rfl, hlt, _, _, p5, ?_⟩
          have s9 : Sx ((some (.ref D), .lst (acc ++ [r])) :: (S ++ T)) Γ5 σ3 (upd H5 D (.lst (xs ++ [v]))) := ⟨s7.1, s8⟩
          have s10 := s9.wipe vs
          rw [ew] at s10
          exact s10
        | false =>
          refine iteF ⟨rfl, hlt, acc, _, p4, ?_⟩
          have s10 := s6.wipe vs
          rw [ew] at s10
          exact s10
      · have e : i = ds.length := by omega
        subst e
        refine Or.inl ⟨stop, k _ _ _ _ (ie acc Γ2 iv) ?_⟩
        have s3 := s2.wipe vs
        rw [wipe_wipe] at s3
        have s4 := s3.unwipe
        exact (s4.perm (perm_mid [_] S T)).popA
section
variable {X : Cx} {elt tg iter : Expr} {ifs : List Expr} {scope : Scope} {own : List (Str × Nat)} {pos : Pos} {wi : TI} {ι : AI} {g : TG} {β : AG} {W : List Nat} {tt : TT} {τt : AT} {te : TE} {τe : AE}
theorem ax_lc (hc : X.calm = true) (hN : X.N.Nodup) (hi : AXI X tg iter wi ι) (ok : BlkOk X.N X.env.scope scope own)
    (hg : ∀ (s : Shared) (H : Hp) (C : Addr) (cl : List (Str × Addr)) (fp : List Addr), AXG (X.blk s H scope (compEnvC scope cl C X.env) fp) tg g β W)
    (ht : ∀ (s : Shared) (H : Hp) (C : Addr) (cl : List (Str × Addr)) (fp : List Addr), AXTs (X.blk s H scope (compEnvC scope cl C X.env) fp) ifs tt τt)
    (he : ∀ (s : Shared) (H : Hp) (C : Addr) (cl : List (Str × Addr)) (fp : List Addr), AX (X.blk s H scope (compEnvC scope cl C X.env) fp) elt te τe)
    (hW : ∀ i ∈ W, i ∈ own.map (·.2) := by decide) (hs : ∀ x, foldedSetIterable iter X.env x = pure x := by intro _; rfl) :
    AX X (.ListComp elt [⟨tg, iter, ifs, 0⟩] scope pos) (tLc wi g tt te (own.map (·.2))) (aLc ι β τt τe (own.map (·.2))) :=
  ⟨pe_lc hc hN hi.pi ok (fun s H C cl fp => (hg s H C cl fp).pg) (fun s H C cl fp => (ht s H C cl fp).pe) (fun s H C cl fp => (he s H C cl fp).pe) hs,
    snd_lc hi.snd (hg X.s_0 X.H_0 0 [] []).snd (ht X.s_0 X.H_0 0 [] []).snd (he X.s_0 X.H_0 0 [] []).snd hW⟩
end
/-- a pure map and filter: the turn goes on with any KT, KF -/
theorem lc_map {β : AG} {τt : AT} {τe : AE} {vs : List Nat} {ds : List PyData} {Γ : Ga} {P : En → Ga → Prop} (f : PyData → Option PyData) (hz : ds.length < sizeLine)
    (turn : ∀ d, d ∈ ds → ∀ (KT : En → Ga → Prop) (KF : Ga → Prop), (∀ d' Γ5, f d = some d' → wipeG Γ5 vs = wipeG Γ vs → KT (.sh d') Γ5) → (∀ Γ4, f d = none → wipeG Γ4 vs = wipeG Γ vs → KF Γ4) → β (.sh d) (wipeG Γ vs) fun Γ3 => τt Γ3 fun b Γ4 => if b = true then τe Γ4 KT else KF Γ4)
    (done : P (.lst ((ds.filterMap f).map En.sh)) (wipeG (wipeG Γ vs) vs)) : lcB β τt τe vs ds Γ P := by
  refine ⟨fun i acc Γ2 => Γ2 = wipeG Γ vs ∧ acc = ((ds.take i).filterMap f).map En.sh, ⟨rfl, rfl⟩, ?_, ?_⟩
  · rintro i d acc Γ2 hd ⟨rfl, rfl⟩
    have hi : i < ds.length := (List.getElem?_eq_some_iff.mp hd).1
    have et : ds.take (i + 1) = ds.take i ++ [d] := by
      rw [List.take_succ, hd]
      rfl
    refine turn d (List.mem_of_getElem? hd) _ _ (fun d' Γ5 e1 e3 => ⟨?_, e3, ?_⟩) fun Γ4 e1 e2 => ⟨e2, ?_⟩
    · rw [List.length_map]
      refine Nat.lt_of_le_of_lt (List.length_filterMap_le _ _) ?_
      rw [List.length_take]
      omega
    · rw [et, List.filterMap_append, List.map_append]
      simp [e1]
    · rw [et, List.filterMap_append]
      simp [e1]
  · rintro acc Γ2 ⟨rfl, rfl⟩
    rw [List.take_length]
    exact done
end PL
set_option maxRecDepth 100000
set_option maxHeartbeats 1000000
namespace PL
open PySem L2 StX
/-! ### statements -/
structure AEnds where
  nx : Ga → Prop
  rt : En → Ga → Prop
  bk : Ga → Prop := fun _ => False
  ct : Ga → Prop := fun _ => False
abbrev AS := AEnds → Ga → Prop
def Pin (np : List Nat) (σ σ' : St) : Prop := ∀ i, i ∈ np → σ'[i]? = σ[i]?
structure Con (np : List Nat) (T : Ls) (σ0 : St) (D : Ends) (Δ : AEnds) : Prop where
  nx : ∀ Γ σ H, Δ.nx Γ → Sx T Γ σ H → Pin np σ0 σ → D.nx σ H
  rt : ∀ r Γ v σ H, Δ.rt r Γ → Sx ((some v, r) :: T) Γ σ H → Pin np σ0 σ → D.rt v H
  bk : ∀ Γ σ H, Δ.bk Γ → Sx T Γ σ H → Pin np σ0 σ → D.bk σ H
  ct : ∀ Γ σ H, Δ.ct Γ → Sx T Γ σ H → Pin np σ0 σ → D.ct σ H
def SndS (np : List Nat) (t : TS) (τ : AS) : Prop := ∀ (T : Ls) (Γ : Ga) (σ σ0 : St) (H : Hp) (D : Ends) (Δ : AEnds), Sx T Γ σ H → Pin np σ0 σ → Con np T σ0 D Δ → τ Δ Γ → t D σ H
def AXS (X : Cx) (np : List Nat) (st : Stmt) (τ : AS) : Prop := ∃ t, PS X st t ∧ SndS np t τ
def AXSs (X : Cx) (np : List Nat) (sts : List Stmt) (τ : AS) : Prop := ∃ t, PSs X sts t ∧ SndS np t τ
theorem Pin.out {np W : List Nat} {σ0 σ σ' : St} (p : Pin np σ0 σ) (o : Out W σ σ') (h : ∀ i ∈ W, i ∉ np) : Pin np σ0 σ' := fun i hi => (o.2 i fun z => h i z hi).trans (p i hi)
@[simp] def sNext : AS := fun Δ Γ => Δ.nx Γ
@[simp] def sSeq (τ υ : AS) : AS := fun Δ Γ => τ { Δ with nx := υ Δ } Γ
@[simp] def sBreak : AS := fun Δ Γ => Δ.bk Γ
@[simp] def sNever : AS := fun _ _ => False
@[simp] def sDrop (τ : AE) : AS := fun Δ Γ => τ Γ fun _ Γ1 => Δ.nx Γ1
@[simp] def sRet (τ : AE) : AS := fun Δ Γ => τ Γ Δ.rt
@[simp] def sIf (c : AT) (τ υ : AS) : AS := fun Δ Γ => c Γ fun b Γ1 => if b = true then τ Δ Γ1 else υ Δ Γ1
@[simp] def sAsg (τ : AE) (β : AG) : AS := fun Δ Γ => τ Γ fun r Γ1 => β r Γ1 Δ.nx
@[simp] def sPar (i j : Nat) (α : AA) : AS := fun Δ Γ => α Γ fun rs Γ1 => ∃ r1 r2, rs = [r1, r2] ∧ i < Γ1.length ∧ j < Γ1.length ∧ Δ.nx ((Γ1.set i r1).set j r2)
section
variable {X : Cx} {np : List Nat} {st : Stmt} {sts : List Stmt} {τ υ : AS} {e c : Expr} {te : TE} {α : AE} {tc : TT} {γ : AT} {pos : Pos}
theorem ass_nil : AXSs X np [] sNext := ⟨_, pss_nil, fun T Γ σ σ0 H D Δ s p k q => k.nx _ _ _ q s p⟩
theorem ass_cons (h : AXS X np st τ) (g : AXSs X np sts υ) : AXSs X np (st :: sts) (sSeq τ υ) := by
  obtain ⟨t, h1, h2⟩ := h
  obtain ⟨u, g1, g2⟩ := g
  refine ⟨_, pss_cons h1 g1, fun T Γ σ σ0 H D Δ s p k q => h2 T Γ σ σ0 H _ { Δ with nx := υ Δ } s p ⟨fun Γ1 σ1 H1 q1 s1 p1 => g2 T Γ1 σ1 σ0 H1 D Δ s1 p1 k q1, k.rt, k.bk, k.ct⟩ q⟩
theorem ass_one (h : AXS X np st τ) : AXSs X np [st] τ := by
  obtain ⟨t, h1, h2⟩ := h
  exact ⟨_, pss_one h1, h2⟩
theorem as_break : AXS X np (.Break pos) sBreak := ⟨_, ps_break, fun T Γ σ σ0 H D Δ s p k q => k.bk _ _ _ q s p⟩
theorem as_pass : AXS X np (.Pass pos) sNext := ⟨_, ps_pass, fun T Γ σ σ0 H D Δ s p k q => k.nx _ _ _ q s p⟩
theorem as_never : AXS X np st sNever := ⟨_, ps_never, fun T Γ σ σ0 H D Δ s p k q => q.elim⟩
theorem ass_never : AXSs X np sts sNever := ⟨_, pss_never, fun T Γ σ σ0 H D Δ s p k q => q.elim⟩
theorem as_expr (h : AX X e te α) (hs : swapsWith e none pos.line X.env = pure false := by rfl) : AXS X np (.Expr e pos) (sDrop α) := ⟨_, ps_expr h.pe hs, fun T Γ σ σ0 H D Δ s p k q => h.snd T Γ σ H _ _ s q fun r Γ1 v H1 q1 s1 => k.nx _ _ _ q1 s1.pop p⟩
theorem as_ret (h : AX X e te α) : AXS X np (.Return (some e) pos) (sRet α) := ⟨_, ps_ret h.pe, fun T Γ σ σ0 H D Δ s p k q => h.snd T Γ σ H _ _ s q fun r Γ1 v H1 q1 s1 => k.rt _ _ _ _ _ q1 s1 p⟩
theorem as_if {a b : List Stmt} (hc : AXT X c tc γ) (ha : AXSs X np a τ) (hb : AXSs X np b υ) : AXS X np (.If c a b pos) (sIf γ τ υ) := by
  obtain ⟨t, a1, a2⟩ := ha
  obtain ⟨u, b1, b2⟩ := hb
  refine ⟨_, ps_if hc.pe a1 b1, fun T Γ σ σ0 H D Δ s p k q => hc.snd T Γ σ H _ _ s q fun b Γ1 H1 q1 s1 => ?_⟩
  cases b with
  | true => exact a2 T Γ1 σ σ0 H1 D Δ s1 p k q1
  | false => exact b2 T Γ1 σ σ0 H1 D Δ s1 p k q1
theorem as_asg {tg : Expr} {g : TG} {β : AG} {W : List Nat} (h : AX X e te α) (hg : AXG X tg g β W) (hW : ∀ i ∈ W, i ∉ np := by decide) (hs : swapsWithSole [tg] e pos.line X.env = pure false := by rfl) (hw : swappedStores [tg] e X.env = pure none := by rfl)
    (h1 : (assignEach [tg] X.env).map (·.2) = [assign tg X.env] := by rfl) : AXS X np (.Assign [tg] e pos) (sAsg α β) := ⟨_, ps_asg h.pe hg.pg hs hw h1, fun T Γ σ σ0 H D Δ s p k q =>
  h.snd T Γ σ H _ _ s q fun r Γ1 v H1 q1 s1 => hg.snd T Γ1 σ H1 v r _ _ s1 q1 fun Γ2 σ2 H2 q2 s2 o => k.nx _ _ _ q2 s2 (p.out o hW)⟩
theorem as_set (i : Nat) {x : Str} {pos' : Pos} (hN : X.N.Nodup) (h : AX X e te α) (hi : X.N[i]? = some x := by rfl) (hx : Loc X.env.scope x := by first | exact Or.inl rfl | exact Or.inr rfl) (hnp : i ∉ np := by decide)
    (hs : swapsWith e (some (.Name x pos')) pos.line X.env = pure false := by rfl) (hf : X.fn x = true ∨ X.env.scope.names.lookup x = some .local := by first | exact .inl rfl | exact .inr rfl | assumption) : AXS X np (.Assign [.Name x pos'] e pos) (sAsg α (bN i)) :=
  ⟨_, ps_set hN hi hx h.pe hs hf, fun T Γ σ σ0 H D Δ s p k q => h.snd T Γ σ H _ _ s q fun r Γ1 v H1 q1 s1 => snd_bN T Γ1 σ H1 v r _ _ s1 q1 fun Γ2 σ2 H2 q2 s2 o => k.nx _ _ _ q2 s2 (p.out o fun j hj => by
    rw [List.mem_singleton] at hj
    subst hj
    exact hnp)⟩
theorem as_par {i j : Nat} {x y : Str} {a b : Expr} {ta : TA} {β : AA} {px py pt : Pos} {kt k2 pt2} (hc : X.calm = true) (hN : X.N.Nodup) (ha : AXA X [a, b] ta β) (hi : X.N[i]? = some x := by rfl) (hj : X.N[j]? = some y := by rfl) (hij : i ≠ j := by decide)
    (hx : X.env.scope.names.lookup x = some .local := by rfl) (hy : X.env.scope.names.lookup y = some .local := by rfl) (hni : i ∉ np := by decide) (hnj : j ∉ np := by decide)
    (hw : swappedStores [.Tuple [.Name x px, .Name y py] kt pt] (.Tuple [a, b] k2 pt2) X.env = pure (some [x, y]) := by rfl)
    (hs : swapsWithSole [.Tuple [.Name x px, .Name y py] kt pt] (.Tuple [a, b] k2 pt2) pos.line X.env = pure false := by rfl) :
    AXS X np (.Assign [.Tuple [.Name x px, .Name y py] kt pt] (.Tuple [a, b] k2 pt2) pos) (sPar i j β) := ⟨_, ps_par hc hN hi hj hij hx hy ha.pe hw hs, fun T Γ σ σ0 H D Δ s p k q =>
  ha.snd T Γ σ H _ _ s q fun rs Γ1 vs H1 ⟨r1, r2, er, l1, l2, q1⟩ hl s1 => by
    subst er
    match vs, hl with
    | [v, w], _ =>
      refine ⟨v, w, rfl, ?_⟩
      have s2 : Sx ((some w, r2) :: T) (Γ1.set i r1) (σ.set i (some v)) H1 := Sx.asg (s1 : Sx ((some v, r1) :: (some w, r2) :: T) Γ1 σ H1) l1
      refine k.nx _ _ _ q1 (s2.asg (by rw [List.length_set]; exact l2)) fun m hm => ?_
      rw [List.getElem?_set_ne (by intro z; subst z; exact hnj hm), List.getElem?_set_ne (by intro z; subst z; exact hni hm)]
      exact p m hm⟩
theorem snd_sh (t : TE) (τ : AE) (h : Snd t τ) : Snd t (aSh τ) := fun T Γ σ H Q P s p k => h T Γ σ H _ _ s p fun r Γ1 v H1 ⟨es, ds, er, hu, p1⟩ s1 => by
  subst er
  rw [unsh_eq hu] at s1
  exact k _ _ _ _ p1 ⟨s1.1, Sep.share s1.2⟩
theorem snd_id (t : TE) (τ : AE) (h : Snd t τ) : Snd t τ := h
/-- y = [.. for ..] on one line -/
theorem as_setLc (i : Nat) {y : Str} {py : Pos} {elt tg iter : Expr} {ifs : List Expr} {scope : Scope} {own : List (Str × Nat)} {spos : Pos} {wi : TI} {ι : AI} {g : TG} {β : AG} {W : List Nat} {tt : TT} {τt : AT} {τe : AE} (tr : AE → AE) (htr : ∀ (t : TE) (τ : AE), Snd t τ → Snd t (tr τ)) (hc : X.calm = true) (hN : X.N.Nodup)
    (hi : AXI X tg iter wi ι) (ok : BlkOk X.N X.env.scope scope own)
    (hg : ∀ (s : Shared) (H : Hp) (C : Addr) (cl : List (Str × Addr)) (fp : List Addr), AXG (X.blk s H scope (compEnvC scope cl C X.env) fp) tg g β W)
    (ht : ∀ (s : Shared) (H : Hp) (C : Addr) (cl : List (Str × Addr)) (fp : List Addr), AXTs (X.blk s H scope (compEnvC scope cl C X.env) fp) ifs tt τt)
    (he : ∀ (s : Shared) (H : Hp) (C : Addr) (cl : List (Str × Addr)) (fp : List Addr), AX (X.blk s H scope (compEnvC scope cl C X.env) fp) elt te τe)
    (hsw : swapsWith (.ListComp elt [⟨tg, iter, ifs, 0⟩] scope pos) (some (.Name y py)) spos.line X.env = pure true)
    (hW : ∀ i ∈ W, i ∈ own.map (·.2) := by decide) (hy : X.N[i]? = some y := by rfl) (hyl : X.env.scope.names.lookup y = some .local := by rfl) (hnp : i ∉ np := by decide) (hs : ∀ x, foldedSetIterable iter X.env x = pure x := by intro _; rfl) :
    AXS X np (.Assign [.Name y py] (.ListComp elt [⟨tg, iter, ifs, 0⟩] scope pos) spos) (sAsg (tr (aLc ι β τt τe (own.map (·.2)))) (bN i)) := by
  have h := ax_lc (pos := pos) hc hN hi ok hg ht he hW hs
  refine ⟨_, ps_setLc (i := i) hc hN hy hyl hsw hi.pi ok (fun s H C cl fp => (hg s H C cl fp).pg) (fun s H C cl fp => (ht s H C cl fp).pe) (fun s H C cl fp => (he s H C cl fp).pe) hs, fun T Γ σ σ0 H D Δ s p k q => ?_⟩
  have fin : ∀ (r : En) (Γ1 : Ga) (v : V) (H1 : Hp), bN i r Γ1 Δ.nx → Sx ((some v, r) :: T) Γ1 σ H1 → gName i v σ H1 D.nx := fun r Γ1 v H1 q1 s1 => snd_bN T Γ1 σ H1 v r _ _ s1 q1 fun Γ2 σ2 H2 q2 s2 o => k.nx _ _ _ q2 s2 (p.out o fun j hj => by
    rw [List.mem_singleton] at hj
    subst hj
    exact hnp)
  exact htr _ _ h.snd T Γ σ H _ _ s q fin
/-! ### for -/
def forB (β : AG) (τb : AS) (ds : List PyData) (Δ : AEnds) (Γ : Ga) : Prop := ∃ J : Nat → Ga → Prop, J 0 Γ ∧ (∀ i d Γ2, ds[i]? = some d → J i Γ2 → β (.sh d) Γ2 fun Γ3 => τb { Δ with nx := J (i + 1), ct := J (i + 1), bk := Δ.nx } Γ3) ∧ ∀ Γ2, J ds.length Γ2 → Δ.nx Γ2
@[simp] def sFor (ι : AI) (β : AG) (τb : AS) : AS := fun Δ Γ => ι Γ fun ds Γ1 => forB β τb ds Δ Γ1
theorem as_for {tg iter : Expr} {body : List Stmt} {wi : TI} {ι : AI} {g : TG} {β : AG} {W : List Nat} (hp : PassesOwn (model X.prog X.w) X.A X.env X.xe) (hc : X.calm = true) (hi : AXI X tg iter wi ι) (hg : AXG X tg g β W) (hb : AXSs X np body τ) (hW : ∀ i ∈ W, i ∉ np := by decide)
    (hs : ∀ x, foldedSetIterable iter X.env x = pure x := by intro _; rfl) : AXS X np (.For tg iter body [] pos) (sFor ι β τ) := by
  obtain ⟨tb, b1, b2⟩ := hb
  refine ⟨_, ps_for hp hc hi.pi hg.pg b1 hs, fun T Γ σ σ0 H D Δ s p k q => hi.snd T Γ σ H _ _ s q fun ds Γ1 S J H1 ⟨I, i0, it, ie⟩ s1 wk => ?_⟩
  let IV : Nat → Nat → St → Hp → Prop := fun i m σ H => m = ds.length - i ∧ i ≤ ds.length ∧ Pin np σ0 σ ∧ ∃ Γ2, I i Γ2 ∧ Sx (S ++ T) Γ2 σ H
  refine ⟨IV, ⟨ds.length, by omega, Nat.zero_le _, p, _, i0, s1⟩, ?_⟩
  rintro i m σ2 H2 ⟨rfl, hle, p2, Γ2, iv, s2⟩
  obtain ⟨go, stop, yld⟩ := wk (T ++ σ2.zip Γ2) H2 s2.sep2
  by_cases hlt : i < ds.length
  · refine Or.inr ⟨go i hlt, fun σ' H' => IV (i + 1) (ds.length - (i + 1)) σ' H', fun σ' H' n => ⟨_, by omega, n⟩, fun x H' y => ?_⟩
    obtain ⟨d, hd, s3⟩ := yld i x H' hlt y
    have s4 : Sx ((some x, .sh d) :: (S ++ T)) Γ2 σ2 H' := ⟨s2.1, by rw [List.cons_append, List.append_assoc]; exact s3⟩
    refine hg.snd _ Γ2 σ2 H' x _ _ _ s4 (it i d Γ2 hd iv) fun Γ3 σ3 H3 q3 s5 o3 => ?_
    refine b2 _ Γ3 σ3 σ0 H3 _ _ s5 (p2.out o3 hW) ⟨fun Γ4 σ4 H4 q4 s6 p6 => ⟨rfl, hlt, p6, Γ4, q4, s6⟩, fun r Γ4 v σ4 H4 q4 s6 p6 => ?_, fun Γ4 σ4 H4 q4 s6 p6 => ?_, fun Γ4 σ4 H4 q4 s6 p6 => ⟨rfl, hlt, p6, Γ4, q4, s6⟩⟩ q3
    · exact k.rt _ _ _ _ _ q4 (Sx.popA (M := S) (s6.perm (perm_mid [_] S T))) p6
    · exact k.nx _ _ _ q4 s6.popA p6
  · have e : i = ds.length := by omega
    subst e
    exact Or.inl ⟨stop, k.nx _ _ _ (ie Γ2 iv) s2.popA p2⟩
end
end PL
set_option maxRecDepth 100000
set_option maxHeartbeats 1000000
namespace PL
open PySem PySem.Spec PyProof.Rows L2 StX
/-! ### what a def does, by entries -/
abbrev AF := List En → (En → List En → Prop) → Prop
def spE (ρ : AF) : Sp := fun vs H Q _ => ∃ (L : Ls) (es : List En) (P : En → List En → Prop), vs.length = es.length ∧ Sep H (vz vs es ++ L) ∧ ρ es P ∧ ∀ r es' v H', P r es' → es'.length = es.length → Sep H' ((some v, r) :: (vz vs es' ++ L)) → Q v H'
/-- a function of shared data: its answer is shared data, its arguments are left -/
@[simp] def pf (R : List PyData → (PyData → Prop) → Prop) : AF := fun es P => ∃ ds, unsh es = some ds ∧ R ds fun d => ∀ es', P (.sh d) es'
def backs (np : List Nat) (n : Nat) (Γ : Ga) : List En := (List.range n).map fun k => if k ∈ np then Γ.getD k .no else .no
theorem backs_length {np : List Nat} {n : Nat} {Γ : Ga} : (backs np n Γ).length = n := by simp [backs]
/-- entries forgotten one by one -/
theorem ensR_less {Hs H : Hp} : ∀ {L M : Ls} {F : List Addr}, M.length ≤ L.length → (∀ (i : Nat) (x y : Option V × En), L[i]? = some x → M[i]? = some y → y = x ∨ y.2 = .no) → EnsR Hs H L F → ∃ G, G.Sublist F ∧ EnsR Hs H M G
  | _, [], F, _, _, _ => ⟨[], List.nil_sublist _, rfl⟩
  | [], _ :: _, _, hl, _, _ => by simp at hl
  | p :: L, q :: M, F, hl, h, ⟨F1, F2, e, r1, r2⟩ => by
    obtain ⟨G, sb, r⟩ := ensR_less (L := L) (M := M) (by simpa using hl) (fun i x y hx hy => h (i + 1) x y (by simpa using hx) (by simpa using hy)) r2
    rcases h 0 p q rfl rfl with z | z
    · subst z
      exact ⟨F1 ++ G, by rw [e]; exact (List.Sublist.refl _).append sb, F1, G, rfl, r1, r⟩
    · refine ⟨G, by rw [e]; exact sb.trans (List.sublist_append_right _ _), [], G, rfl, ?_, r⟩
      rw [z]
      rfl
theorem Sep.less {H : Hp} {L M A : Ls} (hl : M.length ≤ L.length) (h : ∀ (i : Nat) (x y : Option V × En), L[i]? = some x → M[i]? = some y → y = x ∨ y.2 = .no) (s : Sep H (A ++ L)) : Sep H (A ++ M) := by
  obtain ⟨Hs, F, x, r, nd, fr⟩ := s
  obtain ⟨F1, F2, e, r1, r2⟩ := r.split
  obtain ⟨G, sb, r3⟩ := ensR_less hl h r2
  subst e
  have sb2 := (List.Sublist.refl F1).append sb
  exact ⟨Hs, F1 ++ G, x, r1.app r3, nd.sublist sb2, fun a ha => fr a (sb2.subset ha)⟩
/-- behind the body: the parameters that were kept -/
theorem sx_back {N : List Str} {np : List Nat} {n : Nat} {vs : List V} {L : Ls} {Γ : Ga} {σ : L2.St} {H : Hp} {r : En} {v : V} (hn : vs.length = n) (hN : n ≤ N.length) (p : Pin np (L2.start N vs) σ) (s : Sx ((some v, r) :: L) Γ σ H) (hΓ : Γ.length = N.length) :
    Sep H ((some v, r) :: (vz vs (backs np n Γ) ++ L)) := by
  have s1 : Sep H (((some v, r) :: L) ++ σ.zip Γ) := s.2
  have s2 : Sep H (((some v, r) :: L) ++ vz vs (backs np n Γ)) := by
    refine Sep.less ?_ (fun i x y hx hy => ?_) s1
    · unfold vz
      rw [List.length_zip, List.length_zip, backs_length, List.length_map, s.1]
      omega
    · unfold vz at hy
      rw [List.getElem?_zip_eq_some] at hy
      obtain ⟨h1, h2⟩ := hy
      rw [List.getElem?_zip_eq_some] at hx
      obtain ⟨h3, h4⟩ := hx
      unfold backs at h2
      rw [List.getElem?_map] at h2
      have hi : i < n := by
        have := (List.getElem?_eq_some_iff.mp h1).1
        rw [List.length_map, hn] at this
        exact this
      rw [List.getElem?_range hi] at h2
      have h5 : (if i ∈ np then Γ.getD i .no else .no) = y.2 := by simpa using h2
      by_cases hm : i ∈ np
      · left
        rw [if_pos hm, List.getD_eq_getElem?_getD, h4] at h5
        have h6 := p i hm
        have h7 : (L2.start N vs)[i]? = some y.1 := by
          unfold L2.start
          rw [List.getElem?_append_left (by rw [List.length_map]; omega)]
          exact h1
        rw [h7, h3] at h6
        have e1 : x.1 = y.1 := Option.some.inj h6
        have e2 : x.2 = y.2 := h5
        obtain ⟨x1, x2⟩ := x
        obtain ⟨y1, y2⟩ := y
        cases e1
        cases e2
        rfl
      · right
        rw [if_neg hm] at h5
        exact h5.symm
  exact s2.perm (by
    rw [List.cons_append]
    exact (List.perm_append_comm).cons _)
def inG (N : List Str) (es : List En) : Ga := es ++ List.replicate (N.length - es.length) .no
theorem sx_start {N : List Str} {vs : List V} {es : List En} {L : Ls} {H : Hp} (hl : vs.length = es.length) (hN : es.length ≤ N.length) (s : Sep H (vz vs es ++ L)) : Sx L (inG N es) (L2.start N vs) H := by
  unfold inG L2.start
  refine ⟨by simp; omega, ?_⟩
  rw [hl]
  have e : (vs.map some ++ List.replicate (N.length - es.length) none).zip (es ++ List.replicate (N.length - es.length) En.no) = vz vs es ++ List.replicate (N.length - es.length) ((none, .no) : Option V × En) := by
    rw [List.zip_append (by rw [List.length_map]; exact hl), List.zip_replicate, Nat.min_self]
    rfl
  rw [e]
  have k : ∀ (m : Nat) (M : Ls), Sep H M → Sep H (List.replicate m ((none, .no) : Option V × En) ++ M) := fun m M h => by
    induction m with
    | zero => exact h
    | succ m ih =>
      rw [List.replicate_succ]
      exact Sep.no ih
  exact (k (N.length - es.length) _ s).perm (by
    refine List.perm_append_comm.trans ?_
    rw [List.append_assoc]
    exact perm_mid _ _ _)
section
variable {P : Program} {w : World} {K : PySem.W.Frag} {mg : Str → Option Value} {base : Heap}
/-- THE RULE for a def -/
theorem ok_def {x qual : Str} {st : Stmt} {f : Addr} {fd : FuncData} {N ps : List Str} {k : Nat} {ρ : AF} (F : Fun K x qual st f fd) (S : FnScope N ps (defScope st)) (np : List Nat) (hlen : ∀ es P, ρ es P → es.length = ps.length)
    (hb : ∀ (cdv : Value) (A : Around) (outer : List Env) (s : Shared) (H : Hp) (E : XK), Room k (A.deeper (envOfC qual (defScope st) s.heap.objs.size f cdv)) →
      ∃ τ, AXSs (cxOf CX0 P w K mg base N qual (defScope st) f cdv A outer s H E).nox np (defBody st) τ ∧ ∀ es Q, ρ es Q → τ { nx := fun Γ => Γ.length = N.length ∧ Q (.sh .none) (backs np ps.length Γ), rt := fun r Γ => Γ.length = N.length ∧ Q r (backs np ps.length Γ) } (inG N es)) : FnOk P w K mg base CX0 (k + 1) f fd ps (spE ρ) := by
  have hpl : ps.length ≤ N.length := by have := congrArg List.length S.pre; rw [List.length_take] at this; omega
  refine F.ok S (fun vs H Q E ⟨L, es, P, hl, s, r, _⟩ => hl.trans (hlen es P r)) fun cdv A outer s H vs Q E hr ⟨L, es, P, hl, sp, r, kk⟩ => ?_
  obtain ⟨τ, ⟨t, h1, h2⟩, h3⟩ := hb cdv A outer s H E hr
  have hel := hlen es P r
  have C : Con np L (L2.start N vs) { nx := fun _ H' => Q .non H', rt := Q } { nx := fun Γ => Γ.length = N.length ∧ P (.sh .none) (backs np ps.length Γ), rt := fun r Γ => Γ.length = N.length ∧ P r (backs np ps.length Γ) } := by
    refine ⟨fun Γ σ H' q s' p => ?_, fun r' Γ v σ H' q s' p => ?_, fun _ _ _ q _ _ => q.elim, fun _ _ _ q _ _ => q.elim⟩
    · have s2 : Sx ((some .non, .sh .none) :: L) Γ σ H' := ⟨s'.1, Sep.shc s'.2 fun _ => .non⟩
      exact kk _ _ _ _ q.2 (by rw [backs_length]; exact hel.symm) (sx_back (hl.trans hel) hpl p s2 q.1)
    · exact kk _ _ _ _ q.2 (by rw [backs_length]; exact hel.symm) (sx_back (hl.trans hel) hpl p s' q.1)
  exact ⟨t, h1, h2 L (inG N es) _ (L2.start N vs) H _ _ (sx_start hl (by omega) sp) (fun _ _ => rfl) C (h3 es P r)⟩
end
/-! ### calls -/
@[simp] def aCall (ρ : AF) (α : AA) : AE := fun Γ P => α Γ fun es Γ1 => ρ es fun r _ => P r Γ1
section
variable {X : Cx} {k : Nat} {f : Addr} {fd : FuncData} {ps : List Str} {ρ : AF} {x : Str} {p pos : Pos} {e : Expr} {es : List Expr} {t : TA} {α : AA}
theorem ax_call (F : FnOk X.prog X.w X.K X.mg X.base CX0 k f fd ps (spE ρ)) (hr : Room k X.A) (hg : Gl X x) (hm : X.mg x = some (.ref f)) (hk : PySem.W.keepIn X.K (.ref f) = true) (hb : Binds X.K fd ps []) (ha : AXA X (e :: es) t α)
    (hdb : (x == ("__debug__" : Str)) = false := by decide) (he : starEach (e :: es) X.env = (false, eval e X.env) :: starEach es X.env := by rfl) (hpl : (backTo pos (starEach es X.env)).any (·.1) = false := by rfl) :
    AX X (.Call (.Name x p) (e :: es) [] pos) (tCall (spE ρ) [] E0 t) (aCall ρ α) := ⟨pe_call F hr hg hm hk hb .nil pass0 ha.pe hdb he hpl, fun T Γ σ H Q P s q kk => ha.snd T Γ σ H _ _ s q fun rs Γ1 vs H1 q1 hl s1 => by
  rw [List.append_nil]
  refine ⟨T ++ σ.zip Γ1, rs, _, hl, s1.sep2, q1, fun r es' v H' q2 hl2 s2 => kk _ _ _ _ q2 ⟨s1.1, ?_⟩⟩
  exact (s2.perm ((perm_mid [_] (vz vs es') (T ++ σ.zip Γ1)))).right⟩
end
end PL
set_option maxRecDepth 100000
set_option maxHeartbeats 1000000
namespace PL
open PySem PySem.Spec PyProof.Rows L2 StX
/-! ### a def that stands -/
def Fx (P : Program) (w : World) (K : PySem.W.Frag) (mg : Str → Option Value) (base : Heap) (k : Nat) (x : Str) (ps : List Str) (ρ : AF) : Prop := ∃ f fd, FnOk P w K mg base CX0 k f fd ps (spE ρ) ∧ mg x = some (.ref f) ∧ PySem.W.keepIn K (.ref f) = true ∧ L2.Binds K fd ps []
theorem Fx.mono {P : Program} {w : World} {K : PySem.W.Frag} {mg : Str → Option Value} {base : Heap} {j k : Nat} {x : Str} {ps : List Str} {ρ : AF} (F : Fx P w K mg base j x ps ρ) (h : j ≤ k) : Fx P w K mg base k x ps ρ :=
  let ⟨f, fd, h1, h2⟩ := F
  ⟨f, fd, h1.mono h, h2⟩
/-- where a def stands -/
structure At (K : PySem.W.Frag) (mg : Str → Option Value) (x qual : Str) (st : Stmt) (f : Addr) (fd : FuncData) : Prop where
  fn : Fun K x qual st f fd
  mg : mg x = some (.ref f)
section
variable {X : Cx} {k : Nat} {ps : List Str} {ρ : AF} {x : Str} {p pos : Pos} {e : Expr} {es : List Expr} {t : TA} {α : AA}
theorem ax_fn (F : Fx X.prog X.w X.K X.mg X.base k x ps ρ) (hr : Room k X.A) (hg : Gl X x) (ha : AXA X (e :: es) t α)
    (hdb : (x == ("__debug__" : Str)) = false := by decide) (he : starEach (e :: es) X.env = (false, eval e X.env) :: starEach es X.env := by rfl) (hpl : (backTo pos (starEach es X.env)).any (·.1) = false := by rfl) :
    AX X (.Call (.Name x p) (e :: es) [] pos) (tCall (spE ρ) [] E0 t) (aCall ρ α) :=
  let ⟨f, fd, h1, h2, h3, h4⟩ := F
  ax_call h1 hr hg h2 h3 h4 ha hdb he hpl
end
/-! ### the built-in names of the module -/
structure Bl (mg : Str → Option Value) : Prop where
  isinstance : mg "isinstance" = none
  int : mg "int" = none
  bool : mg "bool" = none
  str : mg "str" = none
  list : mg "list" = none
  tuple : mg "tuple" = none
  dict : mg "dict" = none
  len : mg "len" = none
  range : mg "range" = none
  enumerate : mg "enumerate" = none
  zip : mg "zip" = none
  all : mg "all" = none
  any : mg "any" = none
  max : mg "max" = none
  min : mg "min" = none
  abs : mg "abs" = none
  sorted : mg "sorted" = none
  repr : mg "repr" = none
  tIME : ∃ t, mg "MOST_TIME" = some (.int (10 ^ 9) t)
  eVENTS : ∃ t, mg "MOST_EVENTS_values" = some (.int 400 t)
  lATE : ∃ t, mg "MOST_LATE" = some (.int (10 ^ 9) t)
  eIGHT : ∃ t, mg "MOST_EVENTS_halves" = some (.int 8 t)
  sIGNS : ∃ t, mg "SIGNS" = some (.str "abcdefghijklmnopqrstuvwxyz0123456789" t)
  tAP : ∃ t, mg "TAP" = some (.str "tap" t)
  hOLD : ∃ t, mg "HOLD" = some (.str "hold" t)
end PL
set_option maxRecDepth 100000
set_option maxHeartbeats 1000000
namespace PL
open PySem PySem.Spec PyProof.Rows L2 StX
instance : Nonempty V := ⟨.non⟩
/-! ### dicts as data -/
section
@[simp] def keyOf : PyData → Option Key
  | .int i => some (.inl i)
  | .str s => some (.inr s)
  | _ => none
def dHas (kvs : List (Key × PyData)) (k : Key) : Bool := kvs.any fun p => decide (p.1 = k)
def dGet (kvs : List (Key × PyData)) (k : Key) : Option PyData := (kvs.find? fun p => decide (p.1 = k)).map (·.2)
def dPut (kvs : List (Key × PyData)) (k : Key) (d : PyData) : List (Key × PyData) := if dHas kvs k = true then kvs.map (fun p => if p.1 = k then (p.1, d) else p) else kvs ++ [(k, d)]
def dDel (kvs : List (Key × PyData)) (k : Key) : List (Key × PyData) := kvs.filter fun p => decide (p.1 ≠ k)
theorem KvR.len {Hs : Hp} : ∀ {ks : List (Key × V)} {kvs : List (Key × PyData)}, KvR Hs ks kvs → ks.length = kvs.length
  | _, [], h => by rw [show _ = [] from h]; rfl
  | _, (_, _) :: _, ⟨v, rs, e, _, t⟩ => by rw [e, List.length_cons, List.length_cons, KvR.len t]
theorem KvR.has {Hs : Hp} {k : Key} : ∀ {ks : List (Key × V)} {kvs : List (Key × PyData)}, KvR Hs ks kvs → (ks.any fun p => decide (p.1 = k)) = dHas kvs k
  | _, [], h => by rw [show _ = [] from h]; rfl
  | _, (_, _) :: _, ⟨v, rs, e, _, t⟩ => by
    have q := KvR.has (k := k) t
    unfold dHas at q ⊢
    rw [e, List.any_cons, List.any_cons, q]
theorem KvR.isSome {Hs : Hp} {k : Key} {ks : List (Key × V)} {kvs : List (Key × PyData)} (h : KvR Hs ks kvs) : (valV ks k).isSome = dHas kvs k := by
  rw [← valV_any, h.has]
theorem KvR.get {Hs : Hp} {k : Key} : ∀ {ks : List (Key × V)} {kvs : List (Key × PyData)} {d : PyData}, KvR Hs ks kvs → dGet kvs k = some d → ∃ v, valV ks k = some v ∧ Dt Hs v d
  | _, [], _, _, e => by cases e
  | _, (k', d') :: r, d, ⟨v, rs, e, h, t⟩, g => by
    subst e
    by_cases q : k' = k
    · subst q
      have e2 : dGet ((k', d') :: r) k' = some d' := by simp [dGet]
      rw [e2] at g
      cases g
      exact ⟨v, valV_pos rfl, h⟩
    · have e2 : dGet ((k', d') :: r) k = dGet r k := by simp [dGet, q]
      rw [e2] at g
      obtain ⟨w, h1, h2⟩ := KvR.get t g
      exact ⟨w, by rw [valV_neg q]; exact h1, h2⟩
theorem KvR.app {Hs : Hp} {k : Key} {v : V} {d : PyData} (hd : Dt Hs v d) : ∀ {ks : List (Key × V)} {kvs : List (Key × PyData)}, KvR Hs ks kvs → KvR Hs (ks ++ [(k, v)]) (kvs ++ [(k, d)])
  | _, [], h => by
    rw [show _ = [] from h]
    exact ⟨v, [], rfl, hd, rfl⟩
  | _, (_, _) :: _, ⟨w, rs, e, h, t⟩ => ⟨w, rs ++ [(k, v)], by rw [e]; rfl, h, KvR.app hd t⟩
theorem KvR.map {Hs : Hp} {k : Key} {v : V} {d : PyData} (hd : Dt Hs v d) : ∀ {ks : List (Key × V)} {kvs : List (Key × PyData)}, KvR Hs ks kvs → KvR Hs (ks.map fun p => if p.1 = k then (p.1, v) else p) (kvs.map fun p => if p.1 = k then (p.1, d) else p)
  | _, [], h => by
    rw [show _ = [] from h]
    rfl
  | _, (k', d') :: _, ⟨w, rs, e, h, t⟩ => by
    subst e
    rw [List.map_cons, List.map_cons]
    by_cases q : k' = k
    · rw [if_pos q, if_pos q]
      exact ⟨v, _, rfl, hd, KvR.map hd t⟩
    · rw [if_neg q, if_neg q]
      exact ⟨w, _, rfl, h, KvR.map hd t⟩
theorem KvR.put {Hs : Hp} {k : Key} {v : V} {d : PyData} (hd : Dt Hs v d) {ks : List (Key × V)} {kvs : List (Key × PyData)} (h : KvR Hs ks kvs) : KvR Hs (putK ks k v) (dPut kvs k d) := by
  unfold putK dPut
  rw [h.has]
  split
  · exact h.map hd
  · exact h.app hd
theorem KvR.del {Hs : Hp} {k : Key} : ∀ {ks : List (Key × V)} {kvs : List (Key × PyData)}, KvR Hs ks kvs → KvR Hs (dropK ks k) (dDel kvs k)
  | _, [], h => by
    rw [show _ = [] from h]
    rfl
  | _, (k', d') :: _, ⟨w, rs, e, h, t⟩ => by
    subst e
    have q := KvR.del (k := k) t
    unfold dropK dDel at q ⊢
    rw [List.filter_cons, List.filter_cons]
    by_cases z : k' = k
    · rw [if_neg (by simp [z]), if_neg (by simp [z])]
      exact q
    · rw [if_pos (by simp [z]), if_pos (by simp [z])]
      exact ⟨w, _, rfl, h, q⟩
end
theorem enR_dct {Hs H : Hp} {o : Option V} {kvs : List (Key × PyData)} {F : List Addr} : EnR Hs H o (.dct kvs) F ↔ ∃ p ks, o = some (.ref p) ∧ H p = some (.dK ks) ∧ KvR Hs ks kvs ∧ F = [p] := by rw [EnR]
theorem Sep.dctGet {H : Hp} {o : Option V} {kvs : List (Key × PyData)} {M : Ls} (s : Sep H ((o, .dct kvs) :: M)) : ∃ p ks, o = some (.ref p) ∧ H p = some (.dK ks) ∧ ks.length = kvs.length ∧ (∀ k, (valV ks k).isSome = dHas kvs k) ∧
    (∀ k d, dGet kvs k = some d → ∃ v, valV ks k = some v ∧ Sep H ((some v, .sh d) :: (o, .dct kvs) :: M)) := by
  obtain ⟨Hs, F, x, ⟨F1, F2, e, q, r2⟩, nd, fr⟩ := s
  obtain ⟨p, ks, eo, hp, kv, eF⟩ := enR_dct.mp q
  refine ⟨p, ks, eo, hp, kv.len, fun k => kv.isSome, fun k d hd => ?_⟩
  obtain ⟨v, h1, h2⟩ := kv.get hd
  exact ⟨v, h1, Hs, F, x, ⟨[], F, rfl, ⟨rfl, v, rfl, h2⟩, F1, F2, e, q, r2⟩, nd, fr⟩
theorem EnsR.setAt {Hs H : Hp} {L : Ls} {F G : List Addr} {n : Nat} {x : Option V × En} (r : EnsR Hs H L F) (q : EnR Hs H x.1 x.2 G) (hn : n < L.length) : ∃ F', (∀ a ∈ F', a ∈ F ++ G) ∧ ((F ++ G).Nodup → F'.Nodup) ∧ EnsR Hs H (L.set n x) F' := by
  obtain ⟨G0, p1, F1, F2, e1, _, r2⟩ := r.perm (perm_at (List.getElem?_eq_getElem hn))
  have r3 : EnsR Hs H (x :: L.eraseIdx n) (G ++ F2) := ⟨G, F2, rfl, q, r2⟩
  obtain ⟨G3, p3, r6⟩ := r3.perm (perm_set x hn).symm
  subst e1
  have sub : (G ++ F2).Sublist (G ++ (F1 ++ F2)) := (List.Sublist.refl _).append (List.sublist_append_right _ _)
  have pm : (F ++ G).Perm (G ++ (F1 ++ F2)) := (p1.append_right G).trans List.perm_append_comm
  exact ⟨G3, fun a ha => pm.mem_iff.mpr (sub.subset (p3.mem_iff.mpr ha)), fun nd => p3.nodup_iff.mp ((pm.nodup_iff.mp nd).sublist sub), r6⟩
/-- an owned thing at one address is rewritten -/
theorem Sep.rew {H : Hp} {p : Addr} {e e' : En} {u : HO} {N M : Ls} (s : Sep H ((some (.ref p), e) :: (N ++ M))) (hp : H p ≠ none)
    (h : ∀ (Hs : Hp) (F1 F2 : List Addr), EnR Hs H (some (.ref p)) e F1 → EnsR Hs H N F2 → ∃ G1 G2, F1 = p :: G1 ∧ (∀ a ∈ G2, a ∈ G1 ++ F2) ∧ ((G1 ++ F2).Nodup → G2.Nodup) ∧ ∀ H' : Hp, H' p = some u → (∀ a, a ≠ p → H' a = H a) → p ∉ G2 → EnR Hs H' (some (.ref p)) e' (p :: G2)) : Sep (upd H p u) ((some (.ref p), e') :: M) := by
  obtain ⟨Hs, F, x, ⟨F1, F2, eF, q, r⟩, nd, fr⟩ := s
  obtain ⟨F3, F4, e4, r3, r4⟩ := r.split
  obtain ⟨G1, G2, e1, sb, nd', kk⟩ := h Hs F1 F3 q r3
  subst eF e4 e1
  obtain ⟨nd1, nd2⟩ := List.nodup_cons.mp (show (p :: (G1 ++ (F3 ++ F4))).Nodup from nd)
  have np : Hs p = none := fr p (by simp)
  have nd3 : ((G1 ++ F3) ++ F4).Nodup := by
    rw [List.append_assoc]
    exact nd2
  obtain ⟨na, nb, nc⟩ := List.nodup_append.mp nd3
  have sb2 : ∀ a ∈ G2 ++ F4, a ∈ G1 ++ (F3 ++ F4) := fun a ha => by
    rw [← List.append_assoc]
    rcases List.mem_append.mp ha with q | q
    · exact List.mem_append_left _ (sb a q)
    · exact List.mem_append_right _ q
  have pG : p ∉ G2 := fun z => nd1 (sb2 p (List.mem_append_left _ z))
  have n4 : ∀ a ∈ F4, a ≠ p := fun a ha z => by
    subst z
    exact nd1 (sb2 a (List.mem_append_right _ ha))
  refine ⟨Hs, (p :: G2) ++ F4, x.updOut np, ⟨p :: G2, F4, rfl, kk _ upd_same (fun a z => upd_ne z) pG, r4.mono Ex.rfl fun a ha => upd_ne (n4 a ha)⟩, ?_, fun a ha => ?_⟩
  · rw [List.cons_append]
    exact List.nodup_cons.mpr ⟨fun z => nd1 (sb2 p z), List.nodup_append.mpr ⟨nd' na, nb, fun a ha b hb => nc a (sb a ha) b hb⟩⟩
  · rw [List.cons_append] at ha
    rcases List.mem_cons.mp ha with z | z
    · rw [z]
      exact np
    · exact fr a (List.mem_cons_of_mem _ (sb2 a z))
theorem Sep.dctPut {H : Hp} {p : Addr} {kvs : List (Key × PyData)} {ks : List (Key × V)} {k : Key} {v : V} {d : PyData} {M : Ls} (s : Sep H ((some (.ref p), .dct kvs) :: (some v, .sh d) :: M)) (hp : H p = some (.dK ks)) :
    Sep (upd H p (.dK (putK ks k v))) ((some (.ref p), .dct (dPut kvs k d)) :: M) := by
  refine Sep.rew (N := [(some v, .sh d)]) s (by rw [hp]; exact fun z => nomatch z) fun Hs F1 F2 q ⟨F3, F4, e3, ⟨e4, w, ew, hd⟩, e5⟩ => ?_
  cases ew
  obtain ⟨p', ks', eo, hp', kv, eF⟩ := enR_dct.mp q
  cases eo
  rw [hp] at hp'
  cases hp'
  exact ⟨[], [], eF, (fun _ z => nomatch z), (fun _ => List.nodup_nil), fun H' h1 _ _ => enR_dct.mpr ⟨p, _, rfl, h1, kv.put hd, rfl⟩⟩
theorem Sep.dctDel {H : Hp} {p : Addr} {kvs : List (Key × PyData)} {ks : List (Key × V)} {k : Key} {M : Ls} (s : Sep H ((some (.ref p), .dct kvs) :: M)) (hp : H p = some (.dK ks)) :
    Sep (upd H p (.dK (dropK ks k))) ((some (.ref p), .dct (dDel kvs k)) :: M) := by
  refine Sep.rew (N := []) s (by rw [hp]; exact fun z => nomatch z) fun Hs F1 F2 q _ => ?_
  obtain ⟨p', ks', eo, hp', kv, eF⟩ := enR_dct.mp q
  cases eo
  rw [hp] at hp'
  cases hp'
  exact ⟨[], [], eF, (fun _ z => nomatch z), (fun _ => List.nodup_nil), fun H' h1 _ _ => enR_dct.mpr ⟨p, _, rfl, h1, kv.del, rfl⟩⟩
theorem Sep.newDct {H : Hp} {q : Addr} {M : Ls} {o : Option V} {kvs : List (Key × PyData)} {p : Addr} {ks : List (Key × V)} (s : Sep H ((o, .dct kvs) :: M)) (eo : o = some (.ref p)) (hp : H p = some (.dK ks)) (n : H q = none) : Sep (upd H q (.dK ks)) ((some (.ref q), .dct kvs) :: (o, .dct kvs) :: M) := by
  obtain ⟨Hs, F, x, ⟨F1, F2, e, z, r2⟩, nd, fr⟩ := s
  obtain ⟨p', ks', eo', hp', kv, eF⟩ := enR_dct.mp z
  rw [eo] at eo'
  cases eo'
  rw [hp] at hp'
  cases hp'
  have rr : EnsR Hs H ((o, .dct kvs) :: M) F := ⟨F1, F2, e, z, r2⟩
  have n1 := rr.ne n
  refine ⟨Hs, q :: F, x.updOut (x.back n), ⟨[q], F, rfl, enR_dct.mpr ⟨q, ks, rfl, upd_same, kv, rfl⟩, rr.mono Ex.rfl fun a ha => upd_ne (n1 a ha)⟩, List.nodup_cons.mpr ⟨fun h => n1 q h rfl, nd⟩, fun a ha => ?_⟩
  rcases List.mem_cons.mp ha with z | z
  · rw [z]
    exact x.back n
  · exact fr a z
theorem Sep.newDct0 {H : Hp} {q : Addr} {M : Ls} (s : Sep H M) (n : H q = none) : Sep (upd H q (.dK [])) ((some (.ref q), .dct []) :: M) := by
  obtain ⟨Hs, F, x, rr, nd, fr⟩ := s
  have n1 := rr.ne n
  refine ⟨Hs, q :: F, x.updOut (x.back n), ⟨[q], F, rfl, enR_dct.mpr ⟨q, [], rfl, upd_same, rfl, rfl⟩, rr.mono Ex.rfl fun a ha => upd_ne (n1 a ha)⟩, List.nodup_cons.mpr ⟨fun h => n1 q h rfl, nd⟩, fun a ha => ?_⟩
  rcases List.mem_cons.mp ha with z | z
  · rw [z]
    exact x.back n
  · exact fr a z
@[simp] def aDNew : AE := fun Γ P => P (.dct []) Γ
theorem ax_dnew {X : Cx} {pos : Pos} : AX X (.Dict [] [] pos) tDNewK aDNew := ⟨pe_dnewK, fun T Γ σ H Q P s p k q nq => k _ _ _ _ p ⟨s.1, Sep.newDct0 s.2 nq⟩⟩
/-! ### places: a slot, a field of the object in a slot -/
structure Pl (t : TE) (get : Ga → Option En) (put : Ga → En → Ga) : Prop where
  move : ∀ {T : Ls} {Γ : Ga} {σ : L2.St} {H : Hp} {e : En}, Sx T Γ σ H → get Γ = some e → hv e = true → ∃ v, (∀ Q : VK, Q v H → t σ H Q) ∧ Sx ((some v, e) :: T) (put Γ (.al v)) σ H
  back : ∀ {T : Ls} {Γ : Ga} {σ : L2.St} {H : Hp} {v : V} {e : En}, get Γ = some (.al v) → Sx ((some v, e) :: T) Γ σ H → Sx T (put Γ e) σ H
  pg : ∀ {Γ : Ga} {e a : En}, get Γ = some e → get (put Γ a) = some a
  pp : ∀ {Γ : Ga} {e a : En}, get Γ = some e → put (put Γ a) e = Γ
  pq : ∀ {Γ : Ga} {e a b : En}, get Γ = some e → put (put Γ a) b = put Γ b
@[simp] def slG (i : Nat) (Γ : Ga) : Option En := Γ[i]?
@[simp] def slP (i : Nat) (Γ : Ga) (e : En) : Ga := Γ.set i e
theorem Sx.backAl {T : Ls} {Γ : Ga} {σ : L2.St} {H : Hp} {i : Nat} {v : V} {e : En} (h : Γ[i]? = some (.al v)) (s : Sx ((some v, e) :: T) Γ σ H) : Sx T (Γ.set i e) σ H := by
  obtain ⟨o, h1, h2⟩ := zip_at s.1 h
  have e1 : o = some v := by
    obtain ⟨w, q, _, s2⟩ := s.move h rfl
    have s3 := s.2.perm (perm_at (i := ((some v, e) :: T).length + i) (by rw [app_at]; exact h2))
    obtain ⟨Hs, F, x, ⟨F1, F2, e, r, r2⟩, nd, fr⟩ := s3
    exact (enR_al.mp r).2
  subst e1
  exact s.back h1
theorem pl_slot (i : Nat) : Pl (tVar i) (slG i) (slP i) where
  move := fun s h he => let ⟨v, h1, _, s2⟩ := s.move h he; ⟨v, fun Q q => ⟨v, h1, q⟩, s2⟩
  back := fun h s => Sx.backAl h s
  pg := fun {Γ e a} h => by
    have hi := (List.getElem?_eq_some_iff.mp (show Γ[i]? = some e from h)).1
    show (Γ.set i a)[i]? = some a
    rw [List.getElem?_set_self hi]
  pp := fun {Γ e a} h => by
    show (Γ.set i a).set i e = Γ
    rw [List.set_set]
    obtain ⟨hi, q⟩ := List.getElem?_eq_some_iff.mp (show Γ[i]? = some e from h)
    rw [← q, List.set_getElem_self]
  pq := fun {Γ e a b} _ => by
    show (Γ.set i a).set i b = Γ.set i b
    rw [List.set_set]
/-- what stands there is shared data -/
@[simp] def aGet (get : Ga → Option En) : AE := fun Γ P => ∃ d, get Γ = some (.sh d) ∧ P (.sh d) Γ
theorem Pl.snd {t : TE} {get : Ga → Option En} {put : Ga → En → Ga} (p : Pl t get put) : Snd t (aGet get) := fun T Γ σ H Q P s ⟨d, h, q⟩ k => by
  obtain ⟨v, h1, s1⟩ := p.move s h rfl
  have s2 : Sx ((some v, .sh d) :: (some v, .sh d) :: T) (put Γ (.al v)) σ H := ⟨s1.1, Sep.dup s1.2⟩
  have s3 := p.back (p.pg h) s2
  rw [p.pp h] at s3
  exact h1 Q (k _ _ _ _ q s3)
/-- what stands there is changed on the spot -/
theorem Pl.mod {t : TE} {get : Ga → Option En} {put : Ga → En → Ga} (p : Pl t get put) {T : Ls} {Γ : Ga} {σ : L2.St} {H : Hp} {e : En} (s : Sx T Γ σ H) (h : get Γ = some e) (he : hv e = true) :
    ∃ v M, (∀ Q : VK, Q v H → t σ H Q) ∧ Sep H ((some v, e) :: M) ∧ (∀ H' e' , Sep H' ((some v, e') :: M) → Sx T (put Γ e') σ H') ∧ (∀ H' e' x, Sep H' (x :: (some v, e') :: M) → Sx (x :: T) (put Γ e') σ H') := by
  obtain ⟨v, h1, s1⟩ := p.move s h he
  refine ⟨v, T ++ σ.zip (put Γ (.al v)), h1, s1.2, fun H' e' s2 => ?_, fun H' e' x s2 => ?_⟩
  · have s3 := p.back (e := e') (p.pg h) (⟨s1.1, s2⟩ : Sx ((some v, e') :: T) (put Γ (.al v)) σ H')
    rw [p.pq h] at s3
    exact s3
  · have s3 := p.back (e := e') (T := x :: T) (p.pg h) (⟨s1.1, Sep.swap s2⟩ : Sx ((some v, e') :: x :: T) (put Γ (.al v)) σ H')
    rw [p.pq h] at s3
    exact s3
end PL
set_option maxRecDepth 100000
set_option maxHeartbeats 1000000
namespace PL
open PySem PySem.Spec PyProof.Rows L2 StX
/-! ### dicts at places -/
section
variable {X : Cx} {np : List Nat} {o i e : Expr} {pos pos' tpos apos cpos : Pos} {td ty tv : TE} {get : Ga → Option En} {put : Ga → En → Ga} {υ τ : AE}
theorem kV_of {H : Hp} {v : V} {d : PyData} {k : Key} (h : Dt H v d) (e : keyOf d = some k) : v = kV k := by
  cases h <;> simp at e <;> subst e <;> rfl
@[simp] def aDIn (neg : Bool) (get : Ga → Option En) (υ : AE) : AE := fun Γ P => υ Γ fun r Γ1 => ∃ d k kvs, r = .sh d ∧ keyOf d = some k ∧ get Γ1 = some (.dct kvs) ∧ P (.sh (.bool (if neg then !dHas kvs k else dHas kvs k))) Γ1
theorem snd_din (p : Pl td get put) (hy : Snd ty υ) : Snd (tDIn ty td) (aDIn false get υ) := fun T Γ σ H Q P s q k => hy T Γ σ H _ _ s q fun r Γ1 y H1 ⟨d, kk, kvs, er, ek, hg, q1⟩ s1 => by
  subst er
  obtain ⟨w, ew, dt⟩ := Sep.val s1.2
  cases ew
  have ey := kV_of dt ek
  subst ey
  obtain ⟨v, M, h1, s2, s3, s4⟩ := p.mod s1.pop hg rfl
  obtain ⟨a, ks, ea, ha, hl, hs, _⟩ := s2.dctGet
  cases ea
  refine h1 _ ⟨a, _, rfl, DGet.k ha, ?_⟩
  rw [hs kk]
  exact k _ _ _ _ q1 ⟨s1.1, Sep.shc s1.pop.2 fun _ => .bl _⟩
theorem snd_dnotin (p : Pl td get put) (hy : Snd ty υ) : Snd (tDNotIn ty td) (aDIn true get υ) := fun T Γ σ H Q P s q k => hy T Γ σ H _ _ s q fun r Γ1 y H1 ⟨d, kk, kvs, er, ek, hg, q1⟩ s1 => by
  subst er
  obtain ⟨w, ew, dt⟩ := Sep.val s1.2
  cases ew
  have ey := kV_of dt ek
  subst ey
  obtain ⟨v, M, h1, s2, s3, s4⟩ := p.mod s1.pop hg rfl
  obtain ⟨a, ks, ea, ha, hl, hs, _⟩ := s2.dctGet
  cases ea
  refine h1 _ ⟨a, _, rfl, DGet.k ha, ?_⟩
  rw [hs kk]
  exact k _ _ _ _ q1 ⟨s1.1, Sep.shc s1.pop.2 fun _ => .bl _⟩
theorem ax_din (hu : X.A.units + 64 < cLine) (hi : AX X i ty υ) (ho : PE X o td) (p : Pl td get put) (hm : behindInMarks .In o = false := by rfl) : AX X (.Compare i [.In] [o] pos) (tDIn ty td) (aDIn false get υ) := ⟨pe_cmp (pc_din (by omega) hi.pe ho) hm, snd_din p hi.snd⟩
theorem at_din (hu : X.A.units + 64 < cLine) (hi : AX X i ty υ) (ho : PE X o td) (p : Pl td get put) (hm : behindInMarks .In o = false := by rfl) : AXT X (.Compare i [.In] [o] pos) (tB (tDIn ty td)) (aTest (aDIn false get υ)) := ⟨pt_cmp (pc_din (by omega) hi.pe ho) hm, snd_test (snd_din p hi.snd)⟩
theorem at_dnotin (hu : X.A.units + 64 < cLine) (hi : AX X i ty υ) (ho : PE X o td) (p : Pl td get put) (hm : behindInMarks .NotIn o = false := by rfl) : AXT X (.Compare i [.NotIn] [o] pos) (tB (tDNotIn ty td)) (aTest (aDIn true get υ)) := ⟨pt_cmp (pc_dnotin (by omega) hi.pe ho) hm, snd_test (snd_dnotin p hi.snd)⟩
/-- d[k] -/
@[simp] def aDGet (get : Ga → Option En) (put : Ga → En → Ga) (υ : AE) : AE := fun Γ P => ∃ kvs, get Γ = some (.dct kvs) ∧ ∀ v, υ (put Γ (.al v)) fun r Γ1 => ∃ d k x, r = .sh d ∧ keyOf d = some k ∧ get Γ1 = some (.al v) ∧ dGet kvs k = some x ∧ P (.sh x) (put Γ1 (.dct kvs))
theorem ax_dget (hu : X.A.units + 64 < cLine) (ho : PE X o td) (p : Pl td get put) (hi : AX X i ty υ) (hs : NoSl i := by intro _ _; rfl) : AX X (.Subscript o i pos) (tDGet td ty) (aDGet get put υ) := ⟨pe_dget (by omega) ho hi.pe hs, fun T Γ σ H Q P s ⟨kvs, hg, q⟩ k => by
  obtain ⟨v, h1, s1⟩ := p.move s hg rfl
  refine h1 _ (hi.snd _ _ σ H _ _ s1 (q v) fun r Γ1 y H1 ⟨d, kk, x, er, ek, hg1, hx, q1⟩ s2 => ?_)
  subst er
  obtain ⟨w, ew, dt⟩ := Sep.val s2.2
  cases ew
  have ey := kV_of dt ek
  subst ey
  obtain ⟨a, ks, ea, ha, hl, hs, hgt⟩ := Sep.dctGet s2.pop.2
  cases ea
  obtain ⟨u, hu1, s3⟩ := hgt kk x hx
  refine ⟨a, u, rfl, ?_, k _ _ _ _ q1 (p.back hg1 (⟨s2.1, s3.swap⟩ : Sx ((some (.ref a), .dct kvs) :: (some u, .sh x) :: T) Γ1 σ H1))⟩
  rw [← hu1]
  exact DGet.k ha⟩
/-- d[k] = v -/
@[simp] def sDPutA (get : Ga → Option En) (put : Ga → En → Ga) (τ υ : AE) : AS := fun Δ Γ => τ Γ fun r Γ1 => ∃ x kvs, r = .sh x ∧ get Γ1 = some (.dct kvs) ∧ kvs.length < sizeLine ∧ ∀ v, υ (put Γ1 (.al v)) fun q Γ2 => ∃ d k, q = .sh d ∧ keyOf d = some k ∧ get Γ2 = some (.al v) ∧ Δ.nx (put Γ2 (.dct (dPut kvs k x)))
theorem as_dput (hu : X.A.units + 64 < cLine) (ho : PE X o td) (p : Pl td get put) (hi : AX X i ty υ) (hv : AX X e tv τ) (hs : swapsWith e (some (.Subscript o i pos')) pos.line X.env = pure false := by rfl) : AXS X np (.Assign [.Subscript o i pos'] e pos) (sDPutA get put τ υ) :=
  ⟨_, ps_dput (by omega) ho hi.pe hv.pe hs, fun T Γ σ σ0 H D Δ s pn k q => hv.snd T Γ σ H _ _ s q fun r Γ1 y H1 ⟨x, kvs, er, hg, hz, q1⟩ s1 => by
    subst er
    obtain ⟨v, h1, s2⟩ := p.move s1 hg rfl
    refine h1 _ (hi.snd _ _ σ H1 _ _ s2 (q1 v) fun q Γ2 z H2 ⟨d, kk, eq, ek, hg2, q2⟩ s3 => ?_)
    subst eq
    obtain ⟨w, ew, dt⟩ := Sep.val s3.2
    cases ew
    have ez := kV_of dt ek
    subst ez
    obtain ⟨a, ks, ea, ha, hl, _, _⟩ := Sep.dctGet s3.pop.2
    cases ea
    have s4 := Sep.dctPut (k := kk) (M := T ++ σ.zip Γ2) s3.pop.2 ha
    exact ⟨a, _, rfl, DPut.k ha (by rw [hl]; exact hz), k.nx _ _ _ q2 (p.back hg2 (⟨s3.1, s4⟩ : Sx ((some (.ref a), .dct (dPut kvs kk x)) :: T) Γ2 σ _)) pn⟩⟩
/-- del d[k] -/
@[simp] def sDDelA (get : Ga → Option En) (put : Ga → En → Ga) (υ : AE) : AS := fun Δ Γ => ∃ kvs, get Γ = some (.dct kvs) ∧ ∀ v, υ (put Γ (.al v)) fun q Γ2 => ∃ d k, q = .sh d ∧ keyOf d = some k ∧ get Γ2 = some (.al v) ∧ dHas kvs k = true ∧ Δ.nx (put Γ2 (.dct (dDel kvs k)))
theorem as_ddel (ho : PE X o td) (p : Pl td get put) (hi : AX X i ty υ) : AXS X np (.Delete [.Subscript o i tpos] pos) (sDDelA get put υ) :=
  ⟨_, ps_ddel ho hi.pe, fun T Γ σ σ0 H D Δ s pn k ⟨kvs, hg, q1⟩ => by
    obtain ⟨v, h1, s2⟩ := p.move s hg rfl
    refine h1 _ (hi.snd _ _ σ H _ _ s2 (q1 v) fun q Γ2 z H2 ⟨d, kk, eq, ek, hg2, hh, q2⟩ s3 => ?_)
    subst eq
    obtain ⟨w, ew, dt⟩ := Sep.val s3.2
    cases ew
    have ez := kV_of dt ek
    subst ez
    obtain ⟨a, ks, ea, ha, hl, hs, _⟩ := Sep.dctGet s3.pop.2
    cases ea
    have s4 := Sep.dctDel (k := kk) s3.pop.2 ha
    exact ⟨a, ks, kk, rfl, ha, rfl, by rw [hs kk]; exact hh, k.nx _ _ _ q2 (p.back hg2 (⟨s3.1, s4⟩ : Sx ((some (.ref a), .dct (dDel kvs kk)) :: T) Γ2 σ _)) pn⟩⟩
/-- d.pop(k), k is there -/
@[simp] def aDPop (get : Ga → Option En) (put : Ga → En → Ga) (υ : AE) : AE := fun Γ P => ∃ kvs, get Γ = some (.dct kvs) ∧ ∀ v, υ (put Γ (.al v)) fun q Γ2 => ∃ d k x, q = .sh d ∧ keyOf d = some k ∧ get Γ2 = some (.al v) ∧ dGet kvs k = some x ∧ P (.sh x) (put Γ2 (.dct (dDel kvs k)))
theorem ax_dpop (ho : PE X o td) (p : Pl td get put) (he : AX X e ty υ) (m : M1 X o "pop" apos e cpos) : AX X (.Call (.Attribute o "pop" apos) [e] [] cpos) (tDPop1 td ty) (aDPop get put υ) := ⟨pe_dpop1 ho he.pe m, fun T Γ σ H Q P s ⟨kvs, hg, q1⟩ k => by
    obtain ⟨v, h1, s2⟩ := p.move s hg rfl
    obtain ⟨a0, ks0, ea0, ha0, _, _, _⟩ := Sep.dctGet s2.2
    cases ea0
    refine h1 _ ⟨a0, rfl, Or.inl ⟨ks0, Or.inl ha0⟩, he.snd _ _ σ H _ _ s2 (q1 _) fun q Γ2 z H2 ⟨d, kk, x, eq, ek, hg2, hx, q2⟩ s3 => ?_⟩
    subst eq
    obtain ⟨w, ew, dt⟩ := Sep.val s3.2
    cases ew
    have ez := kV_of dt ek
    subst ez
    obtain ⟨a, ks, ea, ha, hl, hs, hgt⟩ := Sep.dctGet s3.pop.2
    cases ea
    obtain ⟨u, hu1, s4⟩ := hgt kk x hx
    have s5 := Sep.dctDel (k := kk) s4.swap ha
    exact ⟨ks, kk, u, ha, rfl, hu1, k _ _ _ _ q2 (p.back hg2 (⟨s3.1, s5⟩ : Sx ((some (.ref a0), .dct (dDel kvs kk)) :: (some u, .sh x) :: T) Γ2 σ _))⟩⟩
/-- dict(d) -/
@[simp] def aDCopy (get : Ga → Option En) : AE := fun Γ P => ∃ kvs, get Γ = some (.dct kvs) ∧ P (.dct kvs) Γ
theorem ax_dcopy {p1 : Pos} (hg : Gl X "dict") (hm : X.mg "dict" = none) (ho : PE X o td) (p : Pl td get put) (he : starEach [o] X.env = (false, eval o X.env) :: starEach [] X.env := by rfl) (hpl : (backTo pos (starEach [] X.env)).any (·.1) = false := by rfl) :
    AX X (.Call (.Name "dict" p1) [o] [] pos) (tCB (fun xs H Q => ∃ (a : Addr) (kvs : List (Key × V)), xs = [.ref a] ∧ Rd H a (.dK kvs) ∧ ∀ p, H p = none → Q (.ref p) (upd H p (.dK kvs))) (tCons td tNil)) (aDCopy get) :=
  ⟨pe_callTy call_dictD hg hm (by decide +kernel) (pa_cons ho pa_nil he) (by decide) (by decide) he hpl, fun T Γ σ H Q P s ⟨kvs, hg, q1⟩ k => by
    obtain ⟨v, M, h1, s2, s3, s4⟩ := p.mod s hg rfl
    obtain ⟨a, ks, ea, ha, _, _, _⟩ := s2.dctGet
    cases ea
    refine h1 _ ⟨a, ks, rfl, Or.inl ha, fun q nq => k _ _ _ _ q1 ?_⟩
    have s5 := s4 _ (.dct kvs) _ (Sep.newDct s2 rfl ha nq)
    have e : put Γ (.dct kvs) = Γ := by
      rw [← p.pq (a := .al .non) hg, p.pp hg]
    rw [e] at s5
    exact s5⟩
end
/-! ### lists at places -/
section
variable {X : Cx} {np : List Nat} {o i e : Expr} {pos pos' tpos apos cpos : Pos} {td ty tv : TE} {get : Ga → Option En} {put : Ga → En → Ga} {υ τ : AE}
@[simp] def sAppend (get : Ga → Option En) (put : Ga → En → Ga) (τ : AE) : AS := fun Δ Γ => ∃ es, get Γ = some (.lst es) ∧ ∀ v, τ (put Γ (.al v)) fun r Γ1 => get Γ1 = some (.al v) ∧ es.length < sizeLine ∧ Δ.nx (put Γ1 (.lst (es ++ [r])))
theorem lst_ty {K : PySem.W.Frag} {H : Hp} {p : Addr} {xs : List V} (h : H p = some (.lst xs)) : tyV K "list" (.ref p) H := Or.inl ⟨rfl, _, Or.inl (Or.inl h)⟩
theorem snd_append {K : PySem.W.Frag} {te : TE} (p : Pl td get put) (he : Snd te τ) {np : List Nat} : SndS np (tDrop (tBM K "list" rAppend td (tCons te tNil))) (sAppend get put τ) := fun T Γ σ σ0 H D Δ s pn k ⟨es, hg, q⟩ => by
  obtain ⟨v, h1, s1⟩ := p.move s hg rfl
  obtain ⟨a, xs, ea, ha, hl⟩ := Sep.lsGet s1.2
  cases ea
  refine h1 _ ⟨lst_ty ha, he _ _ σ H _ _ s1 (q _) fun r Γ1 y H1 ⟨hg1, hz, q1⟩ s2 => ?_⟩
  obtain ⟨xs2, h2, hl2, s3⟩ := app_ls s2.2
  exact ⟨a, xs2, y, rfl, rfl, h2, by rw [hl2]; exact hz, k.nx _ _ _ q1 (p.back hg1 (⟨s2.1, s3⟩ : Sx ((some (.ref a), .lst (es ++ [r])) :: T) Γ1 σ _)) pn⟩
@[simp] def sExtend (get : Ga → Option En) (put : Ga → En → Ga) (τ : AE) : AS := fun Δ Γ => ∃ es, get Γ = some (.lst es) ∧ ∀ v, τ (put Γ (.al v)) fun r Γ1 => get Γ1 = some (.al v) ∧ ∃ fs, (r = .lst fs ∨ ∃ ds, r = .sh (.list ds) ∧ fs = ds.map En.sh) ∧ es.length + fs.length ≤ sizeLine ∧ Δ.nx (put Γ1 (.lst (es ++ fs)))
theorem ext_ls {H : Hp} {D : Addr} {ys : List V} {fs es : List En} {M : Ls} (hl : ys.length = fs.length) (s : Sep H (vz ys fs ++ ((some (.ref D), .lst es) :: M))) : ∃ xs, H D = some (.lst xs) ∧ xs.length = es.length ∧ Sep (upd H D (.lst (xs ++ ys))) ((some (.ref D), .lst (es ++ fs)) :: M) := by
  have s1 := s.perm (perm_mid _ [_] _)
  obtain ⟨p, xs, ep, hp, hx⟩ := s1.lsGet
  cases ep
  refine ⟨xs, hp, hx, ?_⟩
  refine Sep.lsSet (N := vz ys fs) (es := es) (xs := xs) s1 hp (by simp [hx, hl]) fun Hs F rr => ⟨F, fun _ h => h, fun h => h, ?_⟩
  rw [vz_app hx]
  exact rr
theorem Sep.lsOpen {H : Hp} {o : Option V} {es : List En} {M : Ls} (s : Sep H ((o, .lst es) :: M)) : ∃ p xs, o = some (.ref p) ∧ H p = some (.lst xs) ∧ xs.length = es.length ∧ Sep H (vz xs es ++ M) := by
  obtain ⟨Hs, F, x, ⟨F1, F2, e, q, r2⟩, nd, fr⟩ := s
  obtain ⟨p, xs, G, ev, h, hl, r, e3⟩ := enR_lst.mp q
  subst e e3
  obtain ⟨nd1, nd2⟩ := List.nodup_cons.mp (show (p :: (G ++ F2)).Nodup from nd)
  exact ⟨p, xs, ev, h, hl, Hs, G ++ F2, x, r.app r2, nd2, fun a ha => fr a (List.mem_cons_of_mem _ ha)⟩
theorem snd_extend {K : PySem.W.Frag} {te : TE} (p : Pl td get put) (he : Snd te τ) {np : List Nat} : SndS np (tDrop (tBM K "list" rExtend td (tCons te tNil))) (sExtend get put τ) := fun T Γ σ σ0 H D Δ s pn k ⟨es, hg, q⟩ => by
  obtain ⟨v, h1, s1⟩ := p.move s hg rfl
  obtain ⟨a, xs, ea, ha, hl⟩ := Sep.lsGet s1.2
  cases ea
  refine h1 _ ⟨lst_ty ha, he _ _ σ H _ _ s1 (q _) fun r Γ1 y H1 ⟨hg1, fs, hr, hz, q1⟩ s2 => ?_⟩
  obtain ⟨b, ys, eb, hb, hlb, s3⟩ : ∃ b ys, y = .ref b ∧ H1 b = some (.lst ys) ∧ ys.length = fs.length ∧ Sep H1 (vz ys fs ++ ((some (.ref a), .lst es) :: (T ++ σ.zip Γ1))) := by
    rcases hr with hr | ⟨ds, hr, hf⟩
    · subst hr
      obtain ⟨b, ys, eb, hb, hlb, s3⟩ := Sep.lsOpen s2.2
      cases eb
      exact ⟨b, ys, rfl, hb, hlb, s3⟩
    · subst hr hf
      obtain ⟨b, ys, eb, hb, hlb, s3⟩ := Sep.lst s2.2
      cases eb
      exact ⟨b, ys, rfl, hb, by rw [List.length_map]; exact hlb, (s3.perm (perm_mid _ [_] _)).tail⟩
  obtain ⟨xs2, h2, hl2, s4⟩ := ext_ls hlb s3
  exact ⟨a, b, xs2, ys, rfl, by rw [eb], h2, hb, by rw [hl2, hlb]; exact hz, k.nx _ _ _ q1 (p.back hg1 (⟨s2.1, s4⟩ : Sx ((some (.ref a), .lst (es ++ fs)) :: T) Γ1 σ _)) pn⟩
theorem as_append (j : Nat) {x : Str} {npos : Pos} (he : AX X e ty τ) (hN : X.N[j]? = some x := by rfl) (hv : Vis X.env.scope x := by first | exact Or.inl rfl | exact Or.inr (Or.inl rfl) | exact Or.inr (Or.inr rfl)) (hd : (x == ("__debug__" : Str)) = false := by decide) (hcd : (x == ("__classdict__" : Str)) = false := by decide)
    (hbase : attributeBase (.Name x npos) "append" X.env (eval (.Name x npos) X.env) = eval (.Name x npos) X.env := by rfl)
    (hfew : ((backTo cpos (starEach [e] X.env)).all (fun x => !x.1) && (backToKw cpos (keywordEach [] X.env)).all (fun x => x.1.isSome) && decide (([e] : List Expr).length + ([] : List Keyword).length + (if ([] : List Keyword).isEmpty then 0 else 1) < 30)) = true := by rfl)
    (hline : (apos.endLine == cpos.line) = true := by rfl) (hst : starEach [e] X.env = (false, eval e X.env) :: starEach [] X.env := by rfl) (hpl : (backTo cpos (starEach [] X.env)).any (·.1) = false := by rfl)
    (hs : swapsWith (.Call (.Attribute (.Name x npos) "append" apos) [e] [] cpos) none pos.line X.env = pure false := by rfl) :
    AXS X np (.Expr (.Call (.Attribute (.Name x npos) "append" apos) [e] [] cpos) pos) (sAppend (slG j) (slP j) τ) :=
  ⟨_, ps_expr (pe_bm PySem.F.plainAttrs_list PySem.F.slot_list_append PySem.F.type_list_append mt_append (pe_var hN hv hd hcd) (pa_cons he.pe pa_nil hst) hbase hfew hline hst hpl) hs, snd_append (pl_slot j) he.snd⟩
theorem as_extend (j : Nat) {x : Str} {npos : Pos} (he : AX X e ty τ) (hN : X.N[j]? = some x := by rfl) (hv : Vis X.env.scope x := by first | exact Or.inl rfl | exact Or.inr (Or.inl rfl) | exact Or.inr (Or.inr rfl)) (hd : (x == ("__debug__" : Str)) = false := by decide) (hcd : (x == ("__classdict__" : Str)) = false := by decide)
    (hbase : attributeBase (.Name x npos) "extend" X.env (eval (.Name x npos) X.env) = eval (.Name x npos) X.env := by rfl)
    (hfew : ((backTo cpos (starEach [e] X.env)).all (fun x => !x.1) && (backToKw cpos (keywordEach [] X.env)).all (fun x => x.1.isSome) && decide (([e] : List Expr).length + ([] : List Keyword).length + (if ([] : List Keyword).isEmpty then 0 else 1) < 30)) = true := by rfl)
    (hline : (apos.endLine == cpos.line) = true := by rfl) (hst : starEach [e] X.env = (false, eval e X.env) :: starEach [] X.env := by rfl) (hpl : (backTo cpos (starEach [] X.env)).any (·.1) = false := by rfl)
    (hs : swapsWith (.Call (.Attribute (.Name x npos) "extend" apos) [e] [] cpos) none pos.line X.env = pure false := by rfl) :
    AXS X np (.Expr (.Call (.Attribute (.Name x npos) "extend" apos) [e] [] cpos) pos) (sExtend (slG j) (slP j) τ) :=
  ⟨_, ps_expr (pe_bm PySem.F.plainAttrs_list PySem.F.slot_list_extend PySem.F.type_list_extend mt_extend (pe_var hN hv hd hcd) (pa_cons he.pe pa_nil hst) hbase hfew hline hst hpl) hs, snd_extend (pl_slot j) he.snd⟩
/-- xs[i] = e, xs owned in the j-th slot -/
@[simp] def sSetI (get : Ga → Option En) (put : Ga → En → Ga) (τ υ : AE) : AS := fun Δ Γ => τ Γ fun r Γ1 => ∃ es, get Γ1 = some (.lst es) ∧ ∀ v, υ (put Γ1 (.al v)) fun q Γ2 => ∃ k j, q = .sh (.int k) ∧ get Γ2 = some (.al v) ∧ ixN es.length k = some j ∧ Δ.nx (put Γ2 (.lst (es.set j r)))
theorem set_ls {H : Hp} {D : Addr} {y : V} {r : En} {es : List En} {j : Nat} {M : Ls} (hj : j < es.length) (s : Sep H ((some (.ref D), .lst es) :: (some y, r) :: M)) : ∃ xs, H D = some (.lst xs) ∧ xs.length = es.length ∧ Sep (upd H D (.lst (xs.set j y))) ((some (.ref D), .lst (es.set j r)) :: M) := by
  obtain ⟨p, xs, ep, hp, hl⟩ := s.lsGet
  cases ep
  refine ⟨xs, hp, hl, ?_⟩
  refine Sep.lsSet (N := [(some y, r)]) (es := es) (xs := xs) s hp (by rw [List.length_set, List.length_set, hl]) fun Hs F rr => ?_
  have e1 : vz (xs.set j y) (es.set j r) = (vz xs es).set j (some y, r) := by
    unfold vz
    rw [List.map_set, zip_set]
  have hv : j < (vz xs es).length := by
    unfold vz
    rw [List.length_zip, List.length_map]
    omega
  obtain ⟨G, pG, rG⟩ := rr.perm (List.perm_append_comm (l₁ := vz xs es) (l₂ := [(some y, r)]))
  obtain ⟨F1, F2, eG, r1, r2⟩ := rG
  obtain ⟨G2, p2, r3⟩ := r2.perm (perm_at (List.getElem?_eq_getElem hv))
  obtain ⟨F3, F4, e4, _, r4⟩ := r3
  have r5 : EnsR Hs H ((some y, r) :: (vz xs es).eraseIdx j) (F1 ++ F4) := ⟨F1, F4, rfl, r1, r4⟩
  obtain ⟨G3, p3, r6⟩ := r5.perm (perm_set (some y, r) hv).symm
  have pm : F.Perm (F1 ++ F2) := by
    rw [← eG]
    exact pG
  have sub : (F1 ++ F4).Sublist (F1 ++ (F3 ++ F4)) := (List.Sublist.refl _).append (List.sublist_append_right _ _)
  have pm2 : F.Perm (F1 ++ (F3 ++ F4)) := by
    rw [← e4]
    exact pm.trans (p2.append_left F1)
  rw [e1]
  exact ⟨G3, fun a ha => pm2.mem_iff.mpr (sub.subset (p3.mem_iff.mpr ha)), fun nd => p3.nodup_iff.mp ((pm2.nodup_iff.mp nd).sublist sub), r6⟩
theorem ixN_lt {n : Nat} {k : Int} {j : Nat} (h : ixN n k = some j) : j < n := (L2.ixN_seq h).2.1
theorem as_setI (m : Nat) {x : Str} {npos : Pos} (he : AX X e ty τ) (hi : AX X i tv υ) (hN : X.N[m]? = some x := by rfl) (hv : Vis X.env.scope x := by first | exact Or.inl rfl | exact Or.inr (Or.inl rfl) | exact Or.inr (Or.inr rfl)) (hd : (x == ("__debug__" : Str)) = false := by decide) (hcd : (x == ("__classdict__" : Str)) = false := by decide)
    (ha : ∀ v, assign (.Subscript (.Name x npos) i pos') X.env v = (do
      let ov ← holding [v] (eval (.Name x npos) X.env)
      let iv ← holding [v, ov] (eval i X.env)
      standAt pos'
      holding [v, ov, iv] (setItem ov iv v)
      release [v, ov, iv] []) := by intro _; rfl)
    (hs : swapsWithSole [.Subscript (.Name x npos) i pos'] e pos.line X.env = pure false := by rfl) (hw : swappedStores [.Subscript (.Name x npos) i pos'] e X.env = pure none := by rfl) (h1 : (assignEach [.Subscript (.Name x npos) i pos'] X.env).map (·.2) = [assign (.Subscript (.Name x npos) i pos') X.env] := by rfl) :
    AXS X np (.Assign [.Subscript (.Name x npos) i pos'] e pos) (sSetI (slG m) (slP m) τ υ) := ⟨_, ps_asg he.pe (pg_sub (pe_var hN hv hd hcd) hi.pe set_list ha) hs hw h1, fun T Γ σ σ0 H D Δ s pn k q => he.snd T Γ σ H _ _ s q fun r Γ1 y H1 ⟨es, hg, q1⟩ s1 => by
    obtain ⟨v, h2, s2⟩ := (pl_slot m).move s1 hg rfl
    refine h2 _ (hi.snd _ _ σ H1 _ _ s2 (q1 v) fun q Γ2 z H2 ⟨kk, j, eq, hg2, hj, q2⟩ s3 => ?_)
    subst eq
    obtain ⟨w, ew, dt⟩ := Sep.val s3.2
    cases ew
    have ez := dt.intE
    subst ez
    obtain ⟨a, xs0, ea, ha0, hl0⟩ := Sep.lsGet s3.pop.2
    cases ea
    obtain ⟨xs, hx, hl, s4⟩ := set_ls (ixN_lt hj) s3.pop.2
    exact ⟨a, xs, kk, j, rfl, rfl, hx, by rw [hl]; exact hj, k.nx _ _ _ q2 ((pl_slot m).back hg2 (⟨s3.1, s4⟩ : Sx ((some (.ref a), .lst (es.set j r)) :: T) Γ2 σ _)) pn⟩⟩
/-- len of an owned list -/
@[simp] def aLenO (get : Ga → Option En) : AE := fun Γ P => ∃ es, get Γ = some (.lst es) ∧ P (.sh (.int es.length)) Γ
theorem ax_lenO (m : Nat) {x : Str} {npos p1 : Pos} (hg : Gl X "len") (hm : X.mg "len" = none) (hN : X.N[m]? = some x := by rfl) (hv : Vis X.env.scope x := by first | exact Or.inl rfl | exact Or.inr (Or.inl rfl) | exact Or.inr (Or.inr rfl)) (hd : (x == ("__debug__" : Str)) = false := by decide) (hcd : (x == ("__classdict__" : Str)) = false := by decide)
    (he : starEach [.Name x npos] X.env = (false, eval (.Name x npos) X.env) :: starEach [] X.env := by rfl) (hpl : (backTo pos (starEach [] X.env)).any (·.1) = false := by rfl) :
    AX X (.Call (.Name "len" p1) [.Name x npos] [] pos) (tCB (fun xs H Q => ∃ x n, xs = [x] ∧ LenV X.K x H n ∧ Q (.int n) H) (tCons (tVar m) tNil)) (aLenO (slG m)) :=
  ⟨pe_callB call_len hg hm PySem.boot_len (pa_cons (pe_var hN hv hd hcd) pa_nil he) (by decide) (by decide) he hpl, fun T Γ σ H Q P s ⟨es, hg, q1⟩ k => by
    obtain ⟨v, M, h1, s2, s3, s4⟩ := (pl_slot m).mod s hg rfl
    obtain ⟨a, xs, ea, ha, hl⟩ := s2.lsGet
    cases ea
    refine h1 _ ⟨_, xs.length, rfl, Or.inl ⟨xs, SqL.of ha, rfl⟩, ?_⟩
    rw [hl]
    exact k _ _ _ _ q1 ⟨s.1, Sep.shc s.2 fun _ => .int _⟩⟩
end
end PL
set_option maxRecDepth 100000
set_option maxHeartbeats 1000000
namespace PL
open PySem PySem.Spec PyProof.Rows L2 StX
/-! ### objects -/
theorem enR_ob {Hs H : Hp} {o : Option V} {C : Addr} {N : List Str} {es : List En} {F : List Addr} : EnR Hs H o (.ob C N es) F ↔ ∃ p dx xs G, o = some (.ref p) ∧ H p = some (.ins C dx (N.zip xs)) ∧ N.length = es.length ∧ xs.length = es.length ∧ EnsR Hs H (vz xs es) G ∧ F = p :: G := by
  rw [EnR]
  constructor
  · rintro ⟨p, dx, xs, G, h1, h2, h3, h4, h5⟩
    obtain ⟨h6, h7⟩ := ensV_iff.mp h4
    exact ⟨p, dx, xs, G, h1, h2, h3, h6, h7, h5⟩
  · rintro ⟨p, dx, xs, G, h1, h2, h3, h6, h7, h5⟩
    exact ⟨p, dx, xs, G, h1, h2, h3, ensV_iff.mpr ⟨h6, h7⟩, h5⟩
theorem EnsR.takeAt {Hs H : Hp} {L : Ls} {F : List Addr} {n : Nat} {o : Option V} {e e' : En} (r : EnsR Hs H L F) (h : L[n]? = some (o, e)) (h' : EnR Hs H o e' []) : ∃ G1 G2, F.Perm (G1 ++ G2) ∧ EnR Hs H o e G1 ∧ EnsR Hs H (L.set n (o, e')) G2 := by
  obtain ⟨G, p1, F1, F2, e1, r1, r2⟩ := r.perm (perm_at h)
  have hn := (List.getElem?_eq_some_iff.mp h).1
  have r3 : EnsR Hs H ((o, e') :: L.eraseIdx n) F2 := ⟨[], F2, rfl, h', r2⟩
  obtain ⟨G2, p2, r4⟩ := r3.perm (perm_set (o, e') hn).symm
  exact ⟨F1, G2, (e1 ▸ p1).trans (p2.append_left F1), r1, r4⟩
theorem EnsR.fillAt {Hs H : Hp} {L : Ls} {F G1 : List Addr} {n : Nat} {o o' : Option V} {v : V} {e' : En} (r : EnsR Hs H L F) (h : L[n]? = some (o, .al v)) (h' : EnR Hs H o' e' G1) : o = some v ∧ ∃ G, (G1 ++ F).Perm G ∧ EnsR Hs H (L.set n (o', e')) G := by
  obtain ⟨G, p1, F1, F2, e1, r1, r2⟩ := r.perm (perm_at h)
  obtain ⟨eF, eo⟩ := enR_al.mp r1
  subst eF
  rw [List.nil_append] at e1
  subst e1
  have hn := (List.getElem?_eq_some_iff.mp h).1
  have r3 : EnsR Hs H ((o', e') :: L.eraseIdx n) (G1 ++ G) := ⟨G1, G, rfl, h', r2⟩
  obtain ⟨G2, p2, r4⟩ := r3.perm (perm_set (o', e') hn).symm
  exact ⟨eo, G2, (p1.append_left G1).trans p2, r4⟩
theorem vz_at {xs : List V} {es : List En} {n : Nat} {e : En} (hl : xs.length = es.length) (h : es[n]? = some e) : ∃ v, xs[n]? = some v ∧ (vz xs es)[n]? = some (some v, e) := by
  have hn : n < xs.length := by
    rw [hl]
    exact (List.getElem?_eq_some_iff.mp h).1
  refine ⟨xs[n], List.getElem?_eq_getElem hn, ?_⟩
  unfold vz
  rw [List.getElem?_zip_eq_some]
  exact ⟨by rw [List.getElem?_map, List.getElem?_eq_getElem hn]; rfl, h⟩
theorem vz_set {xs : List V} {es : List En} {n : Nat} {v : V} {e : En} (h : xs[n]? = some v) : vz xs (es.set n e) = (vz xs es).set n (some v, e) := by
  unfold vz
  rw [zip_set2 (a := some v) (by rw [List.getElem?_map, h]; rfl)]
theorem Sep.obAt {H : Hp} {o : Option V} {C : Addr} {N : List Str} {es : List En} {M : Ls} (s : Sep H ((o, .ob C N es) :: M)) : ∃ p dx xs, o = some (.ref p) ∧ H p = some (.ins C dx (N.zip xs)) ∧ N.length = es.length ∧ xs.length = es.length := by
  obtain ⟨Hs, F, x, ⟨F1, F2, e, q, r2⟩, nd, fr⟩ := s
  obtain ⟨p, dx, xs, G, h1, h2, h3, h4, _, _⟩ := enR_ob.mp q
  exact ⟨p, dx, xs, h1, h2, h3, h4⟩
theorem Sep.obMove {H : Hp} {o : Option V} {C : Addr} {N : List Str} {es : List En} {M : Ls} {n : Nat} {e : En} (s : Sep H ((o, .ob C N es) :: M)) (h : es[n]? = some e) :
    ∃ p dx xs v, o = some (.ref p) ∧ H p = some (.ins C dx (N.zip xs)) ∧ N.length = es.length ∧ xs.length = es.length ∧ xs[n]? = some v ∧ Sep H ((some v, e) :: (o, .ob C N (es.set n (.al v))) :: M) := by
  obtain ⟨Hs, F, x, ⟨F1, F2, eF, q, r2⟩, nd, fr⟩ := s
  obtain ⟨p, dx, xs, G, h1, h2, h3, h4, h5, h6⟩ := enR_ob.mp q
  obtain ⟨v, hx, hz⟩ := vz_at h4 h
  obtain ⟨G1, G2, pm, r1, r3⟩ := h5.takeAt (e' := .al v) hz (enR_al.mpr ⟨rfl, rfl⟩)
  subst h6 eF
  have pm2 : ((p :: G) ++ F2).Perm (G1 ++ ((p :: G2) ++ F2)) := by
    have q1 : ((p :: G) ++ F2).Perm ((p :: (G1 ++ G2)) ++ F2) := (pm.cons p).append_right F2
    refine q1.trans ?_
    rw [← List.append_assoc]
    exact (List.perm_middle.symm).append_right F2
  refine ⟨p, dx, xs, v, h1, h2, h3, h4, hx, Hs, G1 ++ ((p :: G2) ++ F2), x, ⟨G1, (p :: G2) ++ F2, rfl, r1, p :: G2, F2, rfl, enR_ob.mpr ⟨p, dx, xs, G2, h1, h2, by rw [List.length_set]; exact h3, by rw [List.length_set]; exact h4, by rw [vz_set hx]; exact r3, rfl⟩, r2⟩, pm2.nodup_iff.mp nd, fun a ha => fr a (pm2.mem_iff.mpr ha)⟩
theorem Sep.obBack {H : Hp} {o : Option V} {C : Addr} {N : List Str} {es : List En} {M : Ls} {n : Nat} {v : V} {e : En} (s : Sep H ((some v, e) :: (o, .ob C N es) :: M)) (h : es[n]? = some (.al v)) : Sep H ((o, .ob C N (es.set n e)) :: M) := by
  obtain ⟨Hs, F, x, ⟨F1, F2, eF, q, F3, F4, eF2, q2, r2⟩, nd, fr⟩ := s
  obtain ⟨p, dx, xs, G, h1, h2, h3, h4, h5, h6⟩ := enR_ob.mp q2
  obtain ⟨u, hx, hz⟩ := vz_at h4 h
  obtain ⟨eu, G2, pm, r3⟩ := h5.fillAt (e' := e) hz q
  cases eu
  subst h6 eF2 eF
  have pm2 : (F1 ++ ((p :: G) ++ F4)).Perm ((p :: G2) ++ F4) := by
    rw [← List.append_assoc]
    refine List.Perm.append_right F4 ?_
    exact List.perm_middle.trans (pm.cons p)
  exact ⟨Hs, (p :: G2) ++ F4, x, ⟨p :: G2, F4, rfl, enR_ob.mpr ⟨p, dx, xs, G2, h1, h2, by rw [List.length_set]; exact h3, by rw [List.length_set]; exact h4, by rw [vz_set hx]; exact r3, rfl⟩, r2⟩, pm2.nodup_iff.mp nd, fun a ha => fr a (pm2.mem_iff.mpr ha)⟩
theorem zip_lookup {α : Type} : ∀ {N : List Str} {xs : List α} {n : Nat} {f : Str} {v : α}, N.Nodup → N[n]? = some f → xs[n]? = some v → (N.zip xs).lookup f = some v
  | [], _, _, _, _, _, h, _ => by simp at h
  | _ :: _, [], _, _, _, _, _, h => by simp at h
  | g :: N, x :: xs, 0, f, v, _, h, h' => by
    simp at h h'
    subst h h'
    simp [List.lookup]
  | g :: N, x :: xs, n + 1, f, v, nd, h, h' => by
    have h1 : N[n]? = some f := by simpa using h
    have h2 : xs[n]? = some v := by simpa using h'
    obtain ⟨n1, n2⟩ := List.nodup_cons.mp nd
    have ne : ¬ f = g := fun z => n1 (z ▸ List.mem_of_getElem? h1)
    rw [List.zip_cons_cons, List.lookup_cons, beq_eq_false_iff_ne.mpr ne]
    exact zip_lookup n2 h1 h2
theorem zip_nolook {α : Type} : ∀ {N : List Str} {xs : List α} {f : Str}, f ∉ N → (N.zip xs).lookup f = none
  | [], _, _, _ => rfl
  | _ :: _, [], _, _ => rfl
  | g :: N, x :: xs, f, h => by
    rw [List.mem_cons, not_or] at h
    rw [List.zip_cons_cons, List.lookup_cons, beq_eq_false_iff_ne.mpr h.1]
    exact zip_nolook h.2
theorem putF_zip : ∀ {N : List Str} {xs : List V} {n : Nat} {f : Str} {v : V}, N.Nodup → N[n]? = some f → N.length = xs.length → putF f v (N.zip xs) = N.zip (xs.set n v)
  | [], _, _, _, _, _, h, _ => by simp at h
  | _ :: _, [], _, _, _, _, _, h => by simp at h
  | g :: N, x :: xs, 0, f, v, _, h, _ => by
    simp at h
    subst h
    show (if g = g then (g, v) :: N.zip xs else _) = _
    rw [if_pos rfl]
    rfl
  | g :: N, x :: xs, n + 1, f, v, nd, h, hl => by
    have h1 : N[n]? = some f := by simpa using h
    obtain ⟨n1, n2⟩ := List.nodup_cons.mp nd
    have ne : ¬ g = f := fun z => n1 (z ▸ List.mem_of_getElem? h1)
    show (if g = f then _ else (g, x) :: putF f v (N.zip xs)) = _
    rw [if_neg ne, putF_zip n2 h1 (by simpa using hl)]
    rfl
theorem putF_new : ∀ {N : List Str} {xs : List V} {f : Str} {v : V}, f ∉ N → N.length = xs.length → putF f v (N.zip xs) = (N ++ [f]).zip (xs ++ [v])
  | [], [], _, _, _, _ => rfl
  | [], _ :: _, _, _, _, h => by simp at h
  | _ :: _, [], _, _, _, h => by simp at h
  | g :: N, x :: xs, f, v, h, hl => by
    rw [List.mem_cons, not_or] at h
    show (if g = f then _ else (g, x) :: putF f v (N.zip xs)) = _
    rw [if_neg (fun z => h.1 z.symm), putF_new h.2 (by simpa using hl)]
    rfl
/-! ### a field as a place -/
@[simp] def fdG (i n : Nat) (C : Addr) (N : List Str) (Γ : Ga) : Option En := match Γ[i]? with
  | some (.ob C' N' es) => if C' = C ∧ N' = N then es[n]? else none
  | _ => none
@[simp] def fdP (i n : Nat) (Γ : Ga) (e : En) : Ga := match Γ[i]? with
  | some (.ob C N es) => Γ.set i (.ob C N (es.set n e))
  | _ => Γ
theorem fdG_some {i n : Nat} {C : Addr} {N : List Str} {Γ : Ga} {e : En} (h : fdG i n C N Γ = some e) : ∃ es, Γ[i]? = some (.ob C N es) ∧ es[n]? = some e := by
  unfold fdG at h
  split at h
  · rename_i C' N' es q
    split at h
    · rename_i z
      obtain ⟨rfl, rfl⟩ := z
      exact ⟨es, q, h⟩
    · cases h
  · cases h
theorem fdP_at {i n : Nat} {C : Addr} {N : List Str} {es : List En} {Γ : Ga} {e : En} (h : Γ[i]? = some (.ob C N es)) : fdP i n Γ e = Γ.set i (.ob C N (es.set n e)) := by
  unfold fdP
  rw [h]
theorem fdG_at {i n : Nat} {C : Addr} {N : List Str} {es : List En} {Γ : Ga} (h : Γ[i]? = some (.ob C N es)) : fdG i n C N Γ = es[n]? := by
  unfold fdG
  rw [h]
  exact if_pos ⟨rfl, rfl⟩
theorem set_at {α : Type} {l : List α} {i : Nat} {a b : α} (h : l[i]? = some a) : (l.set i b)[i]? = some b := List.getElem?_set_self (List.getElem?_eq_some_iff.mp h).1
theorem set_back {α : Type} {l : List α} {i : Nat} {a b : α} (h : l[i]? = some a) : (l.set i b).set i a = l := by
  rw [List.set_set]
  obtain ⟨hi, q⟩ := List.getElem?_eq_some_iff.mp h
  rw [← q, List.set_getElem_self]
theorem pl_fld {K : PySem.W.Frag} {i n : Nat} {C : Addr} {N : List Str} {f : Str} (c : Cls K C) (na : NoAttr K C f) (hn : N[n]? = some f) (nd : N.Nodup) : Pl (tFld K (tVar i) f) (fdG i n C N) (fdP i n) where
  move := fun {T Γ σ H e} s hg he => by
    obtain ⟨es, h1, h2⟩ := fdG_some hg
    obtain ⟨v0, e0, _, s1⟩ := s.move h1 rfl
    obtain ⟨p, dx, xs, v, ev, hp, hN, hx, hxn, s2⟩ := Sep.obMove s1.2 h2
    cases ev
    refine ⟨v, fun Q q => ⟨_, e0, p, C, dx, N.zip xs, v, rfl, hp, c, na, zip_lookup nd hn hxn, q⟩, ?_⟩
    rw [fdP_at h1]
    have s3 : Sx ((some (.ref p), .ob C N (es.set n (.al v))) :: (some v, e) :: T) (Γ.set i (.al (.ref p))) σ H := ⟨s1.1, s2.swap⟩
    have s4 := Sx.backAl (set_at h1) s3
    rw [List.set_set] at s4
    exact s4
  back := fun {T Γ σ H v e} hg s => by
    obtain ⟨es, h1, h2⟩ := fdG_some hg
    obtain ⟨v0, e0, _, s1⟩ := s.move h1 rfl
    have s2 := Sep.obBack (Sep.swap s1.2) h2
    have s3 := Sx.backAl (set_at h1) (⟨s1.1, s2⟩ : Sx ((some v0, .ob C N (es.set n e)) :: T) (Γ.set i (.al v0)) σ H)
    rw [List.set_set] at s3
    rw [fdP_at h1]
    exact s3
  pg := fun {Γ e a} hg => by
    obtain ⟨es, h1, h2⟩ := fdG_some hg
    rw [fdP_at h1, fdG_at (set_at h1), set_at h2]
  pp := fun {Γ e a} hg => by
    obtain ⟨es, h1, h2⟩ := fdG_some hg
    rw [fdP_at h1, fdP_at (set_at h1), List.set_set, set_back h2]
    obtain ⟨hi, q⟩ := List.getElem?_eq_some_iff.mp h1
    rw [← q, List.set_getElem_self]
  pq := fun {Γ e a b} hg => by
    obtain ⟨es, h1, h2⟩ := fdG_some hg
    rw [fdP_at h1, fdP_at (set_at h1), fdP_at h1, List.set_set, List.set_set]
section
variable {X : Cx} {np : List Nat} {e : Expr} {te : TE} {τ : AE} {pos pos' npos apos : Pos} {C : Addr} {N : List Str} {f : Str}
/-- o.f as shared data, o in the i-th slot -/
theorem pe_at (i : Nat) {x : Str} (hN : X.N[i]? = some x := by rfl) (hv : Vis X.env.scope x := by first | exact Or.inl rfl | exact Or.inr (Or.inl rfl) | exact Or.inr (Or.inr rfl)) (hd : (x == ("__debug__" : Str)) = false := by decide) (hcd : (x == ("__classdict__" : Str)) = false := by decide)
    (hb : attributeBase (.Name x npos) f X.env (eval (.Name x npos) X.env) = eval (.Name x npos) X.env := by rfl) : PE X (.Attribute (.Name x npos) f pos) (tFld X.K (tVar i) f) := pe_fld (pe_var hN hv hd hcd) hb
theorem ax_fld (i n : Nat) {x : Str} (c : Cls X.K C) (na : NoAttr X.K C f) (nd : N.Nodup) (hn : N[n]? = some f := by rfl) (h : PE X (.Attribute (.Name x npos) f pos) (tFld X.K (tVar i) f) := by exact pe_at _) : AX X (.Attribute (.Name x npos) f pos) (tFld X.K (tVar i) f) (aGet (fdG i n C N)) := ⟨h, (pl_fld c na hn nd).snd⟩
/-- o.f = e, f is there | f is new -/
@[simp] def sFldA (i n : Nat) (C : Addr) (N : List Str) (τ : AE) : AS := fun Δ Γ => τ Γ fun r Γ1 => ∃ es, Γ1[i]? = some (.ob C N es) ∧ n < es.length ∧ es.length < 1000 ∧ Δ.nx (Γ1.set i (.ob C N (es.set n r)))
@[simp] def sFldN (i : Nat) (C : Addr) (N : List Str) (f : Str) (τ : AE) : AS := fun Δ Γ => τ Γ fun r Γ1 => ∃ es, Γ1[i]? = some (.ob C N es) ∧ es.length < 1000 ∧ Δ.nx (Γ1.set i (.ob C (N ++ [f]) (es ++ [r])))
theorem Sep.obSet {H : Hp} {p dx : Addr} {N : List Str} {es : List En} {xs : List V} {n : Nat} {r : En} {y : V} {M : Ls} (s : Sep H ((some (.ref p), .ob C N es) :: (some y, r) :: M)) (hp : H p = some (.ins C dx (N.zip xs))) (hl : xs.length = es.length) (hn : n < es.length) :
    Sep (upd H p (.ins C dx (N.zip (xs.set n y)))) ((some (.ref p), .ob C N (es.set n r)) :: M) := by
  have e1 : vz (xs.set n y) (es.set n r) = (vz xs es).set n (some y, r) := by
    unfold vz
    rw [List.map_set, zip_set]
  refine Sep.rew (N := [(some y, r)]) s (by rw [hp]; exact fun z => nomatch z) fun Hs F1 F2 q q2 => ?_
  obtain ⟨p', dx', xs', G, h1, h2, h3, h4, h5, h6⟩ := enR_ob.mp q
  cases h1
  rw [hp] at h2
  have h2' := Option.some.inj h2
  injection h2' with _ e2 e3
  have exs : xs' = xs := by
    have z := congrArg (List.map Prod.snd) e3
    rw [List.map_snd_zip (by omega), List.map_snd_zip (by omega)] at z
    exact z.symm
  subst exs e2
  obtain ⟨F3, F4, e4, q3, q4⟩ := q2
  have e5 : F4 = [] := q4
  subst e5 e4
  rw [List.append_nil]
  obtain ⟨G', m1, m2, r3⟩ := h5.setAt (n := n) (x := (some y, r)) q3 (by unfold vz; rw [List.length_zip, List.length_map]; omega)
  refine ⟨G, G', h6, m1, m2, fun H' g1 g2 g3 => enR_ob.mpr ⟨p, dx, _, G', rfl, g1, by rw [List.length_set]; exact h3, by rw [List.length_set, List.length_set]; exact h4, ?_, rfl⟩⟩
  rw [e1]
  exact r3.mono Ex.rfl fun a ha => g2 a fun z => g3 (z ▸ ha)
theorem Sep.obNew {H : Hp} {p dx : Addr} {N : List Str} {es : List En} {xs : List V} {f : Str} {r : En} {y : V} {M : Ls} (s : Sep H ((some (.ref p), .ob C N es) :: (some y, r) :: M)) (hp : H p = some (.ins C dx (N.zip xs))) (hl : xs.length = es.length) :
    Sep (upd H p (.ins C dx ((N ++ [f]).zip (xs ++ [y])))) ((some (.ref p), .ob C (N ++ [f]) (es ++ [r])) :: M) := by
  refine Sep.rew (N := [(some y, r)]) s (by rw [hp]; exact fun z => nomatch z) fun Hs F1 F2 q q2 => ?_
  obtain ⟨p', dx', xs', G, h1, h2, h3, h4, h5, h6⟩ := enR_ob.mp q
  cases h1
  rw [hp] at h2
  have h2' := Option.some.inj h2
  injection h2' with _ e2 e3
  have exs : xs' = xs := by
    have z := congrArg (List.map Prod.snd) e3
    rw [List.map_snd_zip (by omega), List.map_snd_zip (by omega)] at z
    exact z.symm
  subst exs e2
  refine ⟨G, G ++ F2, h6, fun a h => h, fun h => h, fun H' g1 g2 g3 => enR_ob.mpr ⟨p, dx, _, G ++ F2, rfl, g1, by simp [h3], by simp [h4], ?_, rfl⟩⟩
  rw [vz_app h4]
  have r3 : EnsR Hs H (vz xs' es ++ vz [y] [r]) (G ++ F2) := h5.app q2
  exact r3.mono Ex.rfl fun a ha => g2 a fun z => g3 (z ▸ ha)
theorem as_fld (i n : Nat) {x : Str} (c : Cls X.K C) (na : NoAttr X.K C f) (nd : N.Nodup) (he : AX X e te τ) (hn : N[n]? = some f := by rfl) (hN : X.N[i]? = some x := by rfl) (hv : Vis X.env.scope x := by first | exact Or.inl rfl | exact Or.inr (Or.inl rfl) | exact Or.inr (Or.inr rfl)) (hd : (x == ("__debug__" : Str)) = false := by decide) (hcd : (x == ("__classdict__" : Str)) = false := by decide)
    (hs : swapsWith e (some (.Attribute (.Name x npos) f pos')) pos.line X.env = pure false := by rfl) : AXS X np (.Assign [.Attribute (.Name x npos) f pos'] e pos) (sFldA i n C N τ) := ⟨_, ps_fld (pe_var hN hv hd hcd) he.pe hs, fun T Γ σ σ0 H D Δ s pn k q => he.snd T Γ σ H _ _ s q fun r Γ1 y H1 ⟨es, hg, hlt, hz, q1⟩ s1 => by
    obtain ⟨v, h2, _, s2⟩ := s1.move hg rfl
    obtain ⟨p, dx, xs, ev, hp, hN2, hx⟩ := Sep.obAt s2.2
    cases ev
    have s3 := Sep.obSet (M := T ++ σ.zip (Γ1.set i (.al (.ref p)))) s2.2 hp hx hlt
    have s4 := Sx.backAl (set_at hg) (⟨s2.1, s3⟩ : Sx ((some (.ref p), .ob C N (es.set n r)) :: T) (Γ1.set i (.al (.ref p))) σ _)
    rw [List.set_set] at s4
    refine ⟨_, h2, p, C, dx, N.zip xs, rfl, hp, c, na, by rw [List.length_zip]; omega, ?_⟩
    rw [putF_zip nd hn (by omega)]
    exact k.nx _ _ _ q1 s4 pn⟩
theorem as_fldN (i : Nat) {x : Str} (c : Cls X.K C) (na : NoAttr X.K C f) (nf : f ∉ N) (he : AX X e te τ) (hN : X.N[i]? = some x := by rfl) (hv : Vis X.env.scope x := by first | exact Or.inl rfl | exact Or.inr (Or.inl rfl) | exact Or.inr (Or.inr rfl)) (hd : (x == ("__debug__" : Str)) = false := by decide) (hcd : (x == ("__classdict__" : Str)) = false := by decide)
    (hs : swapsWith e (some (.Attribute (.Name x npos) f pos')) pos.line X.env = pure false := by rfl) : AXS X np (.Assign [.Attribute (.Name x npos) f pos'] e pos) (sFldN i C N f τ) := ⟨_, ps_fld (pe_var hN hv hd hcd) he.pe hs, fun T Γ σ σ0 H D Δ s pn k q => he.snd T Γ σ H _ _ s q fun r Γ1 y H1 ⟨es, hg, hz, q1⟩ s1 => by
    obtain ⟨v, h2, _, s2⟩ := s1.move hg rfl
    obtain ⟨p, dx, xs, ev, hp, hN2, hx⟩ := Sep.obAt s2.2
    cases ev
    have s3 := Sep.obNew (f := f) (M := T ++ σ.zip (Γ1.set i (.al (.ref p)))) s2.2 hp hx
    have s4 := Sx.backAl (set_at hg) (⟨s2.1, s3⟩ : Sx ((some (.ref p), .ob C (N ++ [f]) (es ++ [r])) :: T) (Γ1.set i (.al (.ref p))) σ _)
    rw [List.set_set] at s4
    refine ⟨_, h2, p, C, dx, N.zip xs, rfl, hp, c, na, by rw [List.length_zip]; omega, ?_⟩
    rw [putF_new nf (by omega)]
    exact k.nx _ _ _ q1 s4 pn⟩
end
end PL
set_option maxRecDepth 100000
set_option maxHeartbeats 1000000
namespace PL
open PySem PySem.Spec PyProof.Rows L2 StX
/-! ### methods, makings, calls with a place -/
def Mx (P : Program) (w : World) (K : PySem.W.Frag) (mg : Str → Option Value) (base : Heap) (k : Nat) (C : Addr) (m : Str) (ps : List Str) (ρ : AF) : Prop := ∃ f fd, FnOk P w K mg base CX0 k f fd ps (spE ρ) ∧ Cls K C ∧ Meth K C m f ∧ L2.Binds K fd ps []
@[simp] def aMeth (get : Ga → Option En) (put : Ga → En → Ga) (C : Addr) (N : List Str) (ρ : AF) (α : AA) : AE := fun Γ P => ∃ es, get Γ = some (.ob C N es) ∧ ∀ v, α (put Γ (.al v)) fun rs Γ1 => get Γ1 = some (.al v) ∧ ρ (.ob C N es :: rs) fun r es' => P r (put Γ1 (es'.headD .no))
section
variable {X : Cx} {k : Nat} {C : Addr} {N : List Str} {m : Str} {ps : List Str} {ρ : AF} {o e : Expr} {es : List Expr} {ta : TE} {t : TA} {α : AA} {apos pos : Pos} {pl : Sem Bool} {get : Ga → Option En} {put : Ga → En → Ga}
theorem snd_meth (p : Pl ta get put) (hm : m ∉ N) (h : SndA t α) : Snd (tMeth C m (spE ρ) [] E0 ta t) (aMeth get put C N ρ α) := fun T Γ σ H Q P s ⟨es, hg, q⟩ kk => by
  obtain ⟨v, h1, s1⟩ := p.move s hg rfl
  obtain ⟨a, dx, xs, ea, ha, hN, hl⟩ := Sep.obAt s1.2
  cases ea
  refine h1 _ ⟨a, dx, N.zip xs, rfl, ha, zip_nolook hm, h _ _ σ H _ _ s1 (q _) fun rs Γ1 vs H1 ⟨hg1, q1⟩ hl1 s2 => ?_⟩
  rw [List.append_nil]
  refine ⟨T ++ σ.zip Γ1, .ob C N es :: rs, _, by simp [hl1], s2.sep2.perm (perm_mid _ [_] _), q1, fun r es' u H' q2 hl2 s3 => ?_⟩
  match es', hl2 with
  | e' :: rest, hl2 =>
    have s4 : Sep H' ((some (.ref a), e') :: ((some u, r) :: (vz vs rest ++ (T ++ σ.zip Γ1)))) := s3.swap
    have s5 : Sx ((some (.ref a), e') :: (some u, r) :: T) Γ1 σ H' := ⟨s2.1, (s4.perm ((perm_mid [_, _] (vz vs rest) (T ++ σ.zip Γ1)))).right⟩
    exact kk _ _ _ _ q2 (p.back hg1 s5)
theorem ax_meth (F : Mx X.prog X.w X.K X.mg X.base k C m ps ρ) (hr : Room k X.A) (ho : PE X o ta) (p : Pl ta get put) (hm : m ∉ N) (ha : AXA X (e :: es) t α)
    (hst : starEach (e :: es) X.env = (false, eval e X.env) :: starEach es X.env := by rfl) (hpl : (backTo pos (starEach es X.env)).any (·.1) = false := by rfl)
    (ht : eval (.Call (.Attribute o m apos) (e :: es) [] pos) X.env = (do
      let ov ← eval o X.env
      standAt apos.atName
      let (f, first) ← holding [ov] (getMethod ov m pl)
      callWith pos f first (backTo pos (starEach (e :: es) X.env)) (backToKw pos (keywordEach [] X.env))) := by rfl) : AX X (.Call (.Attribute o m apos) (e :: es) [] pos) (tMeth C m (spE ρ) [] E0 ta t) (aMeth get put C N ρ α) :=
  let ⟨f, fd, h1, h2, h3, h4⟩ := F
  ⟨pe_meth ho h2 h3 h1 hr h4 .nil pass0 ha.pe hst hpl ht, snd_meth p hm ha.snd⟩
theorem ax_meth0 (F : Mx X.prog X.w X.K X.mg X.base k C m ps ρ) (hr : Room k X.A) (ho : PE X o ta) (p : Pl ta get put) (hm : m ∉ N)
    (ht : eval (.Call (.Attribute o m apos) [] [] pos) X.env = (do
      let ov ← eval o X.env
      standAt apos.atName
      let (f, first) ← holding [ov] (getMethod ov m pl)
      callWith pos f first (backTo pos (starEach [] X.env)) (backToKw pos (keywordEach [] X.env))) := by rfl) : AX X (.Call (.Attribute o m apos) [] [] pos) (tMeth C m (spE ρ) [] E0 ta tNil) (aMeth get put C N ρ aNil) :=
  let ⟨f, fd, h1, h2, h3, h4⟩ := F
  ⟨pe_meth0 ho h2 h3 h1 hr h4 .nil pass0 ht, snd_meth p hm (axa_nil (X := X)).snd⟩
/-- C(..) -/
def Cx1 (P : Program) (w : World) (K : PySem.W.Frag) (mg : Str → Option Value) (base : Heap) (k : Nat) (x : Str) (C : Addr) (ps : List Str) (ρ : AF) : Prop := ∃ f fd, FnOk P w K mg base CX0 k f fd ps (spE ρ) ∧ Mk K C f ∧ mg x = some (.ref C) ∧ L2.Binds K fd ps []
@[simp] def aMake (C : Addr) (ρ : AF) (α : AA) : AE := fun Γ P => α Γ fun rs Γ1 => ρ (.ob C [] [] :: rs) fun r es' => r = .sh .none ∧ P (es'.headD .no) Γ1
theorem Sep.newOb {H : Hp} {p dx : Addr} {M : Ls} (s : Sep H M) (np : H p = none) (nd : H dx = none) (ne : dx ≠ p) : Sep (upd (upd H dx (.own p)) p (.ins C dx [])) ((some (.ref p), .ob C [] []) :: M) := by
  have s1 := s.fresh (o := .own p) nd
  have np1 : (upd H dx (.own p)) p = none := by rw [upd_ne (Ne.symm ne)]; exact np
  obtain ⟨Hs, F, x, rr, nd2, fr⟩ := s1
  have n1 := rr.ne np1
  refine ⟨Hs, p :: F, x.updOut (x.back np1), ⟨[p], F, rfl, enR_ob.mpr ⟨p, dx, [], [], rfl, upd_same, rfl, rfl, rfl, rfl⟩, rr.mono Ex.rfl fun a ha => upd_ne (n1 a ha)⟩, List.nodup_cons.mpr ⟨fun h => n1 p h rfl, nd2⟩, fun a ha => ?_⟩
  rcases List.mem_cons.mp ha with z | z
  · rw [z]
    exact x.back np1
  · exact fr a z
theorem ax_make {x : Str} {p1 : Pos} (F : Cx1 X.prog X.w X.K X.mg X.base k x C ps ρ) (hr : Room (k + 1) X.A) (hg : Gl X x) (ha : AXA X (e :: es) t α) (hdb : (x == ("__debug__" : Str)) = false := by decide) (he : starEach (e :: es) X.env = (false, eval e X.env) :: starEach es X.env := by rfl) (hpl : (backTo pos (starEach es X.env)).any (·.1) = false := by rfl) :
    AX X (.Call (.Name x p1) (e :: es) [] pos) (tMake C (spE ρ) [] E0 t) (aMake C ρ α) :=
  let ⟨f, fd, h1, h2, h3, h4⟩ := F
  ⟨pe_make h2 h1 hr hg h3 h4 .nil pass0 ha.pe hdb he hpl, fun T Γ σ H Q P s q kk => ha.snd T Γ σ H _ _ s q fun rs Γ1 vs H1 q1 hl s1 => by
    intro x dx nx ndx ne
    rw [List.append_nil]
    refine ⟨T ++ σ.zip Γ1, .ob C [] [] :: rs, _, by simp [hl], Sep.newOb s1.sep2 nx ndx ne, q1, fun r es' u H' ⟨er, q2⟩ hl2 s3 => ?_⟩
    subst er
    obtain ⟨w, ew, dt⟩ := s3.val
    cases ew
    refine ⟨by cases dt; rfl, ?_⟩
    match es', hl2 with
    | e' :: rest, hl2 =>
      have s4 : Sep H' ((some (.ref x), e') :: (vz vs rest ++ (T ++ σ.zip Γ1))) := s3.tail
      exact kk _ _ _ _ q2 ⟨s1.1, (s4.perm (perm_mid [_] (vz vs rest) (T ++ σ.zip Γ1))).right⟩⟩
/-- f(place, ..): what stands at the place is lent -/
@[simp] def aFnP (get : Ga → Option En) (put : Ga → En → Ga) (ρ : AF) (α : AA) : AE := fun Γ P => ∃ e, get Γ = some e ∧ hv e = true ∧ ∀ v, α (put Γ (.al v)) fun rs Γ1 => get Γ1 = some (.al v) ∧ ρ (e :: rs) fun r es' => P r (put Γ1 (es'.headD .no))
theorem ax_fnP {x : Str} {p1 : Pos} (F : Fx X.prog X.w X.K X.mg X.base k x ps ρ) (hr : Room k X.A) (hg : Gl X x) (ho : PE X o ta) (p : Pl ta get put) (ha : AXA X es t α) (hdb : (x == ("__debug__" : Str)) = false := by decide) (he : starEach (o :: es) X.env = (false, eval o X.env) :: starEach es X.env := by rfl) (hpl : (backTo pos (starEach es X.env)).any (·.1) = false := by rfl) :
    AX X (.Call (.Name x p1) (o :: es) [] pos) (tCall (spE ρ) [] E0 (tCons ta t)) (aFnP get put ρ α) :=
  let ⟨f, fd, h1, h2, h3, h4⟩ := F
  ⟨pe_call h1 hr hg h2 h3 h4 .nil pass0 (pa_cons ho ha.pe he) hdb he hpl, fun T Γ σ H Q P s ⟨e0, hg0, hv0, q⟩ kk => by
    obtain ⟨v, h5, s1⟩ := p.move s hg0 hv0
    refine h5 _ (ha.snd _ _ σ H _ _ s1 (q v) fun rs Γ1 vs H1 ⟨hg1, q1⟩ hl1 s2 => ?_)
    show spE ρ (v :: vs ++ []) H1 Q E0
    rw [List.append_nil]
    refine ⟨T ++ σ.zip Γ1, e0 :: rs, _, by simp [hl1], s2.sep2.perm (perm_mid _ [_] _), q1, fun r es' u H' q2 hl2 s3 => ?_⟩
    match es', hl2 with
    | e' :: rest, hl2 =>
      have s4 : Sep H' ((some v, e') :: ((some u, r) :: (vz vs rest ++ (T ++ σ.zip Γ1)))) := s3.swap
      have s5 : Sx ((some v, e') :: (some u, r) :: T) Γ1 σ H' := ⟨s2.1, (s4.perm ((perm_mid [_, _] (vz vs rest) (T ++ σ.zip Γ1)))).right⟩
      exact kk _ _ _ _ q2 (p.back hg1 s5)⟩
/-- f(a, b, place) -/
@[simp] def aFnL (get : Ga → Option En) (put : Ga → En → Ga) (ρ : AF) (τ υ : AE) : AE := fun Γ P => τ Γ fun r1 Γ1 => υ Γ1 fun r2 Γ2 => ∃ e, get Γ2 = some e ∧ hv e = true ∧ ρ [r1, r2, e] fun r es' => P r (put Γ2 (es'.getD 2 .no))
theorem ax_fnL {x : Str} {p1 : Pos} {a b : Expr} {t1 t2 : TE} {τ υ : AE} (F : Fx X.prog X.w X.K X.mg X.base k x ps ρ) (hr : Room k X.A) (hg : Gl X x) (h1 : AX X a t1 τ) (h2 : AX X b t2 υ) (ho : PE X o ta) (p : Pl ta get put) (hdb : (x == ("__debug__" : Str)) = false := by decide)
    (he : starEach [a, b, o] X.env = (false, eval a X.env) :: starEach [b, o] X.env := by rfl) (hpl : (backTo pos (starEach [b, o] X.env)).any (·.1) = false := by rfl) (he2 : starEach [b, o] X.env = (false, eval b X.env) :: starEach [o] X.env := by rfl) (he3 : starEach [o] X.env = (false, eval o X.env) :: starEach [] X.env := by rfl) :
    AX X (.Call (.Name x p1) [a, b, o] [] pos) (tCall (spE ρ) [] E0 (tCons t1 (tCons t2 (tCons ta tNil)))) (aFnL get put ρ τ υ) :=
  let ⟨f, fd, g1, g2, g3, g4⟩ := F
  ⟨pe_call g1 hr hg g2 g3 g4 .nil pass0 (pa_cons h1.pe (pa_cons h2.pe (pa_cons ho pa_nil he3) he2) he) hdb he hpl, fun T Γ σ H Q P s q kk => h1.snd T Γ σ H _ _ s q fun r1 Γ1 v1 H1 q1 s1 => h2.snd _ Γ1 σ H1 _ _ s1 q1 fun r2 Γ2 v2 H2 ⟨e0, hg0, hv0, q2⟩ s2 => by
    obtain ⟨v, h5, s3⟩ := p.move s2 hg0 hv0
    refine h5 _ ?_
    show spE ρ ([v1, v2, v] ++ []) H2 Q E0
    rw [List.append_nil]
    refine ⟨T ++ σ.zip (put Γ2 (.al v)), [r1, r2, e0], _, rfl, ?_, q2, fun r es' u H' q3 hl2 s4 => ?_⟩
    · exact s3.2.perm (by
        show ((some v, e0) :: (some v2, r2) :: (some v1, r1) :: (T ++ σ.zip (put Γ2 (.al v)))).Perm ((some v1, r1) :: (some v2, r2) :: (some v, e0) :: (T ++ σ.zip (put Γ2 (.al v))))
        exact (List.Perm.swap _ _ _).trans ((List.Perm.cons _ (List.Perm.swap _ _ _)).trans (List.Perm.swap _ _ _)))
    · match es', hl2 with
      | [a', b', e'], _ =>
        have s5 : Sep H' ((some u, r) :: (some v1, a') :: (some v2, b') :: (some v, e') :: (T ++ σ.zip (put Γ2 (.al v)))) := s4
        have s6 : Sep H' ((some v1, a') :: (some v2, b') :: (some v, e') :: (some u, r) :: (T ++ σ.zip (put Γ2 (.al v)))) := s5.perm (by
          exact (perm_mid [(some u, r)] [(some v1, a'), (some v2, b'), (some v, e')] _))
        have s7 := p.back (p.pg hg0) (⟨s3.1, s6.tail.tail⟩ : Sx ((some v, e') :: (some u, r) :: T) (put Γ2 (.al v)) σ H')
        rw [p.pq hg0] at s7
        exact kk _ _ _ _ q3 s7⟩
end
/-! ### a starred argument -/
section
variable {X : Cx} {k : Nat} {ps : List Str} {ρ : AF} {x : Str} {p1 pos : Pos} {e : Expr} {es : List Expr} {t : TA} {α : AA}
theorem fnR_of {P : Program} {w : World} {K : PySem.W.Frag} {mg : Str → Option Value} {base : Heap} {k : Nat} {f : Addr} {fd : FuncData} {ps : List Str} {sp : Sp} (F : FnOk P w K mg base CX0 k f fd ps sp) (b : L2.Binds K fd ps []) : FnR P w K mg base CX0 k f sp := fun A outer s H us vs Q E hr e0 r hs => by
  have hl : (us ++ ([] : List Value)).length = ps.length := by
    rw [List.append_nil, ← r.length]
    exact F.len _ _ _ _ hs
  have hb := b s us (e0.mod.kin.keeps fun b o e => (e0.bs b o e).1) hl
  rw [List.append_nil] at hb
  exact F.run A outer s H ⟨us, []⟩ us vs Q E hr e0 hb r hs
theorem ax_fnS (F : Fx X.prog X.w X.K X.mg X.base k x ps ρ) (hr : Room k X.A) (hg : Gl X x) (ha : AXA X (e :: es) t α) (hdb : (x == ("__debug__" : Str)) = false := by decide) (he : starEach (e :: es) X.env = (false, eval e X.env) :: starEach es X.env := by rfl) (hst : (backTo pos (starEach es X.env)).any (·.1) = true := by rfl) :
    AX X (.Call (.Name x p1) (e :: es) [] pos) (fun σ H Q => t σ H fun vs H1 => spE ρ vs H1 Q E0) (aCall ρ α) :=
  let ⟨f, fd, h1, h2, h3, h4⟩ := F
  ⟨pe_callS2 (fnR_of h1 h4) hr h3 hg h2 pass0 ha.pe hdb he hst, fun T Γ σ H Q P s q kk => ha.snd T Γ σ H _ _ s q fun rs Γ1 vs H1 q1 hl s1 => by
    refine ⟨T ++ σ.zip Γ1, rs, _, hl, s1.sep2, q1, fun r es' v H' q2 hl2 s2 => kk _ _ _ _ q2 ⟨s1.1, ?_⟩⟩
    exact (s2.perm ((perm_mid [_] (vz vs es') (T ++ σ.zip Γ1)))).right⟩
end
/-! ### match on a text -/
structure PCs (X : Cx) (cs : List MatchCase) (t : V → TS) : Prop where
  run : ∀ (first : Bool) (pins : List (Addr × Obj)) (s : Shared) (σ : L2.St) (H : Hp) (D : Ends) (v : V) (u : Value), Inv X pins σ H s → RelV v u → t v D σ H → wpAny (model X.prog X.w) X.A (matchCases cs X.env u first) (SP X pins D) X.xe s
def AXCs (X : Cx) (np : List Nat) (cs : List MatchCase) (τ : Str → AS) : Prop := ∃ t, PCs X cs t ∧ ∀ z, SndS np (t (.str z)) (τ z)
section
variable {X : Cx} {np : List Nat} {body : List Stmt} {cs : List MatchCase} {τ : AS} {υ : Str → AS} {pos p1 p2 : Pos} {j : Nat}
theorem acs_nil : AXCs X np [] (fun _ => sNext) := ⟨fun _ => tNext, ⟨fun first pins s σ H D v u I r h => wpAny_matchCases_nil ⟨σ, H, I, h⟩⟩, fun z T Γ σ σ0 H D Δ s p k q => k.nx _ _ _ q s p⟩
theorem acs_str {y : Str} (hb : AXSs X np body τ) (hc : AXCs X np cs υ) : AXCs X np (⟨.MatchValue (.Constant (.str y) j p1) p2, none, body⟩ :: cs) (fun z Δ Γ => if (z == y) = true then τ Δ Γ else υ z Δ Γ) := by
  obtain ⟨t, b1, b2⟩ := hb
  obtain ⟨u, c1, c2⟩ := hc
  refine ⟨fun v D σ H => ∃ z, v = .str z ∧ if (z == y) = true then t D σ H else u v D σ H, ⟨fun first pins s σ H D v w I r ⟨z, ev, h⟩ => ?_⟩, fun z T Γ σ σ0 H D Δ s p k q => ⟨z, rfl, ?_⟩⟩
  · subst ev
    obtain ⟨tk, rfl⟩ := r
    refine wpAny_matchCases_cons (wpAny_matchPattern_Value ?_)
    refine Calls.Constant_str ?_
    refine eq_str (wpAny_truthy_bool ?_)
    have I1 := I.tok (s.toks + 1)
    cases hq : (z == y) with
    | true =>
      rw [hq, if_pos rfl] at h
      rw [if_pos rfl]
      exact wpAny_assignInOrder_none (b1.run pins _ σ H D I1 h)
    | false =>
      rw [hq, if_neg Bool.false_ne_true] at h
      rw [if_neg Bool.false_ne_true]
      exact c1.run false pins _ σ H D (.str z) _ I1 (show RelV (.str z) (.str z tk) from ⟨tk, rfl⟩) h
  · cases hq : (z == y) with
    | true =>
      have q' : (if (z == y) = true then τ Δ Γ else υ z Δ Γ) := q
      rw [hq, if_pos rfl] at q'
      exact iteT (b2 T Γ σ σ0 H D Δ s p k q')
    | false =>
      have q' : (if (z == y) = true then τ Δ Γ else υ z Δ Γ) := q
      rw [hq, if_neg Bool.false_ne_true] at q'
      exact iteF (c2 z T Γ σ σ0 H D Δ s p k q')
theorem acs_any (hb : AXSs X np body τ) : AXCs X np [⟨.MatchAs none none p2, none, body⟩] (fun _ => τ) := by
  obtain ⟨t, b1, b2⟩ := hb
  refine ⟨fun _ => t, ⟨fun first pins s σ H D v w I r h => ?_⟩, fun z => b2⟩
  exact wpAny_matchCases_cons (wpAny_matchPattern_Capture (wpAny_assignInOrder_none (b1.run pins s σ H D I h)))
@[simp] def sMatch (τ : AE) (υ : Str → AS) : AS := fun Δ Γ => τ Γ fun r Γ1 => ∃ z, r = .sh (.str z) ∧ υ z Δ Γ1
theorem as_match {e : Expr} {te : TE} {α : AE} (he : AX X e te α) (hc : AXCs X np cs υ) : AXS X np (.Match e cs pos) (sMatch α υ) := by
  obtain ⟨t, c1, c2⟩ := hc
  refine ⟨fun D σ H => te σ H fun v H1 => t v D σ H1, ⟨fun pins s σ H D I h => wpAny_Match (thn (he.pe.run pins s σ H _ I h) fun u s1 ⟨v, H1, I1, r1, q1⟩ => c1.run true pins s1 σ H1 D v u I1 r1 q1)⟩, fun T Γ σ σ0 H D Δ s p k q => he.snd T Γ σ H _ _ s q fun r Γ1 v H1 ⟨z, er, q1⟩ s1 => ?_⟩
  subst er
  obtain ⟨w, ew, d⟩ := Sep.val s1.2
  cases ew
  have ev := d.strE
  subst ev
  exact c2 z T Γ1 σ σ0 H1 D Δ s1.pop p k q1
end
end PL
set_option maxRecDepth 100000
set_option maxHeartbeats 1000000
namespace PL
open PySem PySem.Spec PyProof.Rows L2 StX
/-! ### a walk over an owned list: each item is taken out -/
def mv : Nat → List En → List En
  | 0, es => es
  | i + 1, es => (mv i es).set i .no
theorem mv_length : ∀ (i : Nat) (es : List En), (mv i es).length = es.length
  | 0, _ => rfl
  | i + 1, es => by rw [mv, List.length_set, mv_length i es]
theorem mv_at : ∀ (i j : Nat) (es : List En), i ≤ j → (mv i es)[j]? = es[j]?
  | 0, _, _, _ => rfl
  | i + 1, j, es, h => by rw [mv, List.getElem?_set_ne (by omega), mv_at i j es (by omega)]
theorem Sep.lsTake {H : Hp} {o : Option V} {es : List En} {i : Nat} {e : En} {M : Ls} (s : Sep H ((o, .lst es) :: M)) (h : es[i]? = some e) : ∃ p xs v, o = some (.ref p) ∧ H p = some (.lst xs) ∧ xs.length = es.length ∧ xs[i]? = some v ∧ Sep H ((some v, e) :: (o, .lst (es.set i .no)) :: M) := by
  obtain ⟨Hs, F, x, ⟨F1, F2, eF, q, r2⟩, nd, fr⟩ := s
  obtain ⟨p, xs, G, ev, hp, hl, r, e3⟩ := enR_lst.mp q
  obtain ⟨v, hx, hz⟩ := vz_at hl h
  obtain ⟨G1, G2, pm, r1, r3⟩ := r.takeAt (e' := .no) hz rfl
  subst e3 eF
  have pm2 : ((p :: G) ++ F2).Perm (G1 ++ ((p :: G2) ++ F2)) := by
    have q1 : ((p :: G) ++ F2).Perm ((p :: (G1 ++ G2)) ++ F2) := (pm.cons p).append_right F2
    refine q1.trans ?_
    rw [← List.append_assoc]
    exact (List.perm_middle.symm).append_right F2
  exact ⟨p, xs, v, ev, hp, hl, hx, Hs, G1 ++ ((p :: G2) ++ F2), x, ⟨G1, (p :: G2) ++ F2, rfl, r1, p :: G2, F2, rfl, enR_lst.mpr ⟨p, xs, G2, ev, hp, by rw [List.length_set]; exact hl, by rw [vz_set hx]; exact r3, rfl⟩, r2⟩, pm2.nodup_iff.mp nd, fun a ha => fr a (pm2.mem_iff.mpr ha)⟩
theorem walkO {K : PySem.W.Frag} {a : Addr} {es : List En} {i : Nat} {L : Ls} {H : Hp} (s : Sep H ((some (.ref a), .lst (mv i es)) :: L)) : (i < es.length → (Itl K a).go i H) ∧ (es.length ≤ i → (Itl K a).stop i H) ∧ ∀ x H', i < es.length → (Itl K a).yld i H x H' → ∃ e, es[i]? = some e ∧ Sep H' ((some x, e) :: (some (.ref a), .lst (mv (i + 1) es)) :: L) := by
  obtain ⟨p, xs, ep, hp, hl⟩ := s.lsGet
  cases ep
  rw [mv_length] at hl
  refine ⟨fun hi => ⟨xs, xs[i]'(by omega), SqL.of hp, List.getElem?_eq_getElem _⟩, fun hi => ⟨xs, SqL.of hp, by omega⟩, fun x H' hi y => ?_⟩
  obtain ⟨e, y⟩ := y
  subst e
  have hx := y xs (SqL.of hp)
  have he : es[i]? = some es[i] := List.getElem?_eq_getElem hi
  obtain ⟨p2, xs2, v, ep2, hp2, _, hv, s2⟩ := s.lsTake (i := i) (e := es[i]) (by rw [mv_at i i es (Nat.le_refl _), he])
  cases ep2
  rw [hp] at hp2
  cases hp2
  rw [hx] at hv
  cases hv
  exact ⟨_, he, s2⟩
section
variable {X : Cx} {np : List Nat} {τ : AS} {α : AE} {pos : Pos}
def forBO (β : AG) (τb : AS) (es : List En) (Δ : AEnds) (Γ : Ga) : Prop := ∃ J : Nat → Ga → Prop, J 0 Γ ∧ (∀ i e Γ2, es[i]? = some e → J i Γ2 → β e Γ2 fun Γ3 => τb { Δ with nx := J (i + 1), ct := J (i + 1), bk := Δ.nx } Γ3) ∧ ∀ Γ2, J es.length Γ2 → Δ.nx Γ2
@[simp] def sForO (α : AE) (β : AG) (τb : AS) : AS := fun Δ Γ => α Γ fun r Γ1 => ∃ es, r = .lst es ∧ forBO β τb es Δ Γ1
theorem as_forO {tg iter : Expr} {body : List Stmt} {te : TE} {g : TG} {β : AG} {W : List Nat} (hp : PassesOwn (model X.prog X.w) X.A X.env X.xe) (hc : X.calm = true) (hi : AX X iter te α) (hg : AXG X tg g β W) (hb : AXSs X np body τ) (hW : ∀ i ∈ W, i ∉ np := by decide)
    (hs : ∀ x, foldedSetIterable iter X.env x = pure x := by intro _; rfl) : AXS X np (.For tg iter body [] pos) (sForO α β τ) := by
  obtain ⟨tb, b1, b2⟩ := hb
  refine ⟨_, ps_for hp hc (pi_list hi.pe) hg.pg b1 hs, fun T Γ σ σ0 H D Δ s p k q => hi.snd T Γ σ H _ _ s q fun r Γ1 v H1 ⟨es, er, I, i0, it, ie⟩ s1 => ?_⟩
  subst er
  obtain ⟨a, xs, ea, ha, hl⟩ := Sep.lsGet s1.2
  cases ea
  refine ⟨a, rfl, ⟨xs, SqL.of ha⟩, ?_⟩
  let IV : Nat → Nat → L2.St → Hp → Prop := fun i m σ H => m = es.length - i ∧ i ≤ es.length ∧ Pin np σ0 σ ∧ ∃ Γ2, I i Γ2 ∧ Sx ((some (.ref a), .lst (mv i es)) :: T) Γ2 σ H
  refine ⟨IV, ⟨es.length, by omega, Nat.zero_le _, p, _, i0, s1⟩, ?_⟩
  rintro i m σ2 H2 ⟨rfl, hle, p2, Γ2, iv, s2⟩
  obtain ⟨go, stop, yld⟩ := walkO (K := X.K) s2.2
  by_cases hlt : i < es.length
  · refine Or.inr ⟨go hlt, fun σ' H' => IV (i + 1) (es.length - (i + 1)) σ' H', fun σ' H' n => ⟨_, by omega, n⟩, fun x H' y => ?_⟩
    obtain ⟨e, he, s3⟩ := yld x H' hlt y
    have s4 : Sx ((some x, e) :: (some (.ref a), .lst (mv (i + 1) es)) :: T) Γ2 σ2 H' := ⟨s2.1, s3⟩
    refine hg.snd _ Γ2 σ2 H' x _ _ _ s4 (it i e Γ2 he iv) fun Γ3 σ3 H3 q3 s5 o3 => ?_
    refine b2 _ Γ3 σ3 σ0 H3 _ _ s5 (p2.out o3 hW) ⟨fun Γ4 σ4 H4 q4 s6 p6 => ⟨rfl, hlt, p6, Γ4, q4, s6⟩, fun r Γ4 v σ4 H4 q4 s6 p6 => ?_, fun Γ4 σ4 H4 q4 s6 p6 => ?_, fun Γ4 σ4 H4 q4 s6 p6 => ⟨rfl, hlt, p6, Γ4, q4, s6⟩⟩ q3
    · exact k.rt _ _ _ _ _ q4 (⟨s6.1, (Sep.swap s6.2).tail⟩ : Sx ((some v, r) :: T) Γ4 σ4 H4) p6
    · exact k.nx _ _ _ q4 s6.pop p6
  · have e : i = es.length := by omega
    subst e
    exact Or.inl ⟨stop (Nat.le_refl _), k.nx _ _ _ (ie Γ2 iv) s2.pop p2⟩
end
/-! ### a comprehension over an owned list -/
def lcBO (β : AG) (τt : AT) (τe : AE) (vs : List Nat) (es : List En) (Γ : Ga) (P : En → Ga → Prop) : Prop := ∃ I : Nat → List En → Ga → Prop, I 0 [] (wipeG Γ vs) ∧
  (∀ i e acc Γ2, es[i]? = some e → I i acc Γ2 → β e Γ2 fun Γ3 => τt Γ3 fun b Γ4 => if b = true then τe Γ4 fun r Γ5 => acc.length < sizeLine ∧ I (i + 1) (acc ++ [r]) (wipeG Γ5 vs) else I (i + 1) acc (wipeG Γ4 vs)) ∧
  ∀ acc Γ2, I es.length acc Γ2 → P (.lst acc) (wipeG Γ2 vs)
@[simp] def aLcO (τ : AE) (β : AG) (τt : AT) (τe : AE) (vs : List Nat) : AE := fun Γ P => τ Γ fun r Γ1 => ∃ es, r = .lst es ∧ lcBO β τt τe vs es Γ1 P
theorem snd_lcO {K : PySem.W.Frag} {tl : TE} {α : AE} {g : TG} {β : AG} {W : List Nat} {tt : TT} {τt : AT} {te : TE} {τe : AE} {vs : List Nat} (hi : Snd tl α) (hg : SndG g β W) (ht : SndT tt τt) (he : Snd te τe) (hW : ∀ i ∈ W, i ∈ vs) : Snd (tLc (iList K tl) g tt te vs) (aLcO α β τt τe vs) := fun T Γ σ H Q P s p k =>
  hi T Γ σ H _ _ s p fun r Γ1 v H1 ⟨es, er, I, i0, it, ie⟩ s1 => by
    subst er
    obtain ⟨a, xs, ea, ha, hl⟩ := Sep.lsGet s1.2
    cases ea
    refine ⟨a, rfl, ⟨xs, SqL.of ha⟩, fun D nD => ?_⟩
    let IV : Nat → Nat → Hp → Prop := fun i m H => m = es.length - i ∧ i ≤ es.length ∧ ∃ acc Γ2, I i acc Γ2 ∧ Sx ((some (.ref D), .lst acc) :: (some (.ref a), .lst (mv i es)) :: T) Γ2 (L2.wipe σ vs) H
    refine ⟨IV, ⟨es.length, by omega, Nat.zero_le _, [], _, i0, ?_⟩, ?_⟩
    · have s2 := s1.wipe vs
      exact ⟨s2.1, Sep.newLs (vs := []) (es := []) rfl s2.2 nD⟩
    · rintro i m H2 ⟨rfl, hle, acc, Γ2, iv, s2⟩
      obtain ⟨go, stop, yld⟩ := walkO (K := K) (Sep.swap s2.2)
      by_cases hlt : i < es.length
      · refine Or.inr ⟨go hlt, fun H' => IV (i + 1) (es.length - (i + 1)) H', fun H' n => ⟨_, by omega, n⟩, fun x H' y => ?_⟩
        obtain ⟨e, he2, s3⟩ := yld x H' hlt y
        have s4 : Sx ((some x, e) :: (some (.ref D), .lst acc) :: (some (.ref a), .lst (mv (i + 1) es)) :: T) Γ2 (L2.wipe σ vs) H' := ⟨s2.1, s3.perm ((List.Perm.swap _ _ _).cons _)⟩
        refine hg _ Γ2 _ H' x _ _ _ s4 (it i e acc Γ2 he2 iv) fun Γ3 σ3 H3 p3 s5 o3 => ?_
        have ew : L2.wipe σ3 vs = L2.wipe σ vs := by
          rw [wipe_eq o3.1 fun j hj => o3.2 j fun z => hj (hW j z), wipe_wipe]
        refine ⟨ew, ht _ Γ3 σ3 H3 _ _ s5 p3 fun b Γ4 H4 p4 s6 => ?_⟩
        cases b with
        | true =>
          refine iteT (he _ Γ4 σ3 H4 _ _ s6 p4 fun r Γ5 v H5 ⟨hz, p5⟩ s7 => ?_)
          obtain ⟨xs, hD, hl, s8⟩ := app_ls s7.2
          refine ⟨xs, hD, by rw [hl]; exact hz, rfl, hlt, _, _, p5, ?_⟩
          have s9 : Sx ((some (.ref D), .lst (acc ++ [r])) :: (some (.ref a), .lst (mv (i + 1) es)) :: T) Γ5 σ3 (upd H5 D (.lst (xs ++ [v]))) := ⟨s7.1, s8⟩
          have s10 := s9.wipe vs
          rw [ew] at s10
          exact s10
        | false =>
          refine iteF ⟨rfl, hlt, acc, _, p4, ?_⟩
          have s10 := s6.wipe vs
          rw [ew] at s10
          exact s10
      · have e : i = es.length := by omega
        subst e
        refine Or.inl ⟨stop (Nat.le_refl _), k _ _ _ _ (ie acc Γ2 iv) ?_⟩
        have s3 := s2.wipe vs
        rw [wipe_wipe] at s3
        have s4 := s3.unwipe
        exact ⟨s4.1, (Sep.swap s4.2).tail⟩
theorem ax_lcO {X : Cx} {elt tg iter : Expr} {ifs : List Expr} {scope : Scope} {own : List (Str × Nat)} {pos : Pos} {tl : TE} {α : AE} {g : TG} {β : AG} {W : List Nat} {tt : TT} {τt : AT} {te : TE} {τe : AE} (hc : X.calm = true) (hN : X.N.Nodup) (hi : AX X iter tl α) (ok : BlkOk X.N X.env.scope scope own)
    (hg : ∀ (s : Shared) (H : Hp) (C : Addr) (cl : List (Str × Addr)) (fp : List Addr), AXG (X.blk s H scope (compEnvC scope cl C X.env) fp) tg g β W)
    (ht : ∀ (s : Shared) (H : Hp) (C : Addr) (cl : List (Str × Addr)) (fp : List Addr), AXTs (X.blk s H scope (compEnvC scope cl C X.env) fp) ifs tt τt)
    (he : ∀ (s : Shared) (H : Hp) (C : Addr) (cl : List (Str × Addr)) (fp : List Addr), AX (X.blk s H scope (compEnvC scope cl C X.env) fp) elt te τe)
    (hW : ∀ i ∈ W, i ∈ own.map (·.2) := by decide) (hs : ∀ x, foldedSetIterable iter X.env x = pure x := by intro _; rfl) :
    AX X (.ListComp elt [⟨tg, iter, ifs, 0⟩] scope pos) (tLc (iList X.K tl) g tt te (own.map (·.2))) (aLcO α β τt τe (own.map (·.2))) :=
  ⟨pe_lc hc hN (pi_list hi.pe) ok (fun s H C cl fp => (hg s H C cl fp).pg) (fun s H C cl fp => (ht s H C cl fp).pe) (fun s H C cl fp => (he s H C cl fp).pe) hs,
    snd_lcO hi.snd (hg X.s_0 X.H_0 0 [] []).snd (ht X.s_0 X.H_0 0 [] []).snd (he X.s_0 X.H_0 0 [] []).snd hW⟩
/-- x is not None, x owned in a slot: an object, or None -/
@[simp] def aNotNO (i : Nat) : AE := fun Γ P => ∃ e, Γ[i]? = some e ∧ ((∃ C N es, e = .ob C N es ∧ P (.sh (.bool true)) Γ) ∨ (∃ d, e = .sh d ∧ P (.sh (.bool (!isNone d))) Γ))
theorem snd_notNO {i : Nat} : Snd (tNotN (tVar i)) (aNotNO i) := fun T Γ σ H Q P s ⟨e, he, q⟩ k => by
  rcases q with ⟨C, N, es, er, q⟩ | ⟨d, er, q⟩
  · subst er
    obtain ⟨v, M, h1, s2, s3, s4⟩ := (pl_slot i).mod s he rfl
    obtain ⟨a, dx, xs, ea, ha, _⟩ := s2.obAt
    cases ea
    refine h1 _ ?_
    have e2 : (!decide (V.ref a = V.non)) = true := rfl
    rw [e2]
    exact k _ _ _ _ q ⟨s.1, Sep.shc s.2 fun _ => .bl _⟩
  · subst er
    obtain ⟨v, h1, dt, s1⟩ := s.copy he
    refine ⟨v, h1, ?_⟩
    show Q (V.bl (!decide (v = V.non))) H
    rw [isNone_V dt]
    exact k _ _ _ _ q ⟨s.1, Sep.shc s.2 fun _ => .bl _⟩
theorem at_notNO {X : Cx} (i : Nat) {x : Str} {npos pos pos' : Pos} {j} (hN : X.N[i]? = some x := by rfl) (hv : Vis X.env.scope x := by first | exact Or.inl rfl | exact Or.inr (Or.inl rfl) | exact Or.inr (Or.inr rfl)) (hd : (x == ("__debug__" : Str)) = false := by decide) (hcd : (x == ("__classdict__" : Str)) = false := by decide) :
    AXT X (.Compare (.Name x npos) [.IsNot] [.Constant .none j pos'] pos) (tB (tNotN (tVar i))) (aTest (aNotNO i)) := ⟨pt_cmp (pc_notN (pe_var hN hv hd hcd)) rfl, snd_test snd_notNO⟩
end PL
set_option maxRecDepth 100000
set_option maxHeartbeats 1000000
namespace PL
open PySem PySem.Spec PyProof.Rows L2 StX
/-! ### in a global tuple of texts -/
structure TupG (K : PySem.W.Frag) (mg : Str → Option Value) (x : Str) (p : Addr) (zs : List Str) : Prop where
  mg : mg x = some (.ref p)
  at_ : ∀ H, SqT K H p (zs.map V.str)
@[simp] def aInG (zs : List Str) (τ : AE) : AE := fun Γ P => τ Γ fun r Γ1 => ∃ z, r = .sh (.str z) ∧ P (.sh (.bool (zs.any fun y => y == z))) Γ1
theorem inV_strs (z : Str) : ∀ zs : List Str, inV (.str z) (zs.map V.str) = zs.any fun y => y == z
  | [] => rfl
  | y :: r => by
    have q := inV_strs z r
    unfold inV at q ⊢
    rw [List.map_cons, List.any_cons, List.any_cons, q]
    simp [eqV]
theorem flat_strs : ∀ zs : List Str, (zs.map V.str).all flatV = true
  | [] => rfl
  | y :: r => by
    rw [List.map_cons, List.all_cons, flat_strs r]
    rfl
theorem ax_inG {X : Cx} {a : Expr} {ta : TE} {τ : AE} {x : Str} {zs : List Str} {p : Addr} {p2 pos : Pos} (hG : TupG X.K X.mg x p zs) (hg : Gl X x) (ha : AX X a ta τ) (hd : (x == ("__debug__" : Str)) = false := by decide) (hm : behindInMarks .In (.Name x p2) = false := by rfl) :
    AX X (.Compare a [.In] [.Name x p2] pos) (tOp (rIn X.K false) ta (tC (.ref p))) (aInG zs τ) := by
  obtain ⟨hp, hs⟩ := hG
  refine ⟨pe_cmpR op_in_seq ha.pe (pe_glob hg hp rfl hd) hm, fun T Γ σ H Q P s q k => ha.snd T Γ σ H _ _ s q fun r Γ1 v H1 ⟨z, er, q1⟩ s1 => ?_⟩
  subst er
  obtain ⟨w, ew, dt⟩ := Sep.val s1.2
  cases ew
  have ev := dt.strE
  subst ev
  refine ⟨p, _, rfl, Or.inr (hs H1), rfl, flat_strs zs, ?_⟩
  rw [inV_strs, if_neg Bool.false_ne_true]
  exact k _ _ _ _ q1 ⟨s1.1, Sep.shc s1.pop.2 fun _ => .bl _⟩
/-! ### what an expression needs, told by its reading alone -/
def tOf (τ : AE) : TE := fun σ H Q => ∃ T Γ P, Sx T Γ σ H ∧ τ Γ P ∧ ∀ r Γ' v H', P r Γ' → Sx ((some v, r) :: T) Γ' σ H' → Q v H'
def tOfT (τ : AT) : TT := fun σ H Q => ∃ T Γ P, Sx T Γ σ H ∧ τ Γ P ∧ ∀ b Γ' H', P b Γ' → Sx T Γ' σ H' → Q b H'
theorem ax_c {X : Cx} {e : Expr} {t : TE} {τ : AE} (h : AX X e t τ) : AX X e (tOf τ) τ := ⟨⟨fun pins s σ H Q I ⟨T, Γ, P, sx, p, k⟩ => h.pe.run pins s σ H Q I (h.snd T Γ σ H Q P sx p k)⟩, fun T Γ σ H Q P s p k => ⟨T, Γ, P, s, p, k⟩⟩
theorem ats_c {X : Cx} {es : List Expr} {t : TT} {τ : AT} (h : AXTs X es t τ) : AXTs X es (tOfT τ) τ := ⟨⟨fun pins s σ H Q I ⟨T, Γ, P, sx, p, k⟩ => h.pe.run pins s σ H Q I (h.snd T Γ σ H Q P sx p k)⟩, fun T Γ σ H Q P s p k => ⟨T, Γ, P, s, p, k⟩⟩
def gOf (β : AG) (W : List Nat) : TG := fun v σ H Q => ∃ T Γ e P, Sx ((some v, e) :: T) Γ σ H ∧ β e Γ P ∧ ∀ Γ' σ' H', P Γ' → Sx T Γ' σ' H' → Out W σ σ' → Q σ' H'
theorem ag_c {X : Cx} {tg : Expr} {g : TG} {β : AG} {W : List Nat} (h : AXG X tg g β W) : AXG X tg (gOf β W) β W := ⟨⟨fun pins s σ H v u Q I r ⟨T, Γ, e, P, sx, p, k⟩ => h.pg.run pins s σ H v u Q I r (h.snd T Γ σ H v e Q P sx p k)⟩, fun T Γ σ H v e Q P s p k => ⟨T, Γ, e, P, s, p, k⟩⟩
/-! ### names as places -/
theorem pe_v {X : Cx} (i : Nat) {x : Str} {pos : Pos} (hN : X.N[i]? = some x := by rfl) (hv : Vis X.env.scope x := by first | exact Or.inl rfl | exact Or.inr (Or.inl rfl) | exact Or.inr (Or.inr rfl)) (hd : (x == ("__debug__" : Str)) = false := by decide)
    (hcd : (x == ("__classdict__" : Str)) = false := by decide) : PE X (.Name x pos) (tVar i) := pe_var hN hv hd hcd
/-! ### a comprehension over the values of a dict at a place -/
def frzO (od : Obj) (d : Addr) (ks : List (Key × V)) (kvs : List (Key × PyData)) : Ow where
  rel := fun Hs H v F => v = .ref d ∧ H d = some (.frz od (.dK ks)) ∧ KvR Hs ks kvs ∧ F = [d]
  mono := fun {Hs Hs' H H' v F} ⟨e, h, kv, eF⟩ x k => ⟨e, (k d (by rw [eF]; simp)).trans h, kv.mono x, eF⟩
  live := fun {Hs H v F} ⟨e, h, kv, eF⟩ a ha => by
    rw [eF] at ha
    rw [List.mem_singleton.mp ha, h]
    exact fun z => nomatch z
theorem enR_ow {Hs H : Hp} {o : Option V} {w : Ow} {F : List Addr} : EnR Hs H o (.ow w) F ↔ ∃ v, o = some v ∧ w.rel Hs H v F := by rw [EnR]
theorem Sep.frz {H : Hp} {o : Option V} {kvs : List (Key × PyData)} {M : Ls} (s : Sep H ((o, .dct kvs) :: M)) : ∃ d ks, o = some (.ref d) ∧ H d = some (.dK ks) ∧ ∀ od, Sep (upd H d (.frz od (.dK ks))) ((o, .ow (frzO od d ks kvs)) :: M) := by
  obtain ⟨d, ks, eo, hd, _, _, _⟩ := s.dctGet
  subst eo
  refine ⟨d, ks, rfl, hd, fun od => ?_⟩
  refine Sep.rew (N := []) s (by rw [hd]; exact fun z => nomatch z) fun Hs F1 F2 q _ => ?_
  obtain ⟨p', ks', eo, hp', kv, eF⟩ := enR_dct.mp q
  cases eo
  rw [hd] at hp'
  cases hp'
  exact ⟨[], [], eF, (fun _ z => nomatch z), (fun _ => List.nodup_nil), fun H' h1 _ _ => enR_ow.mpr ⟨_, rfl, rfl, h1, kv, rfl⟩⟩
theorem Sep.unfrz {H : Hp} {o : Option V} {od : Obj} {d : Addr} {ks : List (Key × V)} {kvs : List (Key × PyData)} {M : Ls} (s : Sep H ((o, .ow (frzO od d ks kvs)) :: M)) : o = some (.ref d) ∧ H d = some (.frz od (.dK ks)) ∧ Sep (upd H d (.dK ks)) ((o, .dct kvs) :: M) := by
  have h1 : o = some (.ref d) ∧ H d = some (.frz od (.dK ks)) := by
    obtain ⟨Hs, F, x, ⟨F1, F2, e, q, r2⟩, nd, fr⟩ := s
    obtain ⟨v, eo, ev, h, _, _⟩ := enR_ow.mp q
    exact ⟨eo.trans (congrArg some ev), h⟩
  obtain ⟨eo, hd⟩ := h1
  subst eo
  refine ⟨rfl, hd, ?_⟩
  refine Sep.rew (N := []) s (by rw [hd]; exact fun z => nomatch z) fun Hs F1 F2 q _ => ?_
  obtain ⟨v, eo, ev, h, kv, eF⟩ := enR_ow.mp q
  exact ⟨[], [], eF, (fun _ z => nomatch z), (fun _ => List.nodup_nil), fun H' h1 _ _ => enR_dct.mpr ⟨d, ks, rfl, h1, kv, rfl⟩⟩
theorem KvR.at_ {Hs : Hp} : ∀ {ks : List (Key × V)} {kvs : List (Key × PyData)} {i : Nat} {k : Key} {x : V}, KvR Hs ks kvs → ks[i]? = some (k, x) → ∃ d, (kvs.map (·.2))[i]? = some d ∧ Dt Hs x d
  | _, [], i, k, x, h, e => by
    rw [show _ = [] from h] at e
    simp at e
  | _, (k', d') :: r, 0, k, x, ⟨v, rs, e0, h, t⟩, e => by
    subst e0
    simp at e
    obtain ⟨_, rfl⟩ := e
    exact ⟨d', rfl, h⟩
  | _, (k', d') :: r, i + 1, k, x, ⟨v, rs, e0, h, t⟩, e => by
    subst e0
    obtain ⟨d, h1, h2⟩ := KvR.at_ (i := i) t (by simpa using e)
    exact ⟨d, by simpa using h1, h2⟩
theorem walk_vals {od : Obj} {d : Addr} {ks : List (Key × V)} {kvs : List (Key × PyData)} {o : Option V} : Walk (Itd d od ks) [(o, .ow (frzO od d ks kvs))] (kvs.map (·.2)) := fun L H s => by
  obtain ⟨Hs, F, x, ⟨F1, F2, e, q, r2⟩, nd, fr⟩ := s
  obtain ⟨v, eo, ev, h, kv, eF⟩ := enR_ow.mp q
  have hl : (kvs.map (·.2)).length = ks.length := by rw [List.length_map, kv.len]
  rw [hl]
  refine ⟨fun i hi => ⟨h, hi⟩, ⟨h, Nat.le_refl _⟩, fun i y H' hi yy => ?_⟩
  obtain ⟨e1, k, hk⟩ := yy
  subst e1
  obtain ⟨dd, h1, h2⟩ := kv.at_ hk
  exact ⟨dd, h1, Hs, F, x, ⟨[], F, rfl, ⟨rfl, y, rfl, h2⟩, F1, F2, e, q, r2⟩, nd, fr⟩
/-- the turns of a comprehension -/
theorem lc_turns {J : It} {S T : Ls} {Γ1 : Ga} {σ : L2.St} {H1 : Hp} {Q : VK} {P : En → Ga → Prop} {ds : List PyData} {g : TG} {β : AG} {W : List Nat} {tt : TT} {τt : AT} {te : TE} {τe : AE} {vs : List Nat} (hg : SndG g β W) (ht : SndT tt τt) (he : Snd te τe) (hW : ∀ i ∈ W, i ∈ vs)
    (p : lcB β τt τe vs ds Γ1 P) (s1 : Sx (S ++ T) Γ1 σ H1) (wk : Walk J S ds) (k : ∀ r Γ' v H', P r Γ' → Sx ((some v, r) :: (S ++ T)) Γ' σ H' → Q v H') : ∀ D, H1 D = none → ∃ W : Nat → Nat → Hp → Prop, (∃ m, W 0 m (upd H1 D (.lst []))) ∧ ∀ i m H, W i m H →
  (J.stop i H ∧ Q (.ref D) H) ∨ (J.go i H ∧ ∃ Nx : Hp → Prop, (∀ H', Nx H' → ∃ m', m' < m ∧ W (i + 1) m' H') ∧ ∀ x H', J.yld i H x H' → g x (L2.wipe σ vs) H' fun σ2 H2 => L2.wipe σ2 vs = L2.wipe σ vs ∧ tt σ2 H2 fun b H3 =>
    if b = true then te σ2 H3 fun y H4 => ∃ acc, H4 D = some (.lst acc) ∧ acc.length < sizeLine ∧ Nx (upd H4 D (.lst (acc ++ [y]))) else Nx H3) := fun D nD => by
    obtain ⟨I, i0, it, ie⟩ := p
    let IV : Nat → Nat → Hp → Prop := fun i m H => m = ds.length - i ∧ i ≤ ds.length ∧ ∃ acc Γ2, I i acc Γ2 ∧ Sx ((some (.ref D), .lst acc) :: (S ++ T)) Γ2 (L2.wipe σ vs) H
    refine ⟨IV, ⟨ds.length, by omega, Nat.zero_le _, [], _, i0, ?_⟩, ?_⟩
    · have s2 := s1.wipe vs
      exact ⟨s2.1, Sep.newLs (vs := []) (es := []) rfl s2.2 nD⟩
    · rintro i m H2 ⟨rfl, hle, acc, Γ2, iv, s2⟩
      obtain ⟨go, stop, yld⟩ := wk (((some (.ref D), .lst acc) :: T) ++ (L2.wipe σ vs).zip Γ2) H2 (by
        have q := s2.2
        exact q.perm (by
          rw [← List.append_assoc]
          refine List.Perm.append_right _ ?_
          exact (perm_mid [_] S T)))
      by_cases hlt : i < ds.length
      · refine Or.inr ⟨go i hlt, fun H' => IV (i + 1) (ds.length - (i + 1)) H', fun H' n => ⟨_, by omega, n⟩, fun x H' y => ?_⟩
        obtain ⟨d, hd, s3⟩ := yld i x H' hlt y
        have s4 : Sx ((some x, .sh d) :: ((some (.ref D), .lst acc) :: (S ++ T))) Γ2 (L2.wipe σ vs) H' := ⟨s2.1, s3.perm (by
          refine List.Perm.cons _ ?_
          rw [← List.append_assoc]
          exact List.Perm.append_right _ (perm_mid S [_] T))⟩
        refine hg _ Γ2 _ H' x _ _ _ s4 (it i d acc Γ2 hd iv) fun Γ3 σ3 H3 p3 s5 o3 => ?_
        have ew : L2.wipe σ3 vs = L2.wipe σ vs := by
          rw [wipe_eq o3.1 fun j hj => o3.2 j fun z => hj (hW j z), wipe_wipe]
        refine ⟨ew, ht _ Γ3 σ3 H3 _ _ s5 p3 fun b Γ4 H4 p4 s6 => ?_⟩
        cases b with
        | true =>
          refine iteT (he _ Γ4 σ3 H4 _ _ s6 p4 fun r Γ5 v H5 ⟨hz, p5⟩ s7 => ?_)
          obtain ⟨xs, hD, hl, s8⟩ := app_ls s7.2
          refine ⟨xs, hD, by rw [hl]; exact hz, rfl, hlt, _, _, p5, ?_⟩
          have s9 : Sx ((some (.ref D), .lst (acc ++ [r])) :: (S ++ T)) Γ5 σ3 (upd H5 D (.lst (xs ++ [v]))) := ⟨s7.1, s8⟩
          have s10 := s9.wipe vs
          rw [ew] at s10
          exact s10
        | false =>
          refine iteF ⟨rfl, hlt, acc, _, p4, ?_⟩
          have s10 := s6.wipe vs
          rw [ew] at s10
          exact s10
      · have e : i = ds.length := by omega
        subst e
        refine Or.inl ⟨stop, k _ _ _ _ (ie acc Γ2 iv) ?_⟩
        have s3 := s2.wipe vs
        rw [wipe_wipe] at s3
        exact s3.unwipe
@[simp] def aLcV (get : Ga → Option En) (put : Ga → En → Ga) (β : AG) (τt : AT) (τe : AE) (vs : List Nat) : AE := fun Γ P => ∃ kvs, get Γ = some (.dct kvs) ∧ ∀ v, lcB β τt τe vs (kvs.map (·.2)) (put Γ (.al v)) fun r Γ2 => get Γ2 = some (.al v) ∧ P r (put Γ2 (.dct kvs))
theorem snd_lcV {td : TE} {get : Ga → Option En} {put : Ga → En → Ga} {g : TG} {β : AG} {W : List Nat} {tt : TT} {τt : AT} {te : TE} {τe : AE} {vs : List Nat} (p : Pl td get put) (hg : SndG g β W) (ht : SndT tt τt) (he : Snd te τe) (hW : ∀ i ∈ W, i ∈ vs) : Snd (tLockE (tLc (iVals td) g tt te vs)) (aLcV get put β τt τe vs) := fun T Γ σ H Q P s ⟨kvs, hgt, q⟩ k => by
  obtain ⟨v, M, h1, s2, s3, s4⟩ := p.mod s hgt rfl
  obtain ⟨d, ks, ev, hd, fz⟩ := s2.frz
  cases ev
  refine ⟨d, _, hd, trivial, fun od => ?_⟩
  have s5 := s3 _ _ (fz od)
  obtain ⟨v2, h6, s6⟩ := p.move s5 (p.pg hgt) rfl
  rw [p.pq hgt] at s6
  obtain ⟨e2, hf, _⟩ := Sep.unfrz s6.2
  cases e2
  refine h6 _ ⟨d, od, ks, rfl, hf, ?_⟩
  have fin := lc_turns (J := Itd d od ks) (te := te) (tt := tt) (g := g) (Q := fun v H' => H' d = some (.frz od (.dK ks)) ∧ Q v (upd H' d (.dK ks))) (S := [(some (.ref d), .ow (frzO od d ks kvs))]) hg ht he hW (q (.ref d)) s6 walk_vals fun r Γ' y H' ⟨hg2, pr⟩ s7 => by
    have s8 := Sep.swap s7.2
    obtain ⟨_, hf2, s9⟩ := Sep.unfrz s8
    exact ⟨hf2, k _ _ _ _ pr (p.back hg2 (⟨s7.1, s9⟩ : Sx ((some (.ref d), .dct kvs) :: (some y, r) :: T) Γ' σ _))⟩
  exact fin
theorem ax_lcV {X : Cx} {elt tg o : Expr} {ifs : List Expr} {scope : Scope} {own : List (Str × Nat)} {apos cpos pos : Pos} {td : TE} {get : Ga → Option En} {put : Ga → En → Ga} {g : TG} {β : AG} {W : List Nat} {tt : TT} {τt : AT} {te : TE} {τe : AE} (hc : X.calm = true) (hN : X.N.Nodup) (ho : PE X o td) (p : Pl td get put) (ok : BlkOk X.N X.env.scope scope own)
    (hg : ∀ (s : Shared) (H : Hp) (C : Addr) (cl : List (Str × Addr)) (fp : List Addr), AXG (X.blk s H scope (compEnvC scope cl C X.env) fp) tg g β W)
    (ht : ∀ (s : Shared) (H : Hp) (C : Addr) (cl : List (Str × Addr)) (fp : List Addr), AXTs (X.blk s H scope (compEnvC scope cl C X.env) fp) ifs tt τt)
    (he : ∀ (s : Shared) (H : Hp) (C : Addr) (cl : List (Str × Addr)) (fp : List Addr), AX (X.blk s H scope (compEnvC scope cl C X.env) fp) elt te τe)
    (hW : ∀ i ∈ W, i ∈ own.map (·.2) := by decide) (hbase : attributeBase o "values" X.env (eval o X.env) = eval o X.env := by rfl) (hline : (apos.endLine == cpos.line) = true := by rfl) (hs : ∀ x, foldedSetIterable (.Call (.Attribute o "values" apos) [] [] cpos) X.env x = pure x := by intro _; rfl) :
    AX X (.ListComp elt [⟨tg, .Call (.Attribute o "values" apos) [] [] cpos, ifs, 0⟩] scope pos) (tLockE (tLc (iVals td) g tt te (own.map (·.2)))) (aLcV get put β τt τe (own.map (·.2))) :=
  ⟨pe_lock (pe_lc hc hN (pi_values ho hbase hline) ok (fun s H C cl fp => (hg s H C cl fp).pg) (fun s H C cl fp => (ht s H C cl fp).pe) (fun s H C cl fp => (he s H C cl fp).pe) hs),
    snd_lcV p (hg X.s_0 X.H_0 0 [] []).snd (ht X.s_0 X.H_0 0 [] []).snd (he X.s_0 X.H_0 0 [] []).snd hW⟩
/-! ### a pair whose first item alone is asked for -/
def fstO (d : PyData) : Ow where
  rel := fun Hs H v F => ∃ p x y, v = .ref p ∧ H p = some (.tup [x, y]) ∧ Dt Hs x d ∧ F = [p]
  mono := fun {Hs Hs' H H' v F} ⟨p, x, y, e, h, dt, eF⟩ xx k => ⟨p, x, y, e, (k p (by rw [eF]; simp)).trans h, dt.mono xx, eF⟩
  live := fun {Hs H v F} ⟨p, x, y, e, h, dt, eF⟩ a ha => by
    rw [eF] at ha
    rw [List.mem_singleton.mp ha, h]
    exact fun z => nomatch z
@[simp] def aTupF (τ υ : AE) : AE := fun Γ P => τ Γ fun r1 Γ1 => υ Γ1 fun r2 Γ2 => ∃ d, r1 = .sh d ∧ P (.ow (fstO d)) Γ2
theorem Sep.newFst {H : Hp} {q : Addr} {x y : V} {d : PyData} {M : Ls} (s : Sep H ((some x, .sh d) :: M)) (n : H q = none) : Sep (upd H q (.tup [x, y])) ((some (.ref q), .ow (fstO d)) :: M) := by
  obtain ⟨Hs, F, xx, ⟨F1, F2, e, ⟨e1, w, ew, dt⟩, r2⟩, nd, fr⟩ := s
  cases ew
  subst e1
  rw [List.nil_append] at e
  subst e
  have n1 := r2.ne n
  refine ⟨Hs, q :: F, xx.updOut (xx.back n), ⟨[q], F, rfl, enR_ow.mpr ⟨_, rfl, q, x, y, rfl, upd_same, dt, rfl⟩, r2.mono Ex.rfl fun a ha => upd_ne (n1 a ha)⟩, List.nodup_cons.mpr ⟨fun h => n1 q h rfl, nd⟩, fun a ha => ?_⟩
  rcases List.mem_cons.mp ha with z | z
  · rw [z]
    exact xx.back n
  · exact fr a z
theorem ax_tupF {X : Cx} {a b : Expr} {ta tb : TE} {τ υ : AE} {x1} {pos : Pos} (ha : AX X a ta τ) (hb : AX X b tb υ) (hs1 : starEach [a, b] X.env = (false, eval a X.env) :: starEach [b] X.env := by rfl) (hs2 : starEach [b] X.env = (false, eval b X.env) :: starEach [] X.env := by rfl) : AX X (.Tuple [a, b] x1 pos) (tTup (tCons ta (tCons tb tNil))) (aTupF τ υ) :=
  ⟨pe_tup (pa_cons ha.pe (pa_cons hb.pe pa_nil hs2) hs1), fun T Γ σ H Q P s p k => ha.snd T Γ σ H _ _ s p fun r1 Γ1 v1 H1 p1 s1 => hb.snd _ Γ1 σ H1 _ _ s1 p1 fun r2 Γ2 v2 H2 ⟨d, e, p2⟩ s2 => by
    subst e
    exact ⟨by show 2 ≤ sizeLine; decide, fun q nq => k _ _ _ _ p2 ⟨s2.1, Sep.newFst s2.pop.2 nq⟩⟩⟩
@[simp] def aFst (τ : AE) : AE := fun Γ P => τ Γ fun r Γ1 => ∃ d, r = .ow (fstO d) ∧ P (.sh d) Γ1
theorem ax_fst {X : Cx} {a : Expr} {ta : TE} {τ : AE} {j : Nat} {p1 pos : Pos} (ha : AX X a ta τ) (hs : PlainIx (.Constant (.int 0) j p1) := by intro _ _; rfl) : AX X (.Subscript a (.Constant (.int 0) j p1) pos) (tOp (rIx X.K) ta (tC (.int 0))) (aFst τ) :=
  ⟨pe_ix ix_seq ha.pe pe_int hs, fun T Γ σ H Q P s p k => ha.snd T Γ σ H _ _ s p fun r Γ1 v H1 ⟨d, er, p1⟩ s1 => by
    subst er
    obtain ⟨Hs, F, xx, ⟨F1, F2, e, q, r2⟩, nd, fr⟩ := s1.2
    obtain ⟨u, eu, p, x, y, ev, h, dt, eF⟩ := enR_ow.mp q
    cases eu
    subst ev
    refine Or.inr (Or.inl ⟨p, [x, y], 0, x, rfl, rfl, SqT.of h, rfl, k _ _ _ _ p1 ⟨s1.1, ?_⟩⟩)
    subst e eF
    exact ⟨Hs, F2, xx, ⟨[], F2, rfl, ⟨rfl, x, rfl, dt⟩, r2⟩, (List.nodup_cons.mp nd).2, fun a ha => fr a (List.mem_cons_of_mem _ ha)⟩⟩
/-! ### classes of the program -/
structure ClsO (K : PySem.W.Frag) (C : Addr) (N : List Str) : Prop where
  cls : Cls K C
  na : ∀ f ∈ N, NoAttr K C f
structure AtM (K : PySem.W.Frag) (C : Addr) (m qual : Str) (st : Stmt) (f : Addr) (fd : FuncData) : Prop where
  fn : Fun K m qual st f fd
  cls : Cls K C
  meth : Meth K C m f
structure AtI (K : PySem.W.Frag) (mg : Str → Option Value) (x : Str) (C : Addr) (qual : Str) (st : Stmt) (f : Addr) (fd : FuncData) : Prop where
  fn : Fun K "__init__" qual st f fd
  mkr : Mk K C f
  mg : mg x = some (.ref C)
end PL
set_option maxRecDepth 100000
set_option maxHeartbeats 1000000
namespace PL
open PySem PySem.Spec PyProof.Rows L2 StX
/-! ### a method of the object in a slot, its arguments read the same object -/
@[simp] def aMethL (i : Nat) (C : Addr) (N : List Str) (ρ : AF) (α : AA) : AE := fun Γ P => (∃ es0, Γ[i]? = some (.ob C N es0)) ∧ α Γ fun rs Γ1 => ∃ es, Γ1[i]? = some (.ob C N es) ∧ ρ (.ob C N es :: rs) fun r es' => P r (Γ1.set i (es'.headD .no))
section
variable {X : Cx} {k : Nat} {C : Addr} {N : List Str} {m : Str} {ps : List Str} {ρ : AF} {e : Expr} {es : List Expr} {t : TA} {α : AA} {apos pos : Pos} {pl : Sem Bool}
theorem snd_methL {i : Nat} (hm : m ∉ N) (h : SndA t α) : Snd (tMeth C m (spE ρ) [] E0 (tVar i) t) (aMethL i C N ρ α) := fun T Γ σ H Q P s ⟨⟨es0, h0⟩, q⟩ kk => by
  obtain ⟨v, h1, _, s1⟩ := s.move h0 rfl
  obtain ⟨a, dx, xs, ea, ha, hN, hl⟩ := Sep.obAt s1.2
  cases ea
  refine ⟨_, h1, a, dx, N.zip xs, rfl, ha, zip_nolook hm, h _ _ σ H _ _ s q fun rs Γ1 vs H1 ⟨es, hg1, q1⟩ hl1 s2 => ?_⟩
  obtain ⟨v2, h2, _, s3⟩ := s2.move hg1 rfl
  rw [h1] at h2
  cases h2
  rw [List.append_nil]
  refine ⟨T ++ σ.zip (Γ1.set i (.al (.ref a))), .ob C N es :: rs, _, by simp [hl1], ?_, q1, fun r es' u H' q2 hl2 s4 => ?_⟩
  · have s5 := s3.2
    rw [List.cons_append, List.append_assoc] at s5
    exact s5
  · match es', hl2 with
    | e' :: rest, hl2 =>
      have s5 : Sep H' ((some (.ref a), e') :: ((some u, r) :: (vz vs rest ++ (T ++ σ.zip (Γ1.set i (.al (.ref a))))))) := s4.swap
      have s6 : Sx ((some (.ref a), e') :: (some u, r) :: T) (Γ1.set i (.al (.ref a))) σ H' := ⟨s3.1, (s5.perm ((perm_mid [_, _] (vz vs rest) (T ++ σ.zip (Γ1.set i (.al (.ref a))))))).right⟩
      have s7 := s6.back h1
      rw [List.set_set] at s7
      exact kk _ _ _ _ q2 s7
theorem ax_methL (i : Nat) {x : Str} {npos : Pos} (F : Mx X.prog X.w X.K X.mg X.base k C m ps ρ) (hr : Room k X.A) (hm : m ∉ N) (ha : AXA X (e :: es) t α) (ho : PE X (.Name x npos) (tVar i) := by exact pe_v _)
    (hst : starEach (e :: es) X.env = (false, eval e X.env) :: starEach es X.env := by rfl) (hpl : (backTo pos (starEach es X.env)).any (·.1) = false := by rfl)
    (ht : eval (.Call (.Attribute (.Name x npos) m apos) (e :: es) [] pos) X.env = (do
      let ov ← eval (.Name x npos) X.env
      standAt apos.atName
      let (f, first) ← holding [ov] (getMethod ov m pl)
      callWith pos f first (backTo pos (starEach (e :: es) X.env)) (backToKw pos (keywordEach [] X.env))) := by rfl) : AX X (.Call (.Attribute (.Name x npos) m apos) (e :: es) [] pos) (tMeth C m (spE ρ) [] E0 (tVar i) t) (aMethL i C N ρ α) :=
  let ⟨f, fd, h1, h2, h3, h4⟩ := F
  ⟨pe_meth ho h2 h3 h1 hr h4 .nil pass0 ha.pe hst hpl ht, snd_methL hm ha.snd⟩
end
end PL
set_option maxRecDepth 100000
set_option maxHeartbeats 1000000
namespace PL
open PySem PySem.Spec PyProof.Rows L2 StX
/-! ### [x] * k, owned -/
@[simp] def rhoRepO : A2 := fun e1 e2 P => ∃ (d : PyData) (k : Int), e1 = .sh (.list [d]) ∧ e2 = .sh (.int k) ∧ 0 ≤ k ∧ k ≤ 1000 ∧ P (.lst ((List.replicate k.toNat d).map En.sh))
theorem snd2_repO : Snd2 rRep rhoRepO := fun L H x y e1 e2 Q P s ⟨d, m, h1, h2, m0, m1, p⟩ k => by
  subst h1 h2
  obtain ⟨w, ew, dy⟩ := s.val
  cases ew
  have ey := dy.intE
  subst ey
  obtain ⟨a, xs, ea, ha, la, s3⟩ := s.tail.lst
  cases ea
  obtain ⟨v, rfl⟩ : ∃ v, xs = [v] := List.length_eq_one_iff.mp la
  have hk : ∀ n : Nat, n ≤ 1000 → 1 * n ≤ sizeLine := fun n h => Nat.le_trans (by omega) (show 1000 ≤ sizeLine by decide)
  refine ⟨a, m, [v], rfl, rfl, ha, by omega, by omega, hk _ (by omega), fun q nq => k _ _ _ p ?_⟩
  rw [flat_rep]
  refine Sep.newLs (by rw [List.length_map, List.length_replicate, List.length_replicate]) ?_ nq
  have s4 : Sep H ((some v, .sh d) :: L) := (s3.swap).tail
  exact ((s4.reps m.toNat).perm (perm_mid _ [_] _)).tail
theorem ax_repO {X : Cx} {a b : Expr} {ta tb : TE} {τ υ : AE} {pos : Pos} (ha : AX X a ta τ) (hb : AX X b tb υ) : AX X (.BinOp a .Mult b pos) (tOp rRep ta tb) (aOp rhoRepO τ υ) := ⟨pe_op op_rep ha.pe hb.pe, snd_op snd2_repO ha.snd hb.snd⟩
end PL
set_option maxRecDepth 100000
set_option maxHeartbeats 1000000
namespace PL
open PySem PySem.Spec PyProof.Rows L2 StX
/-! ### powers of wide numbers -/
def CPowW (i j : Int) : Prop := 0 ≤ j ∧ j ≤ 1000 ∧ i.natAbs < 2 ^ 1000
theorem op_powW {X : Cx} : OpR X (binaryOp .Pow) (rI CPowW fun i j => .int (i ^ j.toNat)) := opI fun i j t u s Q E hc q => PyProof.Rows.pow_int hc.1 (by
  have h1 : Builtin.Int.intBits i ≤ 1000 := intBits_le hc.2.2
  have h2 : (Builtin.Int.intBits i : Int) * j ≤ 1000 * 1000 := Int.mul_le_mul (by omega) hc.2.1 hc.1 (by decide)
  exact Int.le_trans h2 (by decide)) q
theorem ax_powW {X : Cx} {a b : Expr} {ta tb : TE} {τ υ : AE} {pos : Pos} (ha : AX X a ta τ) (hb : AX X b tb υ) : AX X (.BinOp a .Pow b pos) (tOp (rI CPowW fun i j => .int (i ^ j.toNat)) ta tb) (aOp (rhoI CPowW fun i j => .int (i ^ j.toNat)) τ υ) := ⟨pe_op op_powW ha.pe hb.pe, snd_op snd2_I ha.snd hb.snd⟩
/-! ### x, y, z = a, b, c -/
@[simp] def sPar3 (i j l : Nat) (α : AA) : AS := fun Δ Γ => α Γ fun rs Γ1 => ∃ r1 r2 r3, rs = [r1, r2, r3] ∧ i < Γ1.length ∧ j < Γ1.length ∧ l < Γ1.length ∧ Δ.nx (((Γ1.set i r1).set j r2).set l r3)
theorem as_par3 {X : Cx} {np : List Nat} {i j l : Nat} {x y z : Str} {a b c : Expr} {ta : TA} {β : AA} {px py pz pt pos : Pos} {kt k2 pt2} (hc : X.calm = true) (hN : X.N.Nodup) (ha : AXA X [a, b, c] ta β) (hi : X.N[i]? = some x := by rfl) (hj : X.N[j]? = some y := by rfl) (hl : X.N[l]? = some z := by rfl) (hij : i ≠ j := by decide) (hil : i ≠ l := by decide) (hjl : j ≠ l := by decide)
    (hx : X.env.scope.names.lookup x = some .local := by rfl) (hy : X.env.scope.names.lookup y = some .local := by rfl) (hz : X.env.scope.names.lookup z = some .local := by rfl) (hni : i ∉ np := by decide) (hnj : j ∉ np := by decide) (hnl : l ∉ np := by decide)
    (hw : swappedStores [.Tuple [.Name x px, .Name y py, .Name z pz] kt pt] (.Tuple [a, b, c] k2 pt2) X.env = pure (some [x, y, z]) := by rfl)
    (hs : swapsWithSole [.Tuple [.Name x px, .Name y py, .Name z pz] kt pt] (.Tuple [a, b, c] k2 pt2) pos.line X.env = pure false := by rfl) :
    AXS X np (.Assign [.Tuple [.Name x px, .Name y py, .Name z pz] kt pt] (.Tuple [a, b, c] k2 pt2) pos) (sPar3 i j l β) := ⟨_, ps_par3 hc hN hi hj hl hij hil hjl hx hy hz ha.pe hw hs, fun T Γ σ σ0 H D Δ s p k q =>
  ha.snd T Γ σ H _ _ s q fun rs Γ1 vs H1 ⟨r1, r2, r3, er, l1, l2, l3, q1⟩ hl s1 => by
    subst er
    match vs, hl with
    | [u, v, w], _ =>
      refine ⟨u, v, w, rfl, ?_⟩
      have s2 : Sx ((some v, r2) :: (some w, r3) :: T) (Γ1.set i r1) (σ.set i (some u)) H1 := Sx.asg (s1 : Sx ((some u, r1) :: (some v, r2) :: (some w, r3) :: T) Γ1 σ H1) l1
      have s3 := s2.asg (i := j) (by rw [List.length_set]; exact l2)
      refine k.nx _ _ _ q1 (s3.asg (by rw [List.length_set, List.length_set]; exact l3)) fun m hm => ?_
      rw [List.getElem?_set_ne (by intro z; subst z; exact hnl hm), List.getElem?_set_ne (by intro z; subst z; exact hnj hm), List.getElem?_set_ne (by intro z; subst z; exact hni hm)]
      exact p m hm⟩
end PL
set_option maxRecDepth 100000
set_option maxHeartbeats 1000000
namespace PL
open PySem PySem.Spec PyProof.Rows L2 StX
/-! ### xs + ys, owned -/
@[simp] def rhoCatO : A2 := fun e1 e2 P => ∃ ds es, e1 = .sh (.list ds) ∧ e2 = .sh (.list es) ∧ ds.length + es.length ≤ sizeLine ∧ P (.lst ((ds ++ es).map En.sh))
theorem snd2_catO : Snd2 rCat rhoCatO := fun L H x y e1 e2 Q P s ⟨ds, es, h1, h2, hz, p⟩ k => by
  subst h1 h2
  obtain ⟨b, ys, eb, hb, lb, s1⟩ := s.lst
  have s2 := (s1.perm (perm_mid _ [_] _)).tail
  obtain ⟨a, xs, ea, ha, la, s3⟩ := (s2.perm (perm_mid _ [_] _)).lst
  cases ea
  cases eb
  refine ⟨a, b, xs, ys, rfl, rfl, ha, hb, by omega, fun q nq => k _ _ _ p ?_⟩
  refine Sep.newLs (by rw [List.length_append, List.length_map, List.length_append]; omega) ?_ nq
  have ev : vz (xs ++ ys) ((ds ++ es).map En.sh) = vz xs (ds.map En.sh) ++ vz ys (es.map En.sh) := by rw [List.map_append, vz_app (by rw [List.length_map]; exact la)]
  show Sep H (vz (xs ++ ys) ((ds ++ es).map En.sh) ++ L)
  rw [ev, List.append_assoc]
  exact (s3.perm (perm_mid _ [_] _)).tail
theorem ax_catO {X : Cx} {a b : Expr} {ta tb : TE} {τ υ : AE} {pos : Pos} (ha : AX X a ta τ) (hb : AX X b tb υ) : AX X (.BinOp a .Add b pos) (tOp rCat ta tb) (aOp rhoCatO τ υ) := ⟨pe_op op_cat ha.pe hb.pe, snd_op snd2_catO ha.snd hb.snd⟩
/-! ### sorted(xs), xs a list of data -/
def rSortD : List V → Hp → VK → Prop := fun vs H Q => ∃ (a : Addr) (xs : List V) (ds : List PyData) (Hs : Hp), vs = [.ref a] ∧ H a = some (.lst xs) ∧ DtA Hs xs ds ∧ Ex Hs H ∧ PySem.W.AllAlike ds ∧ PySem.W.Sortable ds ∧ (∀ d ∈ ds, d.depth ≤ 16) ∧ ∀ ys p, DtA Hs ys (ds.mergeSort (PySem.W.dataLe false id)) → H p = none → Q (.ref p) (upd H p (.lst ys))
theorem eachOf {H : Hp} {R : Value → PyData → Prop} (h : ∀ x v d, RelV x v → Dt H x d → R v d) : ∀ {xs : List V} {us : List Value} {ds : List PyData}, Vals xs us → DtA H xs ds → PySem.W.EachIs R us ds
  | _, _, _, .nil, .nil => .nil
  | _, _, _, .cons r rs, .cons d t => .cons (h _ _ _ r d) (eachOf h rs t)
theorem ofEach {H : Hp} : ∀ {us : List Value} {ds : List PyData}, PySem.W.EachIs (fun v d => ∃ x, RelV x v ∧ Dt H x d) us ds → ∃ ys, Vals ys us ∧ DtA H ys ds
  | _, _, .nil => ⟨[], .nil, .nil⟩
  | _, _, .cons ⟨x, r, d⟩ t => by
    obtain ⟨ys, h1, h2⟩ := ofEach t
    exact ⟨x :: ys, .cons r h1, .cons d h2⟩
theorem cr_sortD {X : Cx} (hu : X.A.units + 64 < cLine) : CallR X (.builtin "sorted") rSortD := by
  intro pins s σ H vs us Q I r h
  obtain ⟨a, xs, ds, Hs, rfl, hs, hA, hx, hal, hk, hd, q⟩ := h
  obtain ⟨its, rv, hl, hz⟩ := I.list (SqL.of (K := X.K) hs)
  rw [Vals.ref1 r]
  have e1 : PySem.W.EachIs (fun v d => ∃ x, RelV x v ∧ Dt Hs x d) its ds := eachOf (fun x v d r h => ⟨x, r, h⟩) rv hA
  have er : PySem.W.EachIs (fun v d => ∃ as, Reads s.heap v d as) its ds := eachOf (fun x v d r h => Dp.reads I d x v (Dt.dp (h.mono hx)) r) rv hA
  have hi : ds.map id = ds := List.map_id _
  refine PySem.W.sorted_data (enc := id) hl.isList e1 er (by rw [hi]; exact hal) (by rw [hi]; exact hk) (by rw [← hA.length]; exact hz) (fun d hdd => by have := hd d hdd; show X.A.units + 2 + d.depth < cLine; omega) fun out h1 h2 => ?_
  obtain ⟨ys, v1, v2⟩ := ofEach h2
  obtain ⟨ep, he'⟩ := PyProof.Rows.sortedAll_at s.heap its out.toArray
  have hlen : ys.length ≤ sizeLine := by
    rw [v1.length, h1, ← hA.length]
    exact hz
  exact ⟨.ref _, upd H (s.heap.objs.size + 1) (.lst ys), I.laid (t' := s.toks) (fun _ _ => PyProof.Rows.sortedAll_old) (Nat.le_succ _) ⟨hlen, out, ep, v1, he'⟩, rfl, q ys _ (by rw [← List.map_id ds] at v2; simpa using v2) (I.hok.fresh (Nat.le_succ _))⟩
@[simp] def rhoSort : AC := fun es P => ∃ ds, es = [.sh (.list ds)] ∧ PySem.W.AllAlike ds ∧ PySem.W.Sortable ds ∧ (∀ d ∈ ds, d.depth ≤ 16) ∧ P (.sh (.list (ds.mergeSort (PySem.W.dataLe false id))))
theorem sndC_sort : SndC rSortD rhoSort := fun L H xs es Q P hl s ⟨ds, e, hal, hk, hd, p⟩ k => by
  obtain ⟨x, ex⟩ := one_of hl e
  subst e ex
  obtain ⟨Hs, F, xx, ⟨F1, F2, eF, ⟨e1, v, ev, dt⟩, r2⟩, nd, fr⟩ := s
  subst e1
  cases ev
  cases id dt with
  | lst ha hA =>
    refine ⟨_, _, ds, Hs, rfl, xx _ _ ha, hA, xx, hal, hk, hd, fun ys l hy hn => k _ _ _ p ?_⟩
    have np := xx.back hn
    refine ⟨upd Hs l (.lst ys), F, xx.upd2, ⟨[], F, rfl, ⟨rfl, _, rfl, .lst upd_same (hy.mono (Ex.new np))⟩, eF ▸ r2.mono (Ex.new np) fun a h => upd_ne (r2.ne hn a h)⟩, nd, fun a h => ?_⟩
    rw [upd_ne (by rw [eF] at h; exact r2.ne hn a h)]
    exact fr a h
end PL
set_option maxRecDepth 100000
set_option maxHeartbeats 1000000
namespace PL
open PySem PySem.Spec PyProof.Rows L2 StX
/-! ### promises where no repr is under way -/
structure FnG (P : Program) (w : World) (K : PySem.W.Frag) (mg : Str → Option Value) (base : Heap) (k : Nat) (f : Addr) (fd : FuncData) (ps : List Str) (sp : Sp) : Prop where
  len : ∀ vs H Q E, sp vs H Q E → vs.length = ps.length
  run : ∀ (A : Around) (outer : List Env) (s : Shared) (H : Hp) (args : Args) (us : List Value) (vs : List V) (Q : VK) (E : XK), A.guards = some [] → Room k A → Env0 P w K mg base A outer s H → BindsTo s fd args (ps.zip us) → Vals vs us → sp vs H Q E →
    codeAny (model P w) A (.call (.ref f) args) (CR CX0 outer P w H s Q E) s
section
variable {P : Program} {w : World} {K : PySem.W.Frag} {mg : Str → Option Value} {base : Heap}
/-- a def's promise from its body, the guards known -/
theorem fnG_of {x qual : Str} {st : Stmt} {f : Addr} {fd : FuncData} {N ps : List Str} {k : Nat} {sp : Sp} (F : Fun K x qual st f fd) (S : FnScope N ps (defScope st)) (len : ∀ vs H Q E, sp vs H Q E → vs.length = ps.length)
    (hbody : ∀ (cdv : Value) (A : Around) (outer : List Env) (s : Shared) (H : Hp) (vs : List V) (Q : VK) (E : XK), A.guards = some [] → Room k (A.deeper (envOfC qual (defScope st) s.heap.objs.size f cdv)) → sp vs H Q E →
      ∃ t, PSs (cxOf CX0 P w K mg base N qual (defScope st) f cdv A outer s H E).nox (defBody st) t ∧ t { nx := fun _ H' => Q .non H', rt := Q } (L2.start N vs) H) : FnG P w K mg base (k + 1) f fd ps sp := by
  obtain ⟨oc, od, kV, doc, pm, an, cdv, ct, osl, rfl, lk, hcd⟩ := F.ex
  refine ⟨len, fun A outer s H args us vs Q E hg hr e0 hb r hsp => ?_⟩
  obtain ⟨t, ht, hq⟩ := hbody cdv A outer s H vs Q E hg (hr.deeper _) hsp
  have hl := len _ _ _ _ hsp
  have KX : K.In s.heap := e0.mod.kin.keeps fun b o e => (e0.bs b o e).1
  have hkind : ∀ y ∈ ps.zip us, (defScope st).names.lookup y.1 = some .local ∨ ((defScope st).names.lookup y.1 = some .cell ∧ ((cellsFrom (s.heap.objs.size + 1) (defScope st).names []).lookup y.1).isSome = true) := fun ⟨n, v⟩ hy => by
    rcases S.par n (List.of_mem_zip hy).1 with q | q
    · exact .inl q
    · exact .inr ⟨q, PySem.W.cellsFrom_some _ _ _ (.inl q)⟩
  refine codeAny_call_function hr.depth (KX _ _ lk) rfl S.co S.gen rfl (PySem.W.codeRec_of KX hcd) (hb _ _ _ _ ?_)
  refine wpAny_newFunctionEnv_cells S.kind hkind fun env he s1 x => ?_
  subst he
  refine ⟨(e0.mod.nolimit.keeps fun b o e => (e0.bs b o e).1).keeps x.toInCall.keep, codeAny_func ?_⟩
  have I : Inv (cxOf CX0 P w K mg base N qual (defScope st) f cdv A outer s H E) [] (L2.start N vs) H s1 := inv_start S hr.hd e0 hl r x
  refine wpAny_mono (ht.nox.run [] s1 (L2.start N vs) H _ I hq) (fun fl s' hs => ?_) fun e s' hs => hs
  cases fl with
  | ret u =>
    obtain ⟨v, σ', H', J, rv, q⟩ := hs
    exact ⟨v, H', J.os, J.bare, J.base, J.hok, rv, q⟩
  | next =>
    obtain ⟨σ', H', J, q⟩ := hs
    exact ⟨.non, H', J.os, J.bare, J.base, J.hok, rfl, q⟩
  | brk =>
    obtain ⟨_, _, _, q⟩ := hs
    exact False.elim q
  | cont =>
    obtain ⟨_, _, _, q⟩ := hs
    exact False.elim q
/-- THE RULE for a def, the guards known -/
theorem okG_def {x qual : Str} {st : Stmt} {f : Addr} {fd : FuncData} {N ps : List Str} {k : Nat} {ρ : AF} (F : Fun K x qual st f fd) (S : FnScope N ps (defScope st)) (np : List Nat) (hlen : ∀ es P, ρ es P → es.length = ps.length)
    (hb : ∀ (cdv : Value) (A : Around) (outer : List Env) (s : Shared) (H : Hp) (E : XK), A.guards = some [] → Room k (A.deeper (envOfC qual (defScope st) s.heap.objs.size f cdv)) →
      ∃ τ, AXSs (cxOf CX0 P w K mg base N qual (defScope st) f cdv A outer s H E).nox np (defBody st) τ ∧ ∀ es Q, ρ es Q → τ { nx := fun Γ => Γ.length = N.length ∧ Q (.sh .none) (backs np ps.length Γ), rt := fun r Γ => Γ.length = N.length ∧ Q r (backs np ps.length Γ) } (inG N es)) : FnG P w K mg base (k + 1) f fd ps (spE ρ) := by
  have hpl : ps.length ≤ N.length := by have := congrArg List.length S.pre; rw [List.length_take] at this; omega
  refine fnG_of F S (fun vs H Q E ⟨L, es, P, hl, s, r, _⟩ => hl.trans (hlen es P r)) fun cdv A outer s H vs Q E hg hr ⟨L, es, P, hl, sp, r, kk⟩ => ?_
  obtain ⟨τ, ⟨t, h1, h2⟩, h3⟩ := hb cdv A outer s H E hg hr
  have hel := hlen es P r
  have C : Con np L (L2.start N vs) { nx := fun _ H' => Q .non H', rt := Q } { nx := fun Γ => Γ.length = N.length ∧ P (.sh .none) (backs np ps.length Γ), rt := fun r Γ => Γ.length = N.length ∧ P r (backs np ps.length Γ) } := by
    refine ⟨fun Γ σ H' q s' p => ?_, fun r' Γ v σ H' q s' p => ?_, fun _ _ _ q _ _ => q.elim, fun _ _ _ q _ _ => q.elim⟩
    · have s2 : Sx ((some .non, .sh .none) :: L) Γ σ H' := ⟨s'.1, Sep.shc s'.2 fun _ => .non⟩
      exact kk _ _ _ _ q.2 (by rw [backs_length]; exact hel.symm) (sx_back (hl.trans hel) hpl p s2 q.1)
    · exact kk _ _ _ _ q.2 (by rw [backs_length]; exact hel.symm) (sx_back (hl.trans hel) hpl p s' q.1)
  exact ⟨t, h1, h2 L (inG N es) _ (L2.start N vs) H _ _ (sx_start hl (by omega) sp) (fun _ _ => rfl) C (h3 es P r)⟩
end
def FxG (P : Program) (w : World) (K : PySem.W.Frag) (mg : Str → Option Value) (base : Heap) (k : Nat) (x : Str) (ps : List Str) (ρ : AF) : Prop := ∃ f fd, FnG P w K mg base k f fd ps (spE ρ) ∧ mg x = some (.ref f) ∧ PySem.W.keepIn K (.ref f) = true ∧ L2.Binds K fd ps []
section
variable {X : Cx} {k : Nat} {f : Addr} {fd : FuncData} {ps : List Str} {ρ : AF} {x : Str} {p pos : Pos} {e : Expr} {es : List Expr} {t : TA} {α : AA}
theorem ax_fnG (hgd : X.A.guards = some []) (F : FxG X.prog X.w X.K X.mg X.base k x ps ρ) (hr : Room k X.A) (hg : Gl X x) (ha : AXA X (e :: es) t α)
    (hdb : (x == ("__debug__" : Str)) = false := by decide) (he : starEach (e :: es) X.env = (false, eval e X.env) :: starEach es X.env := by rfl) (hpl : (backTo pos (starEach es X.env)).any (·.1) = false := by rfl) :
    AX X (.Call (.Name x p) (e :: es) [] pos) (tCall (spE ρ) [] E0 t) (aCall ρ α) := by
  obtain ⟨f, fd, F1, hm, hk, hb⟩ := F
  refine ⟨⟨fun pins s σ H Q I h => ?_⟩, fun T Γ σ H Q P s q kk => ha.snd T Γ σ H _ _ s q fun rs Γ1 vs H1 q1 hl s1 => ?_⟩
  · refine wpAny_Call_Name_kw (ld_glob I hg hm ?_ hdb)
    refine PySem.W.callWith_K (h₀ := X.base) I.ok.mod.kin hk (thn (ha.pe.run pos pins s σ H _ I h) fun us s1 ⟨vs, H1, I1, r, q⟩ => ⟨I1.kIn, ?_⟩) he hpl
    have r2 : Vals (vs ++ []) (us ++ []) := r.append .nil
    have hl : (us ++ ([] : List Value)).length = ps.length := by rw [← r2.length]; exact F1.len _ _ _ _ q
    refine wpAny_call (codeAny_mono (F1.run X.A X.stack s1 H1 ⟨us, []⟩ (us ++ []) (vs ++ []) Q E0 hgd hr I1.env0 (hb s1 us I1.kIn hl) r2 q) fun r s' hq => ?_)
    cases r with
    | error e => exact pass0 pins σ H1 s1 e s' I1 hq
    | ok fl =>
      cases fl with
      | ret u => exact I1.after hq
      | next => exact False.elim hq
      | brk => exact False.elim hq
      | cont => exact False.elim hq
  · show spE ρ (vs ++ []) H1 Q E0
    rw [List.append_nil]
    refine ⟨T ++ σ.zip Γ1, rs, _, hl, s1.sep2, q1, fun r es' v H' q2 hl2 s2 => kk _ _ _ _ q2 ⟨s1.1, ?_⟩⟩
    exact (s2.perm ((perm_mid [_] (vz vs es') (T ++ σ.zip Γ1)))).right
end
/-! ### repr(xs), xs a list of data -/
section
variable {X : Cx}
def rRepr : List V → Hp → VK → Prop := fun vs H Q => ∃ (a : Addr) (d : PyData), vs = [.ref a] ∧ Dt H (.ref a) d ∧ d.showable = true ∧ d.hasDict = false ∧ d.depth ≤ 16 ∧ d.shown.length ≤ sizeLine ∧ Q (.str d.shown) H
theorem cr_repr (hgd : X.A.guards = some []) (hu : X.A.units + 64 < cLine) : CallR X (.builtin "repr") rRepr := by
  intro pins s σ H vs us Q I r h
  obtain ⟨a, d, rfl, hd, hs, hnd, hdp, hz, q⟩ := h
  rw [Vals.ref1 r]
  obtain ⟨as, rd⟩ := Dp.reads I d (.ref a) (.ref a) (Dt.dp hd) rfl
  refine PySem.repr_of_reads' rd hs (PyData.noDict_hsm hnd) hgd (by omega) (fun _ _ e => e) (fun h' u tk hk => ?_) hz
  · exact ⟨.str d.shown, H, I.kept (t' := tk) hk, ⟨u, rfl⟩, q⟩
@[simp] def rhoRepr : AC := fun es P => ∃ ds, es = [.sh (.list ds)] ∧ (PyData.list ds).showable = true ∧ (PyData.list ds).hasDict = false ∧ (PyData.list ds).depth ≤ 16 ∧ (PyData.list ds).shown.length ≤ sizeLine ∧ P (.sh (.str (PyData.list ds).shown))
theorem sndC_repr : SndC rRepr rhoRepr := fun L H xs es Q P hl s ⟨ds, e, h1, h2, h3, h4, p⟩ k => by
  obtain ⟨x, ex⟩ := one_of hl e
  subst e ex
  obtain ⟨w, ew, dt⟩ := Sep.val s
  cases ew
  cases id dt with
  | lst ha hA => exact ⟨_, _, rfl, dt, h1, h2, h3, h4, k _ _ _ p (Sep.shc (Sep.tail s) fun _ => .str _)⟩
end
/-! ### the end: the law's call, the guards known -/
theorem lawG_core {P : Program} {w : World} {K : PySem.W.Frag} {mg mb : Str → Option Value} {k : Nat} {fa a : Addr} {fd : FuncData} {x : Str} {sp : Sp} {s₁ : Shared} {vs : List Value} {ns : List Int}
    (KX : K.In s₁.heap) (hns : s₁.heap.Ns mainGlobals mg) (hb : s₁.heap.Ns builtinsNs mb) (hbb : ∀ x : Str, x ≠ "__name__" → mb x = bootBuiltins x) (hlim : s₁.heap.NoLimit) (hg : s₁.gens = #[])
    (ha : s₁.heap.get? a = some { cls := .type "list", data := .seq vs.toArray }) (hr : Room k callerA)
    (F : ∀ base : Heap, K.In base → base.Ns mainGlobals mg → FnG P w K mg base k fa fd [x] sp) (hbind : ∀ (s : Shared) (u : Value), BindsTo s fd ⟨[u], []⟩ [(x, u)])
    (H : Hp) (hO : Only H) (hS : SqL K H a (ns.map V.int)) (hok : HOk P w H s₁.heap) (hA : ∀ b, H b ≠ none → b = a) (hK : H a ≠ none → K.lookup a = none)
    (hsp : sp [.ref a] H (fun v _ => v = .bl true) fun _ _ _ => False) :
    codeAny (model P w) callerA (.call (.ref fa) ⟨[.ref a], []⟩) (fun r s' => r = .ok (.ret (.bool true)) ∧ OldK s₁.heap s'.heap ∧ s'.os = s₁.os ∧ AllBare s'.gens) s₁ := by
  have only : ∀ {b : Addr} {o : Obj}, s₁.heap.get? b = some o → b ≠ a → (hidT s₁.heap H).get? b = some o := fun {b o} e n => hidT_get e (by
    cases q : H b with
    | none => rfl
    | some u => exact absurd (hA b (by rw [q]; simp)) n)
  have notA : ∀ {b : Addr} {o : Obj} {es : Array DictEntry} {ep : Nat}, s₁.heap.get? b = some o → o.data = .dict es ep → b ≠ a := fun {b o es ep} e d z => by
    subst z
    rw [ha] at e
    cases e
    cases (show Data.seq vs.toArray _ = Data.dict es ep from d)
  have ns_ : ∀ {b : Addr} {m : Str → Option Value}, s₁.heap.Ns b m → (hidT s₁.heap H).Ns b m := fun {b m} ⟨o, es, ep, e, d, r⟩ => ⟨o, es, ep, only e (notA e d), d, r⟩
  have kin : K.In (hidT s₁.heap H) := fun b o e => hidT_get (KX b o e) (by
    cases q : H b with
    | none => rfl
    | some u =>
      have z := hA b (by rw [q]; simp)
      subst z
      rw [hK (by rw [q]; simp)] at e
      cases e)
  have e0 : Env0 P w K mg (hidT s₁.heap H) callerA [] s₁ H := ⟨rfl, ⟨kin, ns_ hns, ⟨mb, ns_ hb, hbb⟩, let ⟨mc, h1, h2⟩ := hlim; ⟨mc, ns_ h1, h2⟩⟩, fun b o e => of_hidT e, Nat.le_of_eq (hidT_size _ _), trivial, fun b hb => absurd (show b ∈ ([] : List Addr) from hb) (by simp), hok, .of_eq hg⟩
  refine codeAny_mono ((F _ kin (ns_ hns)).run callerA [] s₁ H ⟨[.ref a], []⟩ [.ref a] [.ref a] _ _ rfl hr e0 (hbind s₁ (.ref a)) (.cons rfl .nil) hsp) fun r s' h => ?_
  match r, h with
  | .error e, h => exact False.elim h
  | .ok .next, h => exact False.elim h
  | .ok .brk, h => exact False.elim h
  | .ok .cont, h => exact False.elim h
  | .ok (.ret u), ⟨v, H', os, bare, un, hok', r', q⟩ =>
    have q' : v = .bl true := q
    subst q'
    obtain rfl : u = Value.bool true := r'
    refine ⟨rfl, OldK.of_keep fun b o e => ?_, os, bare⟩
    cases q : H b with
    | none => exact un.keep b o e q (by intro z; exact absurd (show b ∈ ([] : List Addr) from z) (by simp)) (by simp)
    | some u =>
      rcases hO b with z | ⟨ob, xs, z⟩
      · rw [q] at z
        cases z
      · obtain ⟨e1, _⟩ := hok b _ z
        obtain ⟨e2, _⟩ := hok' b _ (un.frzs b ob _ z)
        rw [e] at e1
        cases e1
        exact e2
/-! ### the script: a list of ints that is read only -/
def scrO (K : PySem.W.Frag) (a : Addr) (ns : List Int) : Ow where
  rel := fun Hs H v F => v = .ref a ∧ ((F = [a] ∧ ∃ o, H a = some (.frz o (.lst (ns.map V.int)))) ∨ (F = [] ∧ ∀ H', SqL K H' a (ns.map V.int)))
  mono := fun {Hs Hs' H H' v F} ⟨e, h⟩ x k => ⟨e, by
    rcases h with ⟨eF, o, h⟩ | h
    · exact Or.inl ⟨eF, o, (k a (by rw [eF]; simp)).trans h⟩
    · exact Or.inr h⟩
  live := fun {Hs H v F} ⟨e, h⟩ b hb => by
    rcases h with ⟨eF, o, h⟩ | ⟨eF, _⟩
    · rw [eF] at hb
      rw [List.mem_singleton.mp hb, h]
      exact fun z => nomatch z
    · rw [eF] at hb
      cases hb
theorem Sep.scr {H : Hp} {K : PySem.W.Frag} {o : Option V} {a : Addr} {ns : List Int} {M : Ls} (s : Sep H ((o, .ow (scrO K a ns)) :: M)) : o = some (.ref a) ∧ SqL K H a (ns.map V.int) := by
  obtain ⟨Hs, F, x, ⟨F1, F2, e, q, r2⟩, nd, fr⟩ := s
  obtain ⟨v, eo, ev, h⟩ := enR_ow.mp q
  refine ⟨eo.trans (congrArg some ev), ?_⟩
  rcases h with ⟨_, ob, h⟩ | ⟨_, h⟩
  · exact .inl (.inr ⟨ob, h⟩)
  · exact h H
section
variable {X : Cx} {a : Addr} {ns : List Int} {x : Str} {npos p1 pos : Pos} {b : Expr} {tb : TE} {υ : AE}
@[simp] def aLenS (i : Nat) (K : PySem.W.Frag) (a : Addr) (ns : List Int) : AE := fun Γ P => Γ[i]? = some (.ow (scrO K a ns)) ∧ P (.sh (.int ns.length)) Γ
theorem ax_lenS (i : Nat) (hg : Gl X "len") (hm : X.mg "len" = none) (ho : PE X (.Name x npos) (tVar i) := by exact pe_v _)
    (he : starEach [.Name x npos] X.env = (false, eval (.Name x npos) X.env) :: starEach [] X.env := by rfl) (hpl : (backTo pos (starEach [] X.env)).any (·.1) = false := by rfl) :
    AX X (.Call (.Name "len" p1) [.Name x npos] [] pos) (tCB (fun xs H Q => ∃ x n, xs = [x] ∧ LenV X.K x H n ∧ Q (.int n) H) (tCons (tVar i) tNil)) (aLenS i X.K a ns) :=
  ⟨pe_callB call_len hg hm PySem.boot_len (pa_cons ho pa_nil he) (by decide) (by decide) he hpl, fun T Γ σ H Q P s ⟨h0, q1⟩ k => by
    obtain ⟨v, h1, s1, _⟩ := s.move h0 rfl
    obtain ⟨ev, hs⟩ := Sep.scr s1.2
    cases ev
    exact ⟨_, h1, _, ns.length, rfl, Or.inl ⟨_, hs, by rw [List.length_map]⟩, k _ _ _ _ q1 ⟨s.1, Sep.shc s.2 fun _ => .int _⟩⟩⟩
@[simp] def aIxS (i : Nat) (K : PySem.W.Frag) (a : Addr) (ns : List Int) (υ : AE) : AE := fun Γ P => υ Γ fun r Γ1 => ∃ (n : Nat) (z : Int), Γ1[i]? = some (.ow (scrO K a ns)) ∧ r = .sh (.int n) ∧ ns[n]? = some z ∧ P (.sh (.int z)) Γ1
theorem ax_ixS (i : Nat) (hb : AX X b tb υ) (hv : ∀ Γ P, υ Γ P → ∃ e, Γ[i]? = some e ∧ hv e = true) (ho : PE X (.Name x npos) (tVar i) := by exact pe_v _) (hs : PlainIx b := by intro _ _; rfl) : AX X (.Subscript (.Name x npos) b pos) (tOp (rIx X.K) (tVar i) tb) (aIxS i X.K a ns υ) :=
  ⟨pe_ix ix_seq ho hb.pe hs, fun T Γ σ H Q P s q k => by
    obtain ⟨e0, h0, hv0⟩ := hv _ _ q
    obtain ⟨v, h1, _⟩ := s.move h0 hv0
    refine ⟨v, h1, hb.snd T Γ σ H _ _ s q fun r Γ1 v2 H1 ⟨n, z, hg1, er, hz, q1⟩ s1 => ?_⟩
    subst er
    obtain ⟨w, ew, d2⟩ := Sep.val s1.2
    cases ew
    have e2 := d2.intE
    subst e2
    obtain ⟨v3, h3, s3, _⟩ := s1.pop.move hg1 rfl
    rw [h1] at h3
    cases h3
    obtain ⟨ev, hsq⟩ := Sep.scr s3.2
    cases ev
    refine Or.inl ⟨a, ns.map V.int, n, .int z, rfl, rfl, hsq, ?_, k _ _ _ _ q1 ⟨s1.1, Sep.shc s1.pop.2 fun _ => .int _⟩⟩
    have hn := (List.getElem?_eq_some_iff.mp hz).1
    unfold atI ixN
    simp [hn]
    rw [← (List.getElem?_eq_some_iff.mp hz).2]⟩
/-- script != [] -/
@[simp] def aNeS (i : Nat) (K : PySem.W.Frag) (a : Addr) (ns : List Int) : AE := fun Γ P => Γ[i]? = some (.ow (scrO K a ns)) ∧ P (.sh (.bool (!ns.isEmpty))) Γ
theorem dp_ints {K : PySem.W.Frag} {H : Hp} : ∀ ns : List Int, DpAll K H (ns.map V.int) (ns.map PyData.int)
  | [] => .nil
  | n :: r => .cons (.int n) (dp_ints r)
theorem ints_can : ∀ ns : List Int, PyData.canLayAll0 (ns.map PyData.int) = true ∧ PyData.depthAll (ns.map PyData.int) = 0
  | [] => ⟨by rw [List.map_nil, PyData.canLayAll0], by rw [List.map_nil, PyData.depthAll]⟩
  | n :: r => by
    obtain ⟨h1, h2⟩ := ints_can r
    rw [List.map_cons, PyData.canLayAll0, PyData.depthAll, h1, h2]
    simp [PyData.canLay0, PyData.depth]
theorem snd_neS (i : Nat) : Snd (tOp (rNeD X.K) (tVar i) (tLst tNil)) (aNeS i X.K a ns) := fun T Γ σ H Q P s ⟨h0, q1⟩ k => by
  obtain ⟨v, h1, s1, _⟩ := s.move h0 rfl
  obtain ⟨ev, hs⟩ := Sep.scr s1.2
  cases ev
  refine ⟨_, h1, by show 0 ≤ sizeLine; decide, fun q nq => ?_⟩
  have hs2 : SqL X.K (upd H q (.lst [])) a (ns.map V.int) := (Sep.scr ((s1.2).fresh (o := .lst []) nq)).2
  obtain ⟨c1, c2⟩ := ints_can ns
  refine ⟨.list (ns.map .int), .list [], .lst hs2 (dp_ints ns), .lst (SqL.of upd_same) .nil, ?_, ?_, ?_⟩
  · simp [SeqAt.shaped, PyData.canLay0, PyData.depth, c1, c2]
  · simp [SeqAt.shaped, PyData.canLay0, PyData.canLayAll0, PyData.depth, PyData.depthAll]
  · have e : (!PyData.eqv (.list (ns.map .int)) (.list [])) = (!ns.isEmpty) := by cases ns <;> simp [PyData.eqv, PyData.eqvAll]
    rw [e]
    exact k _ _ _ _ q1 ⟨s.1, Sep.shc (Sep.fresh s.2 nq) fun _ => .bl _⟩
theorem ax_neS (i : Nat) {p2 : Pos} (hu : X.A.units + 64 < cLine) (ho : PE X (.Name x npos) (tVar i) := by exact pe_v _) : AX X (.Compare (.Name x npos) [.NotEq] [.List [] p2] pos) (tOp (rNeD X.K) (tVar i) (tLst tNil)) (aNeS i X.K a ns) := ⟨pe_cmpR (op_neD hu) ho (pe_lst pa_nil) (nomark _), snd_neS i⟩
end
theorem scr_start {K : PySem.W.Frag} {H : Hp} {a : Addr} {ns : List Int} (hO : Only H) (h : SqL K H a (ns.map V.int)) : Sep H [(some (.ref a), .ow (scrO K a ns))] := by
  rcases h with (h | ⟨o, h⟩) | h
  · rcases hO a with z | ⟨_, _, z⟩
    · rw [z] at h
      cases h
    · rw [z] at h
      cases h
  · exact ⟨fun _ => none, [a], (fun _ _ z => by cases z), ⟨[a], [], rfl, enR_ow.mpr ⟨_, rfl, rfl, Or.inl ⟨rfl, o, h⟩⟩, rfl⟩, by simp, fun _ _ => rfl⟩
  · exact ⟨fun _ => none, [], (fun _ _ z => by cases z), ⟨[], [], rfl, enR_ow.mpr ⟨_, rfl, rfl, Or.inr ⟨rfl, fun _ => .inr h⟩⟩, rfl⟩, List.nodup_nil, fun _ h => by cases h⟩
/-- the law's promise gives the walk -/
theorem walkG {l : PySem.W.OpenLaw} {n k : Nat} {q : Program} {loose : List Str} {XP : (Str → Option Value) → Heap → Prop} {YP : World → Heap → Prop} {d : DefRec} {x : Str}
    (hn : l.most = some n) (hn2 : n ≤ sizeLine) (hdf : d.params.defaults = []) (hr : Room k callerA)
    (F : ∀ (w : World) (mg : Str → Option Value) (fa : Addr) (h : Heap), YP w h → h.Ns mainGlobals mg → mg d.name = some (.ref fa) →
      ∃ (K : PySem.W.Frag) (fd : FuncData), K.In h ∧ (∀ (s : Shared) (u : Value), BindsTo s fd ⟨[u], []⟩ [(x, u)]) ∧
        ∀ base : Heap, K.In base → base.Ns mainGlobals mg → FnG l.prog w K mg base k fa fd [x] (spE fun es P => ∃ a ns, es = [.ow (scrO K a ns)] ∧ ns.length ≤ n ∧ ∀ es', P (.sh (.bool true)) es')) :
    PySem.W.WalkO q loose XP YP l.row.toRowW d [] (fun f vs => PySem.call f vs) := by
  refine Att.attach_call hn hdf fun w s₀ s₁ mg mb fa o pm cd doc a vs ns G Y ho hd hcd hmg hobj hints hlen hg => ?_
  obtain ⟨K, fd, KX, hb, hF⟩ := F w mg fa _ Y G.T.g hmg
  have rv := vals_ints hints
  have lenV := hints.length
  have hl : ns.length ≤ sizeLine := Nat.le_trans hlen hn2
  have sp : ∀ H : Hp, Only H → SqL K H a (ns.map V.int) → spE (fun es P => ∃ a ns, es = [.ow (scrO K a ns)] ∧ ns.length ≤ n ∧ ∀ es', P (.sh (.bool true)) es') [.ref a] H (fun v _ => v = .bl true) fun _ _ _ => False := fun H hO hS =>
    ⟨[], [.ow (scrO K a ns)], fun r _ => r = .sh (.bool true), rfl, scr_start hO hS, ⟨a, ns, rfl, hlen, fun _ => rfl⟩, fun r es' v H' er hl2 s => by
      subst er
      obtain ⟨w, ew, dt⟩ := Sep.val s
      cases ew
      exact dt.blE⟩
  cases hk : K.lookup a with
  | some ob =>
    have e := KX a ob hk
    rw [hobj] at e
    cases e
    refine lawG_core (ns := ns) KX G.T.g G.T.b G.T.builtins G.T.nolimit hg hobj hr hF hb (fun _ => none) (fun _ => .inl rfl) (.inr ⟨_, vs.toArray, _, hk, rfl, rfl, rfl, by rw [List.size_toArray, lenV]; exact hl, by simpa using rv⟩) (fun b u z => by cases (show (none : Option HO) = some u from z)) (fun b z => absurd rfl z) (fun z => absurd rfl z) (sp _ (fun _ => .inl rfl) (.inr ⟨_, vs.toArray, _, hk, rfl, rfl, rfl, by rw [List.size_toArray, lenV]; exact hl, by simpa using rv⟩))
  | none =>
    have hO : Only (fun b => if b = a then some (.frz { cls := .type "list", data := .seq vs.toArray } (.lst (ns.map V.int))) else none) := fun b => by
      by_cases hb : b = a
      · exact .inr ⟨_, _, if_pos hb⟩
      · exact .inl (if_neg hb)
    have hS : SqL K (fun b => if b = a then some (.frz { cls := .type "list", data := .seq vs.toArray } (.lst (ns.map V.int))) else none) a (ns.map V.int) := .inl (.inr ⟨{ cls := .type "list", data := .seq vs.toArray }, if_pos rfl⟩)
    refine lawG_core (ns := ns) KX G.T.g G.T.b G.T.builtins G.T.nolimit hg hobj hr hF hb _ hO hS (fun b u z => ?_) (fun b z => ?_) (fun _ => hk) (sp _ hO hS)
    · by_cases hb : b = a
      · have z' := (if_pos hb).symm.trans z
        cases z'
        subst hb
        exact ⟨hobj, by rw [List.length_map]; exact hl, vs, _, rv, hobj⟩
      · have z' := (if_neg hb).symm.trans z
        cases z'
    · by_cases hb : b = a
      · exact hb
      · exact absurd (if_neg hb) z
end PL
set_option maxRecDepth 100000
set_option maxHeartbeats 1000000
namespace PL
open PySem PySem.Spec PyProof.Rows L2 StX
/-! ### d.get(k, x) -/
theorem KvR.vnone {Hs : Hp} {ks : List (Key × V)} {kvs : List (Key × PyData)} {k : Key} (h : KvR Hs ks kvs) (e : dGet kvs k = none) : valV ks k = none := by
  have h1 := h.isSome (k := k)
  have h2 : dHas kvs k = false := by
    unfold dGet at e
    unfold dHas
    rw [Option.map_eq_none_iff, List.find?_eq_none] at e
    rw [List.any_eq_false]
    exact e
  rw [h2] at h1
  cases q : valV ks k with
  | none => rfl
  | some v => rw [q] at h1; cases h1
theorem Sep.dctGet0 {H : Hp} {o : Option V} {kvs : List (Key × PyData)} {M : Ls} (s : Sep H ((o, .dct kvs) :: M)) : ∃ p ks, o = some (.ref p) ∧ H p = some (.dK ks) ∧ (∀ k, dGet kvs k = none → valV ks k = none) ∧ (∀ k d, dGet kvs k = some d → ∃ v, valV ks k = some v ∧ Sep H ((some v, .sh d) :: (o, .dct kvs) :: M)) ∧ ks.map (·.1) = kvs.map (·.1) := by
  obtain ⟨Hs, F, x, ⟨F1, F2, e, q, r2⟩, nd, fr⟩ := s
  obtain ⟨p, ks, eo, hp, kv, eF⟩ := enR_dct.mp q
  refine ⟨p, ks, eo, hp, fun k hk => kv.vnone hk, fun k d hd => ?_, ?_⟩
  · obtain ⟨v, h1, h2⟩ := kv.get hd
    exact ⟨v, h1, Hs, F, x, ⟨[], F, rfl, ⟨rfl, v, rfl, h2⟩, F1, F2, e, q, r2⟩, nd, fr⟩
  · have g : ∀ {ks : List (Key × V)} {kvs : List (Key × PyData)}, KvR Hs ks kvs → ks.map (·.1) = kvs.map (·.1) := fun {ks kvs} h => by
      induction kvs generalizing ks with
      | nil => rw [show ks = [] from h]; rfl
      | cons p r ih =>
        obtain ⟨k, d⟩ := p
        obtain ⟨v, rs, e, _, t⟩ := h
        rw [e, List.map_cons, List.map_cons, ih t]
    exact g kv
section
variable {X : Cx} {o e f : Expr} {apos cpos : Pos} {td ty tx : TE} {get : Ga → Option En} {put : Ga → En → Ga} {υ φ : AE}
@[simp] def aDGet2 (get : Ga → Option En) (put : Ga → En → Ga) (υ φ : AE) : AE := fun Γ P => ∃ kvs, get Γ = some (.dct kvs) ∧ ∀ v, υ (put Γ (.al v)) fun r1 Γ1 => φ Γ1 fun r2 Γ2 => ∃ d k x0, r1 = .sh d ∧ keyOf d = some k ∧ r2 = .sh x0 ∧ get Γ2 = some (.al v) ∧ P (.sh ((dGet kvs k).getD x0)) (put Γ2 (.dct kvs))
theorem ax_dget2 (hu : X.A.units + 64 < cLine) (ho : PE X o td) (p : Pl td get put) (he : AX X e ty υ) (hf : AX X f tx φ) (m : M2 X o "get" apos e f cpos) : AX X (.Call (.Attribute o "get" apos) [e, f] [] cpos) (tDGet2 td ty tx) (aDGet2 get put υ φ) := ⟨pe_dget2 (by omega) ho he.pe hf.pe m, fun T Γ σ H Q P s ⟨kvs, hg, q⟩ k => by
  obtain ⟨v, h1, s1⟩ := p.move s hg rfl
  obtain ⟨a0, ks0, ea0, ha0, _, _, _⟩ := Sep.dctGet s1.2
  cases ea0
  refine h1 _ ⟨a0, rfl, Or.inl ⟨ks0, Or.inl ha0⟩, he.snd _ _ σ H _ _ s1 (q _) fun r1 Γ1 y H1 q1 s2 => hf.snd _ Γ1 σ H1 _ _ s2 q1 fun r2 Γ2 z H2 ⟨d, kk, x0, e1, ek, e2, hg2, q2⟩ s3 => ?_⟩
  subst e1 e2
  obtain ⟨w, ew, dt⟩ := Sep.val s3.pop.2
  cases ew
  have ey := kV_of dt ek
  subst ey
  have s30 : Sep H2 ((some z, .sh x0) :: (some (kV kk), .sh d) :: (some (.ref a0), .dct kvs) :: (T ++ σ.zip Γ2)) := s3.2
  have s31 : Sep H2 ((some (kV kk), .sh d) :: (some z, .sh x0) :: (some (.ref a0), .dct kvs) :: (T ++ σ.zip Γ2)) := Sep.perm s30 (List.Perm.swap _ _ _)
  have s4 : Sep H2 ((some (.ref a0), .dct kvs) :: (some z, .sh x0) :: (T ++ σ.zip Γ2)) := Sep.perm s31.tail (List.Perm.swap _ _ _)
  obtain ⟨a, ks, ea, ha, hn, hgt, _⟩ := Sep.dctGet0 s4
  cases ea
  cases hd : dGet kvs kk with
  | none =>
    rw [hd] at q2
    refine ⟨none, ?_, ?_⟩
    · rw [← hn kk hd]
      exact DGet.k ha
    · exact k _ _ _ _ q2 (p.back hg2 (⟨s3.1, s4⟩ : Sx ((some (.ref a0), .dct kvs) :: (some z, .sh x0) :: T) Γ2 σ H2))
  | some x =>
    rw [hd] at q2
    obtain ⟨u, hu1, s5⟩ := hgt kk x hd
    refine ⟨some u, ?_, ?_⟩
    · rw [← hu1]
      exact DGet.k ha
    · have s50 : Sep H2 ((some u, .sh x) :: (some (.ref a0), .dct kvs) :: (some z, .sh x0) :: (T ++ σ.zip Γ2)) := s5
      have s51 : Sep H2 ((some z, .sh x0) :: (some (.ref a0), .dct kvs) :: (some u, .sh x) :: (T ++ σ.zip Γ2)) := Sep.perm s50 ((List.Perm.cons _ (List.Perm.swap _ _ _)).trans ((List.Perm.swap _ _ _).trans ((List.Perm.cons _ (List.Perm.swap _ _ _)))))
      have s6 : Sep H2 ((some (.ref a0), .dct kvs) :: (some u, .sh x) :: (T ++ σ.zip Γ2)) := s51.tail
      exact k _ _ _ _ q2 (p.back hg2 (⟨s3.1, s6⟩ : Sx ((some (.ref a0), .dct kvs) :: (some u, .sh x) :: T) Γ2 σ H2))⟩
/-! ### sorted(d), sorted(texts) -/
@[simp] def aSortD (get : Ga → Option En) : AE := fun Γ P => ∃ kvs ks, get Γ = some (.dct kvs) ∧ kvs.map (·.1) = ks.map Sum.inr ∧ ks.length < 64 ∧ ∀ ys : List Str, ys.Perm ks → sortedS ys = true → P (.sh (.list (ys.map PyData.str))) Γ
theorem strs_dt {Hs : Hp} : ∀ ys : List Str, DtA Hs (ys.map V.str) (ys.map PyData.str)
  | [] => .nil
  | y :: r => .cons (.str y) (strs_dt r)
theorem Sep.strs {H : Hp} {L : Ls} (s : Sep H L) : ∀ ys : List Str, Sep H (vz (ys.map V.str) ((ys.map PyData.str).map En.sh) ++ L)
  | [] => s
  | y :: r => Sep.shc (Sep.strs s r) fun _ => .str y
theorem ax_sortDict {p1 : Pos} (hc : X.calm = true) (hg : Gl X "sorted") (hm : X.mg "sorted" = none) (ho : PE X o td) (p : Pl td get put) (he : starEach [o] X.env = (false, eval o X.env) :: starEach [] X.env := by rfl) (hpl : (backTo cpos (starEach [] X.env)).any (·.1) = false := by rfl) :
    AX X (.Call (.Name "sorted" p1) [o] [] cpos) (tCB (fun xs H Q => ∃ (a : Addr) (kvs : List (Key × V)) (ks : List Str), xs = [.ref a] ∧ Rd H a (.dK kvs) ∧ kvs.map (·.1) = ks.map Sum.inr ∧ ks.length < 64 ∧ ∀ ys p, ys.Perm ks → sortedS ys = true → H p = none → Q (.ref p) (upd H p (.lst (ys.map V.str)))) (tCons td tNil)) (aSortD get) :=
  ⟨pe_callB (call_sortedD hc) hg hm (by decide +kernel) (pa_cons ho pa_nil he) (by decide) (by decide) he hpl, fun T Γ σ H Q P s ⟨kvs, ks, hg, hks, h64, q⟩ k => by
    obtain ⟨v, M, h1, s2, s3, s4⟩ := p.mod s hg rfl
    obtain ⟨a, ks0, ea, ha, _, _, hm⟩ := Sep.dctGet0 s2
    cases ea
    refine h1 _ ⟨a, ks0, ks, rfl, Or.inl ha, hm.trans hks, h64, fun ys l hp hs hn => k _ _ _ _ (q ys hp hs) ⟨s.1, ?_⟩⟩
    exact Sep.newLst (vs := ys.map V.str) (ds := ys.map .str) (by rw [List.length_map, List.length_map]) (Sep.strs s.2 ys) hn⟩
end
@[simp] def rhoSortS : AC := fun es P => ∃ xs : List Str, es = [.sh (.list (xs.map .str))] ∧ xs.length < 64 ∧ ∀ ys : List Str, ys.Perm xs → sortedS ys = true → P (.sh (.list (ys.map .str)))
theorem sndC_sortS {K : PySem.W.Frag} : SndC (rSortedS K) rhoSortS := fun L H xs es Q P hl s ⟨zs, e, h64, p⟩ k => by
  obtain ⟨x, ex⟩ := one_of hl e
  subst e ex
  obtain ⟨w, ew, dt⟩ := Sep.val s
  cases ew
  cases id dt with
  | lst ha hA =>
    have e := hA.strs
    subst e
    exact ⟨_, zs, rfl, SqL.of ha, h64, fun ys l hp hs hn => k _ _ _ (p ys hp hs) (Sep.newLst (vs := ys.map V.str) (ds := ys.map .str) (by rw [List.length_map, List.length_map]) (Sep.strs (Sep.tail s) ys) hn)⟩
section
variable {X : Cx} {a : Addr} {ns : List Int} {x : Str} {npos pos : Pos} {b : Expr} {tb : TE} {υ : AE}
@[simp] def aIxS2 (i : Nat) (K : PySem.W.Frag) (a : Addr) (ns : List Int) (υ : AE) : AE := fun Γ P => Γ[i]? = some (.ow (scrO K a ns)) ∧ υ Γ fun r Γ1 => ∃ (n : Nat) (z : Int), Γ1[i]? = some (.ow (scrO K a ns)) ∧ r = .sh (.int n) ∧ ns[n]? = some z ∧ P (.sh (.int z)) Γ1
theorem ax_ixS2 (i : Nat) (hb : AX X b tb υ) (ho : PE X (.Name x npos) (tVar i) := by exact pe_v _) (hs : PlainIx b := by intro _ _; rfl) : AX X (.Subscript (.Name x npos) b pos) (tOp (rIx X.K) (tVar i) tb) (aIxS2 i X.K a ns υ) :=
  ⟨pe_ix ix_seq ho hb.pe hs, fun T Γ σ H Q P s ⟨h0, q⟩ k => by
    obtain ⟨v, h1, _⟩ := s.move h0 rfl
    refine ⟨v, h1, hb.snd T Γ σ H _ _ s q fun r Γ1 v2 H1 ⟨n, z, hg1, er, hz, q1⟩ s1 => ?_⟩
    subst er
    obtain ⟨w, ew, d2⟩ := Sep.val s1.2
    cases ew
    have e2 := d2.intE
    subst e2
    obtain ⟨v3, h3, s3, _⟩ := s1.pop.move hg1 rfl
    rw [h1] at h3
    cases h3
    obtain ⟨ev, hsq⟩ := Sep.scr s3.2
    cases ev
    refine Or.inl ⟨a, ns.map V.int, n, .int z, rfl, rfl, hsq, ?_, k _ _ _ _ q1 ⟨s1.1, Sep.shc s1.pop.2 fun _ => .int _⟩⟩
    have hn := (List.getElem?_eq_some_iff.mp hz).1
    unfold atI ixN
    simp [hn]
    rw [← (List.getElem?_eq_some_iff.mp hz).2]⟩
end
end PL
set_option maxRecDepth 100000
set_option maxHeartbeats 4000000
namespace HT2
open PySem PySem.Spec PyProof.Rows L2 StX PL
def top (i : Nat) : Stmt := PySem.Challenge.pw_holdtap_k81_whole_halves_by_all_delays.main.body.getD i (.Pass ⟨0, 0, 0, 0⟩)
variable {P : Program} {w : World} {K : PySem.W.Frag} {mg : Str → Option Value} {base : Heap}
/-! ### the ends of a function of shared data -/
def endP (n : Nat) (P : PyData → Prop) : AEnds := { nx := fun Γ => Γ.length = n ∧ P .none, rt := fun r Γ => Γ.length = n ∧ ∃ d, r = .sh d ∧ P d }
@[simp] theorem endP_nx {n : Nat} {P : PyData → Prop} {Γ : Ga} : (endP n P).nx Γ = (Γ.length = n ∧ P .none) := rfl
@[simp] theorem endP_rt {n : Nat} {P : PyData → Prop} {r : En} {Γ : Ga} : (endP n P).rt r Γ = (Γ.length = n ∧ ∃ d, r = .sh d ∧ P d) := rfl
@[simp] theorem endP_bk {n : Nat} {P : PyData → Prop} {Γ : Ga} : (endP n P).bk Γ = False := rfl
@[simp] theorem endP_ct {n : Nat} {P : PyData → Prop} {Γ : Ga} : (endP n P).ct Γ = False := rfl
theorem ok_pf {x qual : Str} {st : Stmt} {f : Addr} {fd : FuncData} {N ps : List Str} {k : Nat} {R : List PyData → (PyData → Prop) → Prop} (A : At K mg x qual st f fd) (S : FnScope N ps (defScope st)) (bd : L2.Binds K fd ps []) (hlen : ∀ ds P, R ds P → ds.length = ps.length)
    (hb : ∀ (cdv : Value) (A : Around) (outer : List Env) (s : Shared) (H : Hp) (E : XK), Room k (A.deeper (envOfC qual (defScope st) s.heap.objs.size f cdv)) →
      ∃ τ, AXSs (cxOf CX0 P w K mg base N qual (defScope st) f cdv A outer s H E).nox [] (defBody st) τ ∧ ∀ ds Q, R ds Q → τ (endP N.length Q) (inG N (ds.map En.sh))) : Fx P w K mg base (k + 1) x ps (pf R) := by
  refine ⟨f, fd, ok_def A.fn S [] ?_ ?_, A.mg, A.fn.kp, bd⟩
  · rintro es P ⟨ds, h, r⟩
    rw [unsh_eq h, List.length_map]
    exact hlen _ _ r
  · intro cdv A outer s H E hr
    obtain ⟨τ, h1, h2⟩ := hb cdv A outer s H E hr
    obtain ⟨t, h3, h4⟩ := h1
    refine ⟨fun Δ Γ => ∃ Δ', (∀ Γ, Δ'.nx Γ → Δ.nx Γ) ∧ (∀ r Γ, Δ'.rt r Γ → Δ.rt r Γ) ∧ (∀ Γ, Δ'.bk Γ → Δ.bk Γ) ∧ (∀ Γ, Δ'.ct Γ → Δ.ct Γ) ∧ τ Δ' Γ, ⟨t, h3, fun T Γ σ σ0 H D Δ s p c ⟨Δ', a1, a2, a3, a4, q⟩ => h4 T Γ σ σ0 H D Δ' s p ⟨fun Γ σ H q => c.nx Γ σ H (a1 _ q), fun r Γ v σ H q => c.rt r Γ v σ H (a2 _ _ q), fun Γ σ H q => c.bk Γ σ H (a3 _ q), fun Γ σ H q => c.ct Γ σ H (a4 _ q)⟩ q⟩, ?_⟩
    rintro es Q ⟨ds, h, r⟩
    rw [unsh_eq h]
    refine ⟨endP N.length fun d => ∀ es', Q (.sh d) es', fun Γ q => ⟨q.1, q.2 _⟩, fun r Γ q => ⟨q.1, ?_⟩, fun Γ q => q.elim, fun Γ q => q.elim, h2 ds _ r⟩
    obtain ⟨d, e, q2⟩ := q.2
    subst e
    exact q2 _
/-! ### texts -/
@[simp] theorem sz0 : 0 ≤ sizeLine := by decide
@[simp] theorem sz1 : 1 ≤ sizeLine := by decide
@[simp] theorem sz2 : 2 ≤ sizeLine := by decide
@[simp] theorem sz3 : 3 ≤ sizeLine := by decide
@[simp] theorem sz4 : 4 ≤ sizeLine := by decide
@[simp] theorem sz5 : 5 ≤ sizeLine := by decide
@[simp] theorem sz6 : 6 ≤ sizeLine := by decide
@[simp] theorem sz7 : 7 ≤ sizeLine := by decide
@[simp] theorem sz8 : 8 ≤ sizeLine := by decide
@[simp] theorem sz9 : 9 ≤ sizeLine := by decide
@[simp] theorem sz10 : 10 ≤ sizeLine := by decide
@[simp] theorem sz11 : 11 ≤ sizeLine := by decide
@[simp] theorem sz12 : 12 ≤ sizeLine := by decide
@[simp] theorem sz1000 : 1000 ≤ sizeLine := by decide
@[simp] theorem sl_down_down : ((Str.ofString "down") == (Str.ofString "down")) = true := by decide +kernel
@[simp] theorem sl_down_up : ((Str.ofString "down") == (Str.ofString "up")) = false := by decide +kernel
@[simp] theorem sn_down_up : (Str.ofString "down" = Str.ofString "up") = False := by simp only [eq_iff_iff, iff_false]; decide +kernel
@[simp] theorem sl_down_tap : ((Str.ofString "down") == (Str.ofString "tap")) = false := by decide +kernel
@[simp] theorem sn_down_tap : (Str.ofString "down" = Str.ofString "tap") = False := by simp only [eq_iff_iff, iff_false]; decide +kernel
@[simp] theorem sl_down_hold : ((Str.ofString "down") == (Str.ofString "hold")) = false := by decide +kernel
@[simp] theorem sn_down_hold : (Str.ofString "down" = Str.ofString "hold") = False := by simp only [eq_iff_iff, iff_false]; decide +kernel
@[simp] theorem sl_down_none : ((Str.ofString "down") == (Str.ofString "none")) = false := by decide +kernel
@[simp] theorem sn_down_none : (Str.ofString "down" = Str.ofString "none") = False := by simp only [eq_iff_iff, iff_false]; decide +kernel
@[simp] theorem sl_down_through : ((Str.ofString "down") == (Str.ofString "through")) = false := by decide +kernel
@[simp] theorem sn_down_through : (Str.ofString "down" = Str.ofString "through") = False := by simp only [eq_iff_iff, iff_false]; decide +kernel
@[simp] theorem sl_down_code : ((Str.ofString "down") == (Str.ofString "code")) = false := by decide +kernel
@[simp] theorem sn_down_code : (Str.ofString "down" = Str.ofString "code") = False := by simp only [eq_iff_iff, iff_false]; decide +kernel
@[simp] theorem sl_down_layer : ((Str.ofString "down") == (Str.ofString "layer")) = false := by decide +kernel
@[simp] theorem sn_down_layer : (Str.ofString "down" = Str.ofString "layer") = False := by simp only [eq_iff_iff, iff_false]; decide +kernel
@[simp] theorem sl_down_lock : ((Str.ofString "down") == (Str.ofString "lock")) = false := by decide +kernel
@[simp] theorem sn_down_lock : (Str.ofString "down" = Str.ofString "lock") = False := by simp only [eq_iff_iff, iff_false]; decide +kernel
@[simp] theorem sl_down_once : ((Str.ofString "down") == (Str.ofString "once")) = false := by decide +kernel
@[simp] theorem sn_down_once : (Str.ofString "down" = Str.ofString "once") = False := by simp only [eq_iff_iff, iff_false]; decide +kernel
@[simp] theorem sl_down_dual : ((Str.ofString "down") == (Str.ofString "dual")) = false := by decide +kernel
@[simp] theorem sn_down_dual : (Str.ofString "down" = Str.ofString "dual") = False := by simp only [eq_iff_iff, iff_false]; decide +kernel
@[simp] theorem sl_down_time : ((Str.ofString "down") == (Str.ofString "time")) = false := by decide +kernel
@[simp] theorem sn_down_time : (Str.ofString "down" = Str.ofString "time") = False := by simp only [eq_iff_iff, iff_false]; decide +kernel
@[simp] theorem sl_down_other : ((Str.ofString "down") == (Str.ofString "other")) = false := by decide +kernel
@[simp] theorem sn_down_other : (Str.ofString "down" = Str.ofString "other") = False := by simp only [eq_iff_iff, iff_false]; decide +kernel
@[simp] theorem sl_down_within : ((Str.ofString "down") == (Str.ofString "within")) = false := by decide +kernel
@[simp] theorem sn_down_within : (Str.ofString "down" = Str.ofString "within") = False := by simp only [eq_iff_iff, iff_false]; decide +kernel
@[simp] theorem sl_down_press : ((Str.ofString "down") == (Str.ofString "press")) = false := by decide +kernel
@[simp] theorem sn_down_press : (Str.ofString "down" = Str.ofString "press") = False := by simp only [eq_iff_iff, iff_false]; decide +kernel
@[simp] theorem sl_down_release : ((Str.ofString "down") == (Str.ofString "release")) = false := by decide +kernel
@[simp] theorem sn_down_release : (Str.ofString "down" = Str.ofString "release") = False := by simp only [eq_iff_iff, iff_false]; decide +kernel
@[simp] theorem sl_up_down : ((Str.ofString "up") == (Str.ofString "down")) = false := by decide +kernel
@[simp] theorem sn_up_down : (Str.ofString "up" = Str.ofString "down") = False := by simp only [eq_iff_iff, iff_false]; decide +kernel
@[simp] theorem sl_up_up : ((Str.ofString "up") == (Str.ofString "up")) = true := by decide +kernel
@[simp] theorem sl_up_tap : ((Str.ofString "up") == (Str.ofString "tap")) = false := by decide +kernel
@[simp] theorem sn_up_tap : (Str.ofString "up" = Str.ofString "tap") = False := by simp only [eq_iff_iff, iff_false]; decide +kernel
@[simp] theorem sl_up_hold : ((Str.ofString "up") == (Str.ofString "hold")) = false := by decide +kernel
@[simp] theorem sn_up_hold : (Str.ofString "up" = Str.ofString "hold") = False := by simp only [eq_iff_iff, iff_false]; decide +kernel
@[simp] theorem sl_up_none : ((Str.ofString "up") == (Str.ofString "none")) = false := by decide +kernel
@[simp] theorem sn_up_none : (Str.ofString "up" = Str.ofString "none") = False := by simp only [eq_iff_iff, iff_false]; decide +kernel
@[simp] theorem sl_up_through : ((Str.ofString "up") == (Str.ofString "through")) = false := by decide +kernel
@[simp] theorem sn_up_through : (Str.ofString "up" = Str.ofString "through") = False := by simp only [eq_iff_iff, iff_false]; decide +kernel
@[simp] theorem sl_up_code : ((Str.ofString "up") == (Str.ofString "code")) = false := by decide +kernel
@[simp] theorem sn_up_code : (Str.ofString "up" = Str.ofString "code") = False := by simp only [eq_iff_iff, iff_false]; decide +kernel
@[simp] theorem sl_up_layer : ((Str.ofString "up") == (Str.ofString "layer")) = false := by decide +kernel
@[simp] theorem sn_up_layer : (Str.ofString "up" = Str.ofString "layer") = False := by simp only [eq_iff_iff, iff_false]; decide +kernel
@[simp] theorem sl_up_lock : ((Str.ofString "up") == (Str.ofString "lock")) = false := by decide +kernel
@[simp] theorem sn_up_lock : (Str.ofString "up" = Str.ofString "lock") = False := by simp only [eq_iff_iff, iff_false]; decide +kernel
@[simp] theorem sl_up_once : ((Str.ofString "up") == (Str.ofString "once")) = false := by decide +kernel
@[simp] theorem sn_up_once : (Str.ofString "up" = Str.ofString "once") = False := by simp only [eq_iff_iff, iff_false]; decide +kernel
@[simp] theorem sl_up_dual : ((Str.ofString "up") == (Str.ofString "dual")) = false := by decide +kernel
@[simp] theorem sn_up_dual : (Str.ofString "up" = Str.ofString "dual") = False := by simp only [eq_iff_iff, iff_false]; decide +kernel
@[simp] theorem sl_up_time : ((Str.ofString "up") == (Str.ofString "time")) = false := by decide +kernel
@[simp] theorem sn_up_time : (Str.ofString "up" = Str.ofString "time") = False := by simp only [eq_iff_iff, iff_false]; decide +kernel
@[simp] theorem sl_up_other : ((Str.ofString "up") == (Str.ofString "other")) = false := by decide +kernel
@[simp] theorem sn_up_other : (Str.ofString "up" = Str.ofString "other") = False := by simp only [eq_iff_iff, iff_false]; decide +kernel
@[simp] theorem sl_up_within : ((Str.ofString "up") == (Str.ofString "within")) = false := by decide +kernel
@[simp] theorem sn_up_within : (Str.ofString "up" = Str.ofString "within") = False := by simp only [eq_iff_iff, iff_false]; decide +kernel
@[simp] theorem sl_up_press : ((Str.ofString "up") == (Str.ofString "press")) = false := by decide +kernel
@[simp] theorem sn_up_press : (Str.ofString "up" = Str.ofString "press") = False := by simp only [eq_iff_iff, iff_false]; decide +kernel
@[simp] theorem sl_up_release : ((Str.ofString "up") == (Str.ofString "release")) = false := by decide +kernel
@[simp] theorem sn_up_release : (Str.ofString "up" = Str.ofString "release") = False := by simp only [eq_iff_iff, iff_false]; decide +kernel
@[simp] theorem sl_tap_down : ((Str.ofString "tap") == (Str.ofString "down")) = false := by decide +kernel
@[simp] theorem sn_tap_down : (Str.ofString "tap" = Str.ofString "down") = False := by simp only [eq_iff_iff, iff_false]; decide +kernel
@[simp] theorem sl_tap_up : ((Str.ofString "tap") == (Str.ofString "up")) = false := by decide +kernel
@[simp] theorem sn_tap_up : (Str.ofString "tap" = Str.ofString "up") = False := by simp only [eq_iff_iff, iff_false]; decide +kernel
@[simp] theorem sl_tap_tap : ((Str.ofString "tap") == (Str.ofString "tap")) = true := by decide +kernel
@[simp] theorem sl_tap_hold : ((Str.ofString "tap") == (Str.ofString "hold")) = false := by decide +kernel
@[simp] theorem sn_tap_hold : (Str.ofString "tap" = Str.ofString "hold") = False := by simp only [eq_iff_iff, iff_false]; decide +kernel
@[simp] theorem sl_tap_none : ((Str.ofString "tap") == (Str.ofString "none")) = false := by decide +kernel
@[simp] theorem sn_tap_none : (Str.ofString "tap" = Str.ofString "none") = False := by simp only [eq_iff_iff, iff_false]; decide +kernel
@[simp] theorem sl_tap_through : ((Str.ofString "tap") == (Str.ofString "through")) = false := by decide +kernel
@[simp] theorem sn_tap_through : (Str.ofString "tap" = Str.ofString "through") = False := by simp only [eq_iff_iff, iff_false]; decide +kernel
@[simp] theorem sl_tap_code : ((Str.ofString "tap") == (Str.ofString "code")) = false := by decide +kernel
@[simp] theorem sn_tap_code : (Str.ofString "tap" = Str.ofString "code") = False := by simp only [eq_iff_iff, iff_false]; decide +kernel
@[simp] theorem sl_tap_layer : ((Str.ofString "tap") == (Str.ofString "layer")) = false := by decide +kernel
@[simp] theorem sn_tap_layer : (Str.ofString "tap" = Str.ofString "layer") = False := by simp only [eq_iff_iff, iff_false]; decide +kernel
@[simp] theorem sl_tap_lock : ((Str.ofString "tap") == (Str.ofString "lock")) = false := by decide +kernel
@[simp] theorem sn_tap_lock : (Str.ofString "tap" = Str.ofString "lock") = False := by simp only [eq_iff_iff, iff_false]; decide +kernel
@[simp] theorem sl_tap_once : ((Str.ofString "tap") == (Str.ofString "once")) = false := by decide +kernel
@[simp] theorem sn_tap_once : (Str.ofString "tap" = Str.ofString "once") = False := by simp only [eq_iff_iff, iff_false]; decide +kernel
@[simp] theorem sl_tap_dual : ((Str.ofString "tap") == (Str.ofString "dual")) = false := by decide +kernel
@[simp] theorem sn_tap_dual : (Str.ofString "tap" = Str.ofString "dual") = False := by simp only [eq_iff_iff, iff_false]; decide +kernel
@[simp] theorem sl_tap_time : ((Str.ofString "tap") == (Str.ofString "time")) = false := by decide +kernel
@[simp] theorem sn_tap_time : (Str.ofString "tap" = Str.ofString "time") = False := by simp only [eq_iff_iff, iff_false]; decide +kernel
@[simp] theorem sl_tap_other : ((Str.ofString "tap") == (Str.ofString "other")) = false := by decide +kernel
@[simp] theorem sn_tap_other : (Str.ofString "tap" = Str.ofString "other") = False := by simp only [eq_iff_iff, iff_false]; decide +kernel
@[simp] theorem sl_tap_within : ((Str.ofString "tap") == (Str.ofString "within")) = false := by decide +kernel
@[simp] theorem sn_tap_within : (Str.ofString "tap" = Str.ofString "within") = False := by simp only [eq_iff_iff, iff_false]; decide +kernel
@[simp] theorem sl_tap_press : ((Str.ofString "tap") == (Str.ofString "press")) = false := by decide +kernel
@[simp] theorem sn_tap_press : (Str.ofString "tap" = Str.ofString "press") = False := by simp only [eq_iff_iff, iff_false]; decide +kernel
@[simp] theorem sl_tap_release : ((Str.ofString "tap") == (Str.ofString "release")) = false := by decide +kernel
@[simp] theorem sn_tap_release : (Str.ofString "tap" = Str.ofString "release") = False := by simp only [eq_iff_iff, iff_false]; decide +kernel
@[simp] theorem sl_hold_down : ((Str.ofString "hold") == (Str.ofString "down")) = false := by decide +kernel
@[simp] theorem sn_hold_down : (Str.ofString "hold" = Str.ofString "down") = False := by simp only [eq_iff_iff, iff_false]; decide +kernel
@[simp] theorem sl_hold_up : ((Str.ofString "hold") == (Str.ofString "up")) = false := by decide +kernel
@[simp] theorem sn_hold_up : (Str.ofString "hold" = Str.ofString "up") = False := by simp only [eq_iff_iff, iff_false]; decide +kernel
@[simp] theorem sl_hold_tap : ((Str.ofString "hold") == (Str.ofString "tap")) = false := by decide +kernel
@[simp] theorem sn_hold_tap : (Str.ofString "hold" = Str.ofString "tap") = False := by simp only [eq_iff_iff, iff_false]; decide +kernel
@[simp] theorem sl_hold_hold : ((Str.ofString "hold") == (Str.ofString "hold")) = true := by decide +kernel
@[simp] theorem sl_hold_none : ((Str.ofString "hold") == (Str.ofString "none")) = false := by decide +kernel
@[simp] theorem sn_hold_none : (Str.ofString "hold" = Str.ofString "none") = False := by simp only [eq_iff_iff, iff_false]; decide +kernel
@[simp] theorem sl_hold_through : ((Str.ofString "hold") == (Str.ofString "through")) = false := by decide +kernel
@[simp] theorem sn_hold_through : (Str.ofString "hold" = Str.ofString "through") = False := by simp only [eq_iff_iff, iff_false]; decide +kernel
@[simp] theorem sl_hold_code : ((Str.ofString "hold") == (Str.ofString "code")) = false := by decide +kernel
@[simp] theorem sn_hold_code : (Str.ofString "hold" = Str.ofString "code") = False := by simp only [eq_iff_iff, iff_false]; decide +kernel
@[simp] theorem sl_hold_layer : ((Str.ofString "hold") == (Str.ofString "layer")) = false := by decide +kernel
@[simp] theorem sn_hold_layer : (Str.ofString "hold" = Str.ofString "layer") = False := by simp only [eq_iff_iff, iff_false]; decide +kernel
@[simp] theorem sl_hold_lock : ((Str.ofString "hold") == (Str.ofString "lock")) = false := by decide +kernel
@[simp] theorem sn_hold_lock : (Str.ofString "hold" = Str.ofString "lock") = False := by simp only [eq_iff_iff, iff_false]; decide +kernel
@[simp] theorem sl_hold_once : ((Str.ofString "hold") == (Str.ofString "once")) = false := by decide +kernel
@[simp] theorem sn_hold_once : (Str.ofString "hold" = Str.ofString "once") = False := by simp only [eq_iff_iff, iff_false]; decide +kernel
@[simp] theorem sl_hold_dual : ((Str.ofString "hold") == (Str.ofString "dual")) = false := by decide +kernel
@[simp] theorem sn_hold_dual : (Str.ofString "hold" = Str.ofString "dual") = False := by simp only [eq_iff_iff, iff_false]; decide +kernel
@[simp] theorem sl_hold_time : ((Str.ofString "hold") == (Str.ofString "time")) = false := by decide +kernel
@[simp] theorem sn_hold_time : (Str.ofString "hold" = Str.ofString "time") = False := by simp only [eq_iff_iff, iff_false]; decide +kernel
@[simp] theorem sl_hold_other : ((Str.ofString "hold") == (Str.ofString "other")) = false := by decide +kernel
@[simp] theorem sn_hold_other : (Str.ofString "hold" = Str.ofString "other") = False := by simp only [eq_iff_iff, iff_false]; decide +kernel
@[simp] theorem sl_hold_within : ((Str.ofString "hold") == (Str.ofString "within")) = false := by decide +kernel
@[simp] theorem sn_hold_within : (Str.ofString "hold" = Str.ofString "within") = False := by simp only [eq_iff_iff, iff_false]; decide +kernel
@[simp] theorem sl_hold_press : ((Str.ofString "hold") == (Str.ofString "press")) = false := by decide +kernel
@[simp] theorem sn_hold_press : (Str.ofString "hold" = Str.ofString "press") = False := by simp only [eq_iff_iff, iff_false]; decide +kernel
@[simp] theorem sl_hold_release : ((Str.ofString "hold") == (Str.ofString "release")) = false := by decide +kernel
@[simp] theorem sn_hold_release : (Str.ofString "hold" = Str.ofString "release") = False := by simp only [eq_iff_iff, iff_false]; decide +kernel
@[simp] theorem sl_none_down : ((Str.ofString "none") == (Str.ofString "down")) = false := by decide +kernel
@[simp] theorem sn_none_down : (Str.ofString "none" = Str.ofString "down") = False := by simp only [eq_iff_iff, iff_false]; decide +kernel
@[simp] theorem sl_none_up : ((Str.ofString "none") == (Str.ofString "up")) = false := by decide +kernel
@[simp] theorem sn_none_up : (Str.ofString "none" = Str.ofString "up") = False := by simp only [eq_iff_iff, iff_false]; decide +kernel
@[simp] theorem sl_none_tap : ((Str.ofString "none") == (Str.ofString "tap")) = false := by decide +kernel
@[simp] theorem sn_none_tap : (Str.ofString "none" = Str.ofString "tap") = False := by simp only [eq_iff_iff, iff_false]; decide +kernel
@[simp] theorem sl_none_hold : ((Str.ofString "none") == (Str.ofString "hold")) = false := by decide +kernel
@[simp] theorem sn_none_hold : (Str.ofString "none" = Str.ofString "hold") = False := by simp only [eq_iff_iff, iff_false]; decide +kernel
@[simp] theorem sl_none_none : ((Str.ofString "none") == (Str.ofString "none")) = true := by decide +kernel
@[simp] theorem sl_none_through : ((Str.ofString "none") == (Str.ofString "through")) = false := by decide +kernel
@[simp] theorem sn_none_through : (Str.ofString "none" = Str.ofString "through") = False := by simp only [eq_iff_iff, iff_false]; decide +kernel
@[simp] theorem sl_none_code : ((Str.ofString "none") == (Str.ofString "code")) = false := by decide +kernel
@[simp] theorem sn_none_code : (Str.ofString "none" = Str.ofString "code") = False := by simp only [eq_iff_iff, iff_false]; decide +kernel
@[simp] theorem sl_none_layer : ((Str.ofString "none") == (Str.ofString "layer")) = false := by decide +kernel
@[simp] theorem sn_none_layer : (Str.ofString "none" = Str.ofString "layer") = False := by simp only [eq_iff_iff, iff_false]; decide +kernel
@[simp] theorem sl_none_lock : ((Str.ofString "none") == (Str.ofString "lock")) = false := by decide +kernel
@[simp] theorem sn_none_lock : (Str.ofString "none" = Str.ofString "lock") = False := by simp only [eq_iff_iff, iff_false]; decide +kernel
@[simp] theorem sl_none_once : ((Str.ofString "none") == (Str.ofString "once")) = false := by decide +kernel
@[simp] theorem sn_none_once : (Str.ofString "none" = Str.ofString "once") = False := by simp only [eq_iff_iff, iff_false]; decide +kernel
@[simp] theorem sl_none_dual : ((Str.ofString "none") == (Str.ofString "dual")) = false := by decide +kernel
@[simp] theorem sn_none_dual : (Str.ofString "none" = Str.ofString "dual") = False := by simp only [eq_iff_iff, iff_false]; decide +kernel
@[simp] theorem sl_none_time : ((Str.ofString "none") == (Str.ofString "time")) = false := by decide +kernel
@[simp] theorem sn_none_time : (Str.ofString "none" = Str.ofString "time") = False := by simp only [eq_iff_iff, iff_false]; decide +kernel
@[simp] theorem sl_none_other : ((Str.ofString "none") == (Str.ofString "other")) = false := by decide +kernel
@[simp] theorem sn_none_other : (Str.ofString "none" = Str.ofString "other") = False := by simp only [eq_iff_iff, iff_false]; decide +kernel
@[simp] theorem sl_none_within : ((Str.ofString "none") == (Str.ofString "within")) = false := by decide +kernel
@[simp] theorem sn_none_within : (Str.ofString "none" = Str.ofString "within") = False := by simp only [eq_iff_iff, iff_false]; decide +kernel
@[simp] theorem sl_none_press : ((Str.ofString "none") == (Str.ofString "press")) = false := by decide +kernel
@[simp] theorem sn_none_press : (Str.ofString "none" = Str.ofString "press") = False := by simp only [eq_iff_iff, iff_false]; decide +kernel
@[simp] theorem sl_none_release : ((Str.ofString "none") == (Str.ofString "release")) = false := by decide +kernel
@[simp] theorem sn_none_release : (Str.ofString "none" = Str.ofString "release") = False := by simp only [eq_iff_iff, iff_false]; decide +kernel
@[simp] theorem sl_through_down : ((Str.ofString "through") == (Str.ofString "down")) = false := by decide +kernel
@[simp] theorem sn_through_down : (Str.ofString "through" = Str.ofString "down") = False := by simp only [eq_iff_iff, iff_false]; decide +kernel
@[simp] theorem sl_through_up : ((Str.ofString "through") == (Str.ofString "up")) = false := by decide +kernel
@[simp] theorem sn_through_up : (Str.ofString "through" = Str.ofString "up") = False := by simp only [eq_iff_iff, iff_false]; decide +kernel
@[simp] theorem sl_through_tap : ((Str.ofString "through") == (Str.ofString "tap")) = false := by decide +kernel
@[simp] theorem sn_through_tap : (Str.ofString "through" = Str.ofString "tap") = False := by simp only [eq_iff_iff, iff_false]; decide +kernel
@[simp] theorem sl_through_hold : ((Str.ofString "through") == (Str.ofString "hold")) = false := by decide +kernel
@[simp] theorem sn_through_hold : (Str.ofString "through" = Str.ofString "hold") = False := by simp only [eq_iff_iff, iff_false]; decide +kernel
@[simp] theorem sl_through_none : ((Str.ofString "through") == (Str.ofString "none")) = false := by decide +kernel
@[simp] theorem sn_through_none : (Str.ofString "through" = Str.ofString "none") = False := by simp only [eq_iff_iff, iff_false]; decide +kernel
@[simp] theorem sl_through_through : ((Str.ofString "through") == (Str.ofString "through")) = true := by decide +kernel
@[simp] theorem sl_through_code : ((Str.ofString "through") == (Str.ofString "code")) = false := by decide +kernel
@[simp] theorem sn_through_code : (Str.ofString "through" = Str.ofString "code") = False := by simp only [eq_iff_iff, iff_false]; decide +kernel
@[simp] theorem sl_through_layer : ((Str.ofString "through") == (Str.ofString "layer")) = false := by decide +kernel
@[simp] theorem sn_through_layer : (Str.ofString "through" = Str.ofString "layer") = False := by simp only [eq_iff_iff, iff_false]; decide +kernel
@[simp] theorem sl_through_lock : ((Str.ofString "through") == (Str.ofString "lock")) = false := by decide +kernel
@[simp] theorem sn_through_lock : (Str.ofString "through" = Str.ofString "lock") = False := by simp only [eq_iff_iff, iff_false]; decide +kernel
@[simp] theorem sl_through_once : ((Str.ofString "through") == (Str.ofString "once")) = false := by decide +kernel
@[simp] theorem sn_through_once : (Str.ofString "through" = Str.ofString "once") = False := by simp only [eq_iff_iff, iff_false]; decide +kernel
@[simp] theorem sl_through_dual : ((Str.ofString "through") == (Str.ofString "dual")) = false := by decide +kernel
@[simp] theorem sn_through_dual : (Str.ofString "through" = Str.ofString "dual") = False := by simp only [eq_iff_iff, iff_false]; decide +kernel
@[simp] theorem sl_through_time : ((Str.ofString "through") == (Str.ofString "time")) = false := by decide +kernel
@[simp] theorem sn_through_time : (Str.ofString "through" = Str.ofString "time") = False := by simp only [eq_iff_iff, iff_false]; decide +kernel
@[simp] theorem sl_through_other : ((Str.ofString "through") == (Str.ofString "other")) = false := by decide +kernel
@[simp] theorem sn_through_other : (Str.ofString "through" = Str.ofString "other") = False := by simp only [eq_iff_iff, iff_false]; decide +kernel
@[simp] theorem sl_through_within : ((Str.ofString "through") == (Str.ofString "within")) = false := by decide +kernel
@[simp] theorem sn_through_within : (Str.ofString "through" = Str.ofString "within") = False := by simp only [eq_iff_iff, iff_false]; decide +kernel
@[simp] theorem sl_through_press : ((Str.ofString "through") == (Str.ofString "press")) = false := by decide +kernel
@[simp] theorem sn_through_press : (Str.ofString "through" = Str.ofString "press") = False := by simp only [eq_iff_iff, iff_false]; decide +kernel
@[simp] theorem sl_through_release : ((Str.ofString "through") == (Str.ofString "release")) = false := by decide +kernel
@[simp] theorem sn_through_release : (Str.ofString "through" = Str.ofString "release") = False := by simp only [eq_iff_iff, iff_false]; decide +kernel
@[simp] theorem sl_code_down : ((Str.ofString "code") == (Str.ofString "down")) = false := by decide +kernel
@[simp] theorem sn_code_down : (Str.ofString "code" = Str.ofString "down") = False := by simp only [eq_iff_iff, iff_false]; decide +kernel
@[simp] theorem sl_code_up : ((Str.ofString "code") == (Str.ofString "up")) = false := by decide +kernel
@[simp] theorem sn_code_up : (Str.ofString "code" = Str.ofString "up") = False := by simp only [eq_iff_iff, iff_false]; decide +kernel
@[simp] theorem sl_code_tap : ((Str.ofString "code") == (Str.ofString "tap")) = false := by decide +kernel
@[simp] theorem sn_code_tap : (Str.ofString "code" = Str.ofString "tap") = False := by simp only [eq_iff_iff, iff_false]; decide +kernel
@[simp] theorem sl_code_hold : ((Str.ofString "code") == (Str.ofString "hold")) = false := by decide +kernel
@[simp] theorem sn_code_hold : (Str.ofString "code" = Str.ofString "hold") = False := by simp only [eq_iff_iff, iff_false]; decide +kernel
@[simp] theorem sl_code_none : ((Str.ofString "code") == (Str.ofString "none")) = false := by decide +kernel
@[simp] theorem sn_code_none : (Str.ofString "code" = Str.ofString "none") = False := by simp only [eq_iff_iff, iff_false]; decide +kernel
@[simp] theorem sl_code_through : ((Str.ofString "code") == (Str.ofString "through")) = false := by decide +kernel
@[simp] theorem sn_code_through : (Str.ofString "code" = Str.ofString "through") = False := by simp only [eq_iff_iff, iff_false]; decide +kernel
@[simp] theorem sl_code_code : ((Str.ofString "code") == (Str.ofString "code")) = true := by decide +kernel
@[simp] theorem sl_code_layer : ((Str.ofString "code") == (Str.ofString "layer")) = false := by decide +kernel
@[simp] theorem sn_code_layer : (Str.ofString "code" = Str.ofString "layer") = False := by simp only [eq_iff_iff, iff_false]; decide +kernel
@[simp] theorem sl_code_lock : ((Str.ofString "code") == (Str.ofString "lock")) = false := by decide +kernel
@[simp] theorem sn_code_lock : (Str.ofString "code" = Str.ofString "lock") = False := by simp only [eq_iff_iff, iff_false]; decide +kernel
@[simp] theorem sl_code_once : ((Str.ofString "code") == (Str.ofString "once")) = false := by decide +kernel
@[simp] theorem sn_code_once : (Str.ofString "code" = Str.ofString "once") = False := by simp only [eq_iff_iff, iff_false]; decide +kernel
@[simp] theorem sl_code_dual : ((Str.ofString "code") == (Str.ofString "dual")) = false := by decide +kernel
@[simp] theorem sn_code_dual : (Str.ofString "code" = Str.ofString "dual") = False := by simp only [eq_iff_iff, iff_false]; decide +kernel
@[simp] theorem sl_code_time : ((Str.ofString "code") == (Str.ofString "time")) = false := by decide +kernel
@[simp] theorem sn_code_time : (Str.ofString "code" = Str.ofString "time") = False := by simp only [eq_iff_iff, iff_false]; decide +kernel
@[simp] theorem sl_code_other : ((Str.ofString "code") == (Str.ofString "other")) = false := by decide +kernel
@[simp] theorem sn_code_other : (Str.ofString "code" = Str.ofString "other") = False := by simp only [eq_iff_iff, iff_false]; decide +kernel
@[simp] theorem sl_code_within : ((Str.ofString "code") == (Str.ofString "within")) = false := by decide +kernel
@[simp] theorem sn_code_within : (Str.ofString "code" = Str.ofString "within") = False := by simp only [eq_iff_iff, iff_false]; decide +kernel
@[simp] theorem sl_code_press : ((Str.ofString "code") == (Str.ofString "press")) = false := by decide +kernel
@[simp] theorem sn_code_press : (Str.ofString "code" = Str.ofString "press") = False := by simp only [eq_iff_iff, iff_false]; decide +kernel
@[simp] theorem sl_code_release : ((Str.ofString "code") == (Str.ofString "release")) = false := by decide +kernel
@[simp] theorem sn_code_release : (Str.ofString "code" = Str.ofString "release") = False := by simp only [eq_iff_iff, iff_false]; decide +kernel
@[simp] theorem sl_layer_down : ((Str.ofString "layer") == (Str.ofString "down")) = false := by decide +kernel
@[simp] theorem sn_layer_down : (Str.ofString "layer" = Str.ofString "down") = False := by simp only [eq_iff_iff, iff_false]; decide +kernel
@[simp] theorem sl_layer_up : ((Str.ofString "layer") == (Str.ofString "up")) = false := by decide +kernel
@[simp] theorem sn_layer_up : (Str.ofString "layer" = Str.ofString "up") = False := by simp only [eq_iff_iff, iff_false]; decide +kernel
@[simp] theorem sl_layer_tap : ((Str.ofString "layer") == (Str.ofString "tap")) = false := by decide +kernel
@[simp] theorem sn_layer_tap : (Str.ofString "layer" = Str.ofString "tap") = False := by simp only [eq_iff_iff, iff_false]; decide +kernel
@[simp] theorem sl_layer_hold : ((Str.ofString "layer") == (Str.ofString "hold")) = false := by decide +kernel
@[simp] theorem sn_layer_hold : (Str.ofString "layer" = Str.ofString "hold") = False := by simp only [eq_iff_iff, iff_false]; decide +kernel
@[simp] theorem sl_layer_none : ((Str.ofString "layer") == (Str.ofString "none")) = false := by decide +kernel
@[simp] theorem sn_layer_none : (Str.ofString "layer" = Str.ofString "none") = False := by simp only [eq_iff_iff, iff_false]; decide +kernel
@[simp] theorem sl_layer_through : ((Str.ofString "layer") == (Str.ofString "through")) = false := by decide +kernel
@[simp] theorem sn_layer_through : (Str.ofString "layer" = Str.ofString "through") = False := by simp only [eq_iff_iff, iff_false]; decide +kernel
@[simp] theorem sl_layer_code : ((Str.ofString "layer") == (Str.ofString "code")) = false := by decide +kernel
@[simp] theorem sn_layer_code : (Str.ofString "layer" = Str.ofString "code") = False := by simp only [eq_iff_iff, iff_false]; decide +kernel
@[simp] theorem sl_layer_layer : ((Str.ofString "layer") == (Str.ofString "layer")) = true := by decide +kernel
@[simp] theorem sl_layer_lock : ((Str.ofString "layer") == (Str.ofString "lock")) = false := by decide +kernel
@[simp] theorem sn_layer_lock : (Str.ofString "layer" = Str.ofString "lock") = False := by simp only [eq_iff_iff, iff_false]; decide +kernel
@[simp] theorem sl_layer_once : ((Str.ofString "layer") == (Str.ofString "once")) = false := by decide +kernel
@[simp] theorem sn_layer_once : (Str.ofString "layer" = Str.ofString "once") = False := by simp only [eq_iff_iff, iff_false]; decide +kernel
@[simp] theorem sl_layer_dual : ((Str.ofString "layer") == (Str.ofString "dual")) = false := by decide +kernel
@[simp] theorem sn_layer_dual : (Str.ofString "layer" = Str.ofString "dual") = False := by simp only [eq_iff_iff, iff_false]; decide +kernel
@[simp] theorem sl_layer_time : ((Str.ofString "layer") == (Str.ofString "time")) = false := by decide +kernel
@[simp] theorem sn_layer_time : (Str.ofString "layer" = Str.ofString "time") = False := by simp only [eq_iff_iff, iff_false]; decide +kernel
@[simp] theorem sl_layer_other : ((Str.ofString "layer") == (Str.ofString "other")) = false := by decide +kernel
@[simp] theorem sn_layer_other : (Str.ofString "layer" = Str.ofString "other") = False := by simp only [eq_iff_iff, iff_false]; decide +kernel
@[simp] theorem sl_layer_within : ((Str.ofString "layer") == (Str.ofString "within")) = false := by decide +kernel
@[simp] theorem sn_layer_within : (Str.ofString "layer" = Str.ofString "within") = False := by simp only [eq_iff_iff, iff_false]; decide +kernel
@[simp] theorem sl_layer_press : ((Str.ofString "layer") == (Str.ofString "press")) = false := by decide +kernel
@[simp] theorem sn_layer_press : (Str.ofString "layer" = Str.ofString "press") = False := by simp only [eq_iff_iff, iff_false]; decide +kernel
@[simp] theorem sl_layer_release : ((Str.ofString "layer") == (Str.ofString "release")) = false := by decide +kernel
@[simp] theorem sn_layer_release : (Str.ofString "layer" = Str.ofString "release") = False := by simp only [eq_iff_iff, iff_false]; decide +kernel
@[simp] theorem sl_lock_down : ((Str.ofString "lock") == (Str.ofString "down")) = false := by decide +kernel
@[simp] theorem sn_lock_down : (Str.ofString "lock" = Str.ofString "down") = False := by simp only [eq_iff_iff, iff_false]; decide +kernel
@[simp] theorem sl_lock_up : ((Str.ofString "lock") == (Str.ofString "up")) = false := by decide +kernel
@[simp] theorem sn_lock_up : (Str.ofString "lock" = Str.ofString "up") = False := by simp only [eq_iff_iff, iff_false]; decide +kernel
@[simp] theorem sl_lock_tap : ((Str.ofString "lock") == (Str.ofString "tap")) = false := by decide +kernel
@[simp] theorem sn_lock_tap : (Str.ofString "lock" = Str.ofString "tap") = False := by simp only [eq_iff_iff, iff_false]; decide +kernel
@[simp] theorem sl_lock_hold : ((Str.ofString "lock") == (Str.ofString "hold")) = false := by decide +kernel
@[simp] theorem sn_lock_hold : (Str.ofString "lock" = Str.ofString "hold") = False := by simp only [eq_iff_iff, iff_false]; decide +kernel
@[simp] theorem sl_lock_none : ((Str.ofString "lock") == (Str.ofString "none")) = false := by decide +kernel
@[simp] theorem sn_lock_none : (Str.ofString "lock" = Str.ofString "none") = False := by simp only [eq_iff_iff, iff_false]; decide +kernel
@[simp] theorem sl_lock_through : ((Str.ofString "lock") == (Str.ofString "through")) = false := by decide +kernel
@[simp] theorem sn_lock_through : (Str.ofString "lock" = Str.ofString "through") = False := by simp only [eq_iff_iff, iff_false]; decide +kernel
@[simp] theorem sl_lock_code : ((Str.ofString "lock") == (Str.ofString "code")) = false := by decide +kernel
@[simp] theorem sn_lock_code : (Str.ofString "lock" = Str.ofString "code") = False := by simp only [eq_iff_iff, iff_false]; decide +kernel
@[simp] theorem sl_lock_layer : ((Str.ofString "lock") == (Str.ofString "layer")) = false := by decide +kernel
@[simp] theorem sn_lock_layer : (Str.ofString "lock" = Str.ofString "layer") = False := by simp only [eq_iff_iff, iff_false]; decide +kernel
@[simp] theorem sl_lock_lock : ((Str.ofString "lock") == (Str.ofString "lock")) = true := by decide +kernel
@[simp] theorem sl_lock_once : ((Str.ofString "lock") == (Str.ofString "once")) = false := by decide +kernel
@[simp] theorem sn_lock_once : (Str.ofString "lock" = Str.ofString "once") = False := by simp only [eq_iff_iff, iff_false]; decide +kernel
@[simp] theorem sl_lock_dual : ((Str.ofString "lock") == (Str.ofString "dual")) = false := by decide +kernel
@[simp] theorem sn_lock_dual : (Str.ofString "lock" = Str.ofString "dual") = False := by simp only [eq_iff_iff, iff_false]; decide +kernel
@[simp] theorem sl_lock_time : ((Str.ofString "lock") == (Str.ofString "time")) = false := by decide +kernel
@[simp] theorem sn_lock_time : (Str.ofString "lock" = Str.ofString "time") = False := by simp only [eq_iff_iff, iff_false]; decide +kernel
@[simp] theorem sl_lock_other : ((Str.ofString "lock") == (Str.ofString "other")) = false := by decide +kernel
@[simp] theorem sn_lock_other : (Str.ofString "lock" = Str.ofString "other") = False := by simp only [eq_iff_iff, iff_false]; decide +kernel
@[simp] theorem sl_lock_within : ((Str.ofString "lock") == (Str.ofString "within")) = false := by decide +kernel
@[simp] theorem sn_lock_within : (Str.ofString "lock" = Str.ofString "within") = False := by simp only [eq_iff_iff, iff_false]; decide +kernel
@[simp] theorem sl_lock_press : ((Str.ofString "lock") == (Str.ofString "press")) = false := by decide +kernel
@[simp] theorem sn_lock_press : (Str.ofString "lock" = Str.ofString "press") = False := by simp only [eq_iff_iff, iff_false]; decide +kernel
@[simp] theorem sl_lock_release : ((Str.ofString "lock") == (Str.ofString "release")) = false := by decide +kernel
@[simp] theorem sn_lock_release : (Str.ofString "lock" = Str.ofString "release") = False := by simp only [eq_iff_iff, iff_false]; decide +kernel
@[simp] theorem sl_once_down : ((Str.ofString "once") == (Str.ofString "down")) = false := by decide +kernel
@[simp] theorem sn_once_down : (Str.ofString "once" = Str.ofString "down") = False := by simp only [eq_iff_iff, iff_false]; decide +kernel
@[simp] theorem sl_once_up : ((Str.ofString "once") == (Str.ofString "up")) = false := by decide +kernel
@[simp] theorem sn_once_up : (Str.ofString "once" = Str.ofString "up") = False := by simp only [eq_iff_iff, iff_false]; decide +kernel
@[simp] theorem sl_once_tap : ((Str.ofString "once") == (Str.ofString "tap")) = false := by decide +kernel
@[simp] theorem sn_once_tap : (Str.ofString "once" = Str.ofString "tap") = False := by simp only [eq_iff_iff, iff_false]; decide +kernel
@[simp] theorem sl_once_hold : ((Str.ofString "once") == (Str.ofString "hold")) = false := by decide +kernel
@[simp] theorem sn_once_hold : (Str.ofString "once" = Str.ofString "hold") = False := by simp only [eq_iff_iff, iff_false]; decide +kernel
@[simp] theorem sl_once_none : ((Str.ofString "once") == (Str.ofString "none")) = false := by decide +kernel
@[simp] theorem sn_once_none : (Str.ofString "once" = Str.ofString "none") = False := by simp only [eq_iff_iff, iff_false]; decide +kernel
@[simp] theorem sl_once_through : ((Str.ofString "once") == (Str.ofString "through")) = false := by decide +kernel
@[simp] theorem sn_once_through : (Str.ofString "once" = Str.ofString "through") = False := by simp only [eq_iff_iff, iff_false]; decide +kernel
@[simp] theorem sl_once_code : ((Str.ofString "once") == (Str.ofString "code")) = false := by decide +kernel
@[simp] theorem sn_once_code : (Str.ofString "once" = Str.ofString "code") = False := by simp only [eq_iff_iff, iff_false]; decide +kernel
@[simp] theorem sl_once_layer : ((Str.ofString "once") == (Str.ofString "layer")) = false := by decide +kernel
@[simp] theorem sn_once_layer : (Str.ofString "once" = Str.ofString "layer") = False := by simp only [eq_iff_iff, iff_false]; decide +kernel
@[simp] theorem sl_once_lock : ((Str.ofString "once") == (Str.ofString "lock")) = false := by decide +kernel
@[simp] theorem sn_once_lock : (Str.ofString "once" = Str.ofString "lock") = False := by simp only [eq_iff_iff, iff_false]; decide +kernel
@[simp] theorem sl_once_once : ((Str.ofString "once") == (Str.ofString "once")) = true := by decide +kernel
@[simp] theorem sl_once_dual : ((Str.ofString "once") == (Str.ofString "dual")) = false := by decide +kernel
@[simp] theorem sn_once_dual : (Str.ofString "once" = Str.ofString "dual") = False := by simp only [eq_iff_iff, iff_false]; decide +kernel
@[simp] theorem sl_once_time : ((Str.ofString "once") == (Str.ofString "time")) = false := by decide +kernel
@[simp] theorem sn_once_time : (Str.ofString "once" = Str.ofString "time") = False := by simp only [eq_iff_iff, iff_false]; decide +kernel
@[simp] theorem sl_once_other : ((Str.ofString "once") == (Str.ofString "other")) = false := by decide +kernel
@[simp] theorem sn_once_other : (Str.ofString "once" = Str.ofString "other") = False := by simp only [eq_iff_iff, iff_false]; decide +kernel
@[simp] theorem sl_once_within : ((Str.ofString "once") == (Str.ofString "within")) = false := by decide +kernel
@[simp] theorem sn_once_within : (Str.ofString "once" = Str.ofString "within") = False := by simp only [eq_iff_iff, iff_false]; decide +kernel
@[simp] theorem sl_once_press : ((Str.ofString "once") == (Str.ofString "press")) = false := by decide +kernel
@[simp] theorem sn_once_press : (Str.ofString "once" = Str.ofString "press") = False := by simp only [eq_iff_iff, iff_false]; decide +kernel
@[simp] theorem sl_once_release : ((Str.ofString "once") == (Str.ofString "release")) = false := by decide +kernel
@[simp] theorem sn_once_release : (Str.ofString "once" = Str.ofString "release") = False := by simp only [eq_iff_iff, iff_false]; decide +kernel
@[simp] theorem sl_dual_down : ((Str.ofString "dual") == (Str.ofString "down")) = false := by decide +kernel
@[simp] theorem sn_dual_down : (Str.ofString "dual" = Str.ofString "down") = False := by simp only [eq_iff_iff, iff_false]; decide +kernel
@[simp] theorem sl_dual_up : ((Str.ofString "dual") == (Str.ofString "up")) = false := by decide +kernel
@[simp] theorem sn_dual_up : (Str.ofString "dual" = Str.ofString "up") = False := by simp only [eq_iff_iff, iff_false]; decide +kernel
@[simp] theorem sl_dual_tap : ((Str.ofString "dual") == (Str.ofString "tap")) = false := by decide +kernel
@[simp] theorem sn_dual_tap : (Str.ofString "dual" = Str.ofString "tap") = False := by simp only [eq_iff_iff, iff_false]; decide +kernel
@[simp] theorem sl_dual_hold : ((Str.ofString "dual") == (Str.ofString "hold")) = false := by decide +kernel
@[simp] theorem sn_dual_hold : (Str.ofString "dual" = Str.ofString "hold") = False := by simp only [eq_iff_iff, iff_false]; decide +kernel
@[simp] theorem sl_dual_none : ((Str.ofString "dual") == (Str.ofString "none")) = false := by decide +kernel
@[simp] theorem sn_dual_none : (Str.ofString "dual" = Str.ofString "none") = False := by simp only [eq_iff_iff, iff_false]; decide +kernel
@[simp] theorem sl_dual_through : ((Str.ofString "dual") == (Str.ofString "through")) = false := by decide +kernel
@[simp] theorem sn_dual_through : (Str.ofString "dual" = Str.ofString "through") = False := by simp only [eq_iff_iff, iff_false]; decide +kernel
@[simp] theorem sl_dual_code : ((Str.ofString "dual") == (Str.ofString "code")) = false := by decide +kernel
@[simp] theorem sn_dual_code : (Str.ofString "dual" = Str.ofString "code") = False := by simp only [eq_iff_iff, iff_false]; decide +kernel
@[simp] theorem sl_dual_layer : ((Str.ofString "dual") == (Str.ofString "layer")) = false := by decide +kernel
@[simp] theorem sn_dual_layer : (Str.ofString "dual" = Str.ofString "layer") = False := by simp only [eq_iff_iff, iff_false]; decide +kernel
@[simp] theorem sl_dual_lock : ((Str.ofString "dual") == (Str.ofString "lock")) = false := by decide +kernel
@[simp] theorem sn_dual_lock : (Str.ofString "dual" = Str.ofString "lock") = False := by simp only [eq_iff_iff, iff_false]; decide +kernel
@[simp] theorem sl_dual_once : ((Str.ofString "dual") == (Str.ofString "once")) = false := by decide +kernel
@[simp] theorem sn_dual_once : (Str.ofString "dual" = Str.ofString "once") = False := by simp only [eq_iff_iff, iff_false]; decide +kernel
@[simp] theorem sl_dual_dual : ((Str.ofString "dual") == (Str.ofString "dual")) = true := by decide +kernel
@[simp] theorem sl_dual_time : ((Str.ofString "dual") == (Str.ofString "time")) = false := by decide +kernel
@[simp] theorem sn_dual_time : (Str.ofString "dual" = Str.ofString "time") = False := by simp only [eq_iff_iff, iff_false]; decide +kernel
@[simp] theorem sl_dual_other : ((Str.ofString "dual") == (Str.ofString "other")) = false := by decide +kernel
@[simp] theorem sn_dual_other : (Str.ofString "dual" = Str.ofString "other") = False := by simp only [eq_iff_iff, iff_false]; decide +kernel
@[simp] theorem sl_dual_within : ((Str.ofString "dual") == (Str.ofString "within")) = false := by decide +kernel
@[simp] theorem sn_dual_within : (Str.ofString "dual" = Str.ofString "within") = False := by simp only [eq_iff_iff, iff_false]; decide +kernel
@[simp] theorem sl_dual_press : ((Str.ofString "dual") == (Str.ofString "press")) = false := by decide +kernel
@[simp] theorem sn_dual_press : (Str.ofString "dual" = Str.ofString "press") = False := by simp only [eq_iff_iff, iff_false]; decide +kernel
@[simp] theorem sl_dual_release : ((Str.ofString "dual") == (Str.ofString "release")) = false := by decide +kernel
@[simp] theorem sn_dual_release : (Str.ofString "dual" = Str.ofString "release") = False := by simp only [eq_iff_iff, iff_false]; decide +kernel
@[simp] theorem sl_time_down : ((Str.ofString "time") == (Str.ofString "down")) = false := by decide +kernel
@[simp] theorem sn_time_down : (Str.ofString "time" = Str.ofString "down") = False := by simp only [eq_iff_iff, iff_false]; decide +kernel
@[simp] theorem sl_time_up : ((Str.ofString "time") == (Str.ofString "up")) = false := by decide +kernel
@[simp] theorem sn_time_up : (Str.ofString "time" = Str.ofString "up") = False := by simp only [eq_iff_iff, iff_false]; decide +kernel
@[simp] theorem sl_time_tap : ((Str.ofString "time") == (Str.ofString "tap")) = false := by decide +kernel
@[simp] theorem sn_time_tap : (Str.ofString "time" = Str.ofString "tap") = False := by simp only [eq_iff_iff, iff_false]; decide +kernel
@[simp] theorem sl_time_hold : ((Str.ofString "time") == (Str.ofString "hold")) = false := by decide +kernel
@[simp] theorem sn_time_hold : (Str.ofString "time" = Str.ofString "hold") = False := by simp only [eq_iff_iff, iff_false]; decide +kernel
@[simp] theorem sl_time_none : ((Str.ofString "time") == (Str.ofString "none")) = false := by decide +kernel
@[simp] theorem sn_time_none : (Str.ofString "time" = Str.ofString "none") = False := by simp only [eq_iff_iff, iff_false]; decide +kernel
@[simp] theorem sl_time_through : ((Str.ofString "time") == (Str.ofString "through")) = false := by decide +kernel
@[simp] theorem sn_time_through : (Str.ofString "time" = Str.ofString "through") = False := by simp only [eq_iff_iff, iff_false]; decide +kernel
@[simp] theorem sl_time_code : ((Str.ofString "time") == (Str.ofString "code")) = false := by decide +kernel
@[simp] theorem sn_time_code : (Str.ofString "time" = Str.ofString "code") = False := by simp only [eq_iff_iff, iff_false]; decide +kernel
@[simp] theorem sl_time_layer : ((Str.ofString "time") == (Str.ofString "layer")) = false := by decide +kernel
@[simp] theorem sn_time_layer : (Str.ofString "time" = Str.ofString "layer") = False := by simp only [eq_iff_iff, iff_false]; decide +kernel
@[simp] theorem sl_time_lock : ((Str.ofString "time") == (Str.ofString "lock")) = false := by decide +kernel
@[simp] theorem sn_time_lock : (Str.ofString "time" = Str.ofString "lock") = False := by simp only [eq_iff_iff, iff_false]; decide +kernel
@[simp] theorem sl_time_once : ((Str.ofString "time") == (Str.ofString "once")) = false := by decide +kernel
@[simp] theorem sn_time_once : (Str.ofString "time" = Str.ofString "once") = False := by simp only [eq_iff_iff, iff_false]; decide +kernel
@[simp] theorem sl_time_dual : ((Str.ofString "time") == (Str.ofString "dual")) = false := by decide +kernel
@[simp] theorem sn_time_dual : (Str.ofString "time" = Str.ofString "dual") = False := by simp only [eq_iff_iff, iff_false]; decide +kernel
@[simp] theorem sl_time_time : ((Str.ofString "time") == (Str.ofString "time")) = true := by decide +kernel
@[simp] theorem sl_time_other : ((Str.ofString "time") == (Str.ofString "other")) = false := by decide +kernel
@[simp] theorem sn_time_other : (Str.ofString "time" = Str.ofString "other") = False := by simp only [eq_iff_iff, iff_false]; decide +kernel
@[simp] theorem sl_time_within : ((Str.ofString "time") == (Str.ofString "within")) = false := by decide +kernel
@[simp] theorem sn_time_within : (Str.ofString "time" = Str.ofString "within") = False := by simp only [eq_iff_iff, iff_false]; decide +kernel
@[simp] theorem sl_time_press : ((Str.ofString "time") == (Str.ofString "press")) = false := by decide +kernel
@[simp] theorem sn_time_press : (Str.ofString "time" = Str.ofString "press") = False := by simp only [eq_iff_iff, iff_false]; decide +kernel
@[simp] theorem sl_time_release : ((Str.ofString "time") == (Str.ofString "release")) = false := by decide +kernel
@[simp] theorem sn_time_release : (Str.ofString "time" = Str.ofString "release") = False := by simp only [eq_iff_iff, iff_false]; decide +kernel
@[simp] theorem sl_other_down : ((Str.ofString "other") == (Str.ofString "down")) = false := by decide +kernel
@[simp] theorem sn_other_down : (Str.ofString "other" = Str.ofString "down") = False := by simp only [eq_iff_iff, iff_false]; decide +kernel
@[simp] theorem sl_other_up : ((Str.ofString "other") == (Str.ofString "up")) = false := by decide +kernel
@[simp] theorem sn_other_up : (Str.ofString "other" = Str.ofString "up") = False := by simp only [eq_iff_iff, iff_false]; decide +kernel
@[simp] theorem sl_other_tap : ((Str.ofString "other") == (Str.ofString "tap")) = false := by decide +kernel
@[simp] theorem sn_other_tap : (Str.ofString "other" = Str.ofString "tap") = False := by simp only [eq_iff_iff, iff_false]; decide +kernel
@[simp] theorem sl_other_hold : ((Str.ofString "other") == (Str.ofString "hold")) = false := by decide +kernel
@[simp] theorem sn_other_hold : (Str.ofString "other" = Str.ofString "hold") = False := by simp only [eq_iff_iff, iff_false]; decide +kernel
@[simp] theorem sl_other_none : ((Str.ofString "other") == (Str.ofString "none")) = false := by decide +kernel
@[simp] theorem sn_other_none : (Str.ofString "other" = Str.ofString "none") = False := by simp only [eq_iff_iff, iff_false]; decide +kernel
@[simp] theorem sl_other_through : ((Str.ofString "other") == (Str.ofString "through")) = false := by decide +kernel
@[simp] theorem sn_other_through : (Str.ofString "other" = Str.ofString "through") = False := by simp only [eq_iff_iff, iff_false]; decide +kernel
@[simp] theorem sl_other_code : ((Str.ofString "other") == (Str.ofString "code")) = false := by decide +kernel
@[simp] theorem sn_other_code : (Str.ofString "other" = Str.ofString "code") = False := by simp only [eq_iff_iff, iff_false]; decide +kernel
@[simp] theorem sl_other_layer : ((Str.ofString "other") == (Str.ofString "layer")) = false := by decide +kernel
@[simp] theorem sn_other_layer : (Str.ofString "other" = Str.ofString "layer") = False := by simp only [eq_iff_iff, iff_false]; decide +kernel
@[simp] theorem sl_other_lock : ((Str.ofString "other") == (Str.ofString "lock")) = false := by decide +kernel
@[simp] theorem sn_other_lock : (Str.ofString "other" = Str.ofString "lock") = False := by simp only [eq_iff_iff, iff_false]; decide +kernel
@[simp] theorem sl_other_once : ((Str.ofString "other") == (Str.ofString "once")) = false := by decide +kernel
@[simp] theorem sn_other_once : (Str.ofString "other" = Str.ofString "once") = False := by simp only [eq_iff_iff, iff_false]; decide +kernel
@[simp] theorem sl_other_dual : ((Str.ofString "other") == (Str.ofString "dual")) = false := by decide +kernel
@[simp] theorem sn_other_dual : (Str.ofString "other" = Str.ofString "dual") = False := by simp only [eq_iff_iff, iff_false]; decide +kernel
@[simp] theorem sl_other_time : ((Str.ofString "other") == (Str.ofString "time")) = false := by decide +kernel
@[simp] theorem sn_other_time : (Str.ofString "other" = Str.ofString "time") = False := by simp only [eq_iff_iff, iff_false]; decide +kernel
@[simp] theorem sl_other_other : ((Str.ofString "other") == (Str.ofString "other")) = true := by decide +kernel
@[simp] theorem sl_other_within : ((Str.ofString "other") == (Str.ofString "within")) = false := by decide +kernel
@[simp] theorem sn_other_within : (Str.ofString "other" = Str.ofString "within") = False := by simp only [eq_iff_iff, iff_false]; decide +kernel
@[simp] theorem sl_other_press : ((Str.ofString "other") == (Str.ofString "press")) = false := by decide +kernel
@[simp] theorem sn_other_press : (Str.ofString "other" = Str.ofString "press") = False := by simp only [eq_iff_iff, iff_false]; decide +kernel
@[simp] theorem sl_other_release : ((Str.ofString "other") == (Str.ofString "release")) = false := by decide +kernel
@[simp] theorem sn_other_release : (Str.ofString "other" = Str.ofString "release") = False := by simp only [eq_iff_iff, iff_false]; decide +kernel
@[simp] theorem sl_within_down : ((Str.ofString "within") == (Str.ofString "down")) = false := by decide +kernel
@[simp] theorem sn_within_down : (Str.ofString "within" = Str.ofString "down") = False := by simp only [eq_iff_iff, iff_false]; decide +kernel
@[simp] theorem sl_within_up : ((Str.ofString "within") == (Str.ofString "up")) = false := by decide +kernel
@[simp] theorem sn_within_up : (Str.ofString "within" = Str.ofString "up") = False := by simp only [eq_iff_iff, iff_false]; decide +kernel
@[simp] theorem sl_within_tap : ((Str.ofString "within") == (Str.ofString "tap")) = false := by decide +kernel
@[simp] theorem sn_within_tap : (Str.ofString "within" = Str.ofString "tap") = False := by simp only [eq_iff_iff, iff_false]; decide +kernel
@[simp] theorem sl_within_hold : ((Str.ofString "within") == (Str.ofString "hold")) = false := by decide +kernel
@[simp] theorem sn_within_hold : (Str.ofString "within" = Str.ofString "hold") = False := by simp only [eq_iff_iff, iff_false]; decide +kernel
@[simp] theorem sl_within_none : ((Str.ofString "within") == (Str.ofString "none")) = false := by decide +kernel
@[simp] theorem sn_within_none : (Str.ofString "within" = Str.ofString "none") = False := by simp only [eq_iff_iff, iff_false]; decide +kernel
@[simp] theorem sl_within_through : ((Str.ofString "within") == (Str.ofString "through")) = false := by decide +kernel
@[simp] theorem sn_within_through : (Str.ofString "within" = Str.ofString "through") = False := by simp only [eq_iff_iff, iff_false]; decide +kernel
@[simp] theorem sl_within_code : ((Str.ofString "within") == (Str.ofString "code")) = false := by decide +kernel
@[simp] theorem sn_within_code : (Str.ofString "within" = Str.ofString "code") = False := by simp only [eq_iff_iff, iff_false]; decide +kernel
@[simp] theorem sl_within_layer : ((Str.ofString "within") == (Str.ofString "layer")) = false := by decide +kernel
@[simp] theorem sn_within_layer : (Str.ofString "within" = Str.ofString "layer") = False := by simp only [eq_iff_iff, iff_false]; decide +kernel
@[simp] theorem sl_within_lock : ((Str.ofString "within") == (Str.ofString "lock")) = false := by decide +kernel
@[simp] theorem sn_within_lock : (Str.ofString "within" = Str.ofString "lock") = False := by simp only [eq_iff_iff, iff_false]; decide +kernel
@[simp] theorem sl_within_once : ((Str.ofString "within") == (Str.ofString "once")) = false := by decide +kernel
@[simp] theorem sn_within_once : (Str.ofString "within" = Str.ofString "once") = False := by simp only [eq_iff_iff, iff_false]; decide +kernel
@[simp] theorem sl_within_dual : ((Str.ofString "within") == (Str.ofString "dual")) = false := by decide +kernel
@[simp] theorem sn_within_dual : (Str.ofString "within" = Str.ofString "dual") = False := by simp only [eq_iff_iff, iff_false]; decide +kernel
@[simp] theorem sl_within_time : ((Str.ofString "within") == (Str.ofString "time")) = false := by decide +kernel
@[simp] theorem sn_within_time : (Str.ofString "within" = Str.ofString "time") = False := by simp only [eq_iff_iff, iff_false]; decide +kernel
@[simp] theorem sl_within_other : ((Str.ofString "within") == (Str.ofString "other")) = false := by decide +kernel
@[simp] theorem sn_within_other : (Str.ofString "within" = Str.ofString "other") = False := by simp only [eq_iff_iff, iff_false]; decide +kernel
@[simp] theorem sl_within_within : ((Str.ofString "within") == (Str.ofString "within")) = true := by decide +kernel
@[simp] theorem sl_within_press : ((Str.ofString "within") == (Str.ofString "press")) = false := by decide +kernel
@[simp] theorem sn_within_press : (Str.ofString "within" = Str.ofString "press") = False := by simp only [eq_iff_iff, iff_false]; decide +kernel
@[simp] theorem sl_within_release : ((Str.ofString "within") == (Str.ofString "release")) = false := by decide +kernel
@[simp] theorem sn_within_release : (Str.ofString "within" = Str.ofString "release") = False := by simp only [eq_iff_iff, iff_false]; decide +kernel
@[simp] theorem sl_press_down : ((Str.ofString "press") == (Str.ofString "down")) = false := by decide +kernel
@[simp] theorem sn_press_down : (Str.ofString "press" = Str.ofString "down") = False := by simp only [eq_iff_iff, iff_false]; decide +kernel
@[simp] theorem sl_press_up : ((Str.ofString "press") == (Str.ofString "up")) = false := by decide +kernel
@[simp] theorem sn_press_up : (Str.ofString "press" = Str.ofString "up") = False := by simp only [eq_iff_iff, iff_false]; decide +kernel
@[simp] theorem sl_press_tap : ((Str.ofString "press") == (Str.ofString "tap")) = false := by decide +kernel
@[simp] theorem sn_press_tap : (Str.ofString "press" = Str.ofString "tap") = False := by simp only [eq_iff_iff, iff_false]; decide +kernel
@[simp] theorem sl_press_hold : ((Str.ofString "press") == (Str.ofString "hold")) = false := by decide +kernel
@[simp] theorem sn_press_hold : (Str.ofString "press" = Str.ofString "hold") = False := by simp only [eq_iff_iff, iff_false]; decide +kernel
@[simp] theorem sl_press_none : ((Str.ofString "press") == (Str.ofString "none")) = false := by decide +kernel
@[simp] theorem sn_press_none : (Str.ofString "press" = Str.ofString "none") = False := by simp only [eq_iff_iff, iff_false]; decide +kernel
@[simp] theorem sl_press_through : ((Str.ofString "press") == (Str.ofString "through")) = false := by decide +kernel
@[simp] theorem sn_press_through : (Str.ofString "press" = Str.ofString "through") = False := by simp only [eq_iff_iff, iff_false]; decide +kernel
@[simp] theorem sl_press_code : ((Str.ofString "press") == (Str.ofString "code")) = false := by decide +kernel
@[simp] theorem sn_press_code : (Str.ofString "press" = Str.ofString "code") = False := by simp only [eq_iff_iff, iff_false]; decide +kernel
@[simp] theorem sl_press_layer : ((Str.ofString "press") == (Str.ofString "layer")) = false := by decide +kernel
@[simp] theorem sn_press_layer : (Str.ofString "press" = Str.ofString "layer") = False := by simp only [eq_iff_iff, iff_false]; decide +kernel
@[simp] theorem sl_press_lock : ((Str.ofString "press") == (Str.ofString "lock")) = false := by decide +kernel
@[simp] theorem sn_press_lock : (Str.ofString "press" = Str.ofString "lock") = False := by simp only [eq_iff_iff, iff_false]; decide +kernel
@[simp] theorem sl_press_once : ((Str.ofString "press") == (Str.ofString "once")) = false := by decide +kernel
@[simp] theorem sn_press_once : (Str.ofString "press" = Str.ofString "once") = False := by simp only [eq_iff_iff, iff_false]; decide +kernel
@[simp] theorem sl_press_dual : ((Str.ofString "press") == (Str.ofString "dual")) = false := by decide +kernel
@[simp] theorem sn_press_dual : (Str.ofString "press" = Str.ofString "dual") = False := by simp only [eq_iff_iff, iff_false]; decide +kernel
@[simp] theorem sl_press_time : ((Str.ofString "press") == (Str.ofString "time")) = false := by decide +kernel
@[simp] theorem sn_press_time : (Str.ofString "press" = Str.ofString "time") = False := by simp only [eq_iff_iff, iff_false]; decide +kernel
@[simp] theorem sl_press_other : ((Str.ofString "press") == (Str.ofString "other")) = false := by decide +kernel
@[simp] theorem sn_press_other : (Str.ofString "press" = Str.ofString "other") = False := by simp only [eq_iff_iff, iff_false]; decide +kernel
@[simp] theorem sl_press_within : ((Str.ofString "press") == (Str.ofString "within")) = false := by decide +kernel
@[simp] theorem sn_press_within : (Str.ofString "press" = Str.ofString "within") = False := by simp only [eq_iff_iff, iff_false]; decide +kernel
@[simp] theorem sl_press_press : ((Str.ofString "press") == (Str.ofString "press")) = true := by decide +kernel
@[simp] theorem sl_press_release : ((Str.ofString "press") == (Str.ofString "release")) = false := by decide +kernel
@[simp] theorem sn_press_release : (Str.ofString "press" = Str.ofString "release") = False := by simp only [eq_iff_iff, iff_false]; decide +kernel
@[simp] theorem sl_release_down : ((Str.ofString "release") == (Str.ofString "down")) = false := by decide +kernel
@[simp] theorem sn_release_down : (Str.ofString "release" = Str.ofString "down") = False := by simp only [eq_iff_iff, iff_false]; decide +kernel
@[simp] theorem sl_release_up : ((Str.ofString "release") == (Str.ofString "up")) = false := by decide +kernel
@[simp] theorem sn_release_up : (Str.ofString "release" = Str.ofString "up") = False := by simp only [eq_iff_iff, iff_false]; decide +kernel
@[simp] theorem sl_release_tap : ((Str.ofString "release") == (Str.ofString "tap")) = false := by decide +kernel
@[simp] theorem sn_release_tap : (Str.ofString "release" = Str.ofString "tap") = False := by simp only [eq_iff_iff, iff_false]; decide +kernel
@[simp] theorem sl_release_hold : ((Str.ofString "release") == (Str.ofString "hold")) = false := by decide +kernel
@[simp] theorem sn_release_hold : (Str.ofString "release" = Str.ofString "hold") = False := by simp only [eq_iff_iff, iff_false]; decide +kernel
@[simp] theorem sl_release_none : ((Str.ofString "release") == (Str.ofString "none")) = false := by decide +kernel
@[simp] theorem sn_release_none : (Str.ofString "release" = Str.ofString "none") = False := by simp only [eq_iff_iff, iff_false]; decide +kernel
@[simp] theorem sl_release_through : ((Str.ofString "release") == (Str.ofString "through")) = false := by decide +kernel
@[simp] theorem sn_release_through : (Str.ofString "release" = Str.ofString "through") = False := by simp only [eq_iff_iff, iff_false]; decide +kernel
@[simp] theorem sl_release_code : ((Str.ofString "release") == (Str.ofString "code")) = false := by decide +kernel
@[simp] theorem sn_release_code : (Str.ofString "release" = Str.ofString "code") = False := by simp only [eq_iff_iff, iff_false]; decide +kernel
@[simp] theorem sl_release_layer : ((Str.ofString "release") == (Str.ofString "layer")) = false := by decide +kernel
@[simp] theorem sn_release_layer : (Str.ofString "release" = Str.ofString "layer") = False := by simp only [eq_iff_iff, iff_false]; decide +kernel
@[simp] theorem sl_release_lock : ((Str.ofString "release") == (Str.ofString "lock")) = false := by decide +kernel
@[simp] theorem sn_release_lock : (Str.ofString "release" = Str.ofString "lock") = False := by simp only [eq_iff_iff, iff_false]; decide +kernel
@[simp] theorem sl_release_once : ((Str.ofString "release") == (Str.ofString "once")) = false := by decide +kernel
@[simp] theorem sn_release_once : (Str.ofString "release" = Str.ofString "once") = False := by simp only [eq_iff_iff, iff_false]; decide +kernel
@[simp] theorem sl_release_dual : ((Str.ofString "release") == (Str.ofString "dual")) = false := by decide +kernel
@[simp] theorem sn_release_dual : (Str.ofString "release" = Str.ofString "dual") = False := by simp only [eq_iff_iff, iff_false]; decide +kernel
@[simp] theorem sl_release_time : ((Str.ofString "release") == (Str.ofString "time")) = false := by decide +kernel
@[simp] theorem sn_release_time : (Str.ofString "release" = Str.ofString "time") = False := by simp only [eq_iff_iff, iff_false]; decide +kernel
@[simp] theorem sl_release_other : ((Str.ofString "release") == (Str.ofString "other")) = false := by decide +kernel
@[simp] theorem sn_release_other : (Str.ofString "release" = Str.ofString "other") = False := by simp only [eq_iff_iff, iff_false]; decide +kernel
@[simp] theorem sl_release_within : ((Str.ofString "release") == (Str.ofString "within")) = false := by decide +kernel
@[simp] theorem sn_release_within : (Str.ofString "release" = Str.ofString "within") = False := by simp only [eq_iff_iff, iff_false]; decide +kernel
@[simp] theorem sl_release_press : ((Str.ofString "release") == (Str.ofString "press")) = false := by decide +kernel
@[simp] theorem sn_release_press : (Str.ofString "release" = Str.ofString "press") = False := by simp only [eq_iff_iff, iff_false]; decide +kernel
@[simp] theorem sl_release_release : ((Str.ofString "release") == (Str.ofString "release")) = true := by decide +kernel
@[simp] theorem so_down : PyData.strOk (Str.ofString "down") = true := by decide +kernel
@[simp] theorem so_up : PyData.strOk (Str.ofString "up") = true := by decide +kernel
@[simp] theorem so_tap : PyData.strOk (Str.ofString "tap") = true := by decide +kernel
@[simp] theorem so_hold : PyData.strOk (Str.ofString "hold") = true := by decide +kernel
@[simp] theorem so_none : PyData.strOk (Str.ofString "none") = true := by decide +kernel
@[simp] theorem so_through : PyData.strOk (Str.ofString "through") = true := by decide +kernel
@[simp] theorem so_code : PyData.strOk (Str.ofString "code") = true := by decide +kernel
@[simp] theorem so_layer : PyData.strOk (Str.ofString "layer") = true := by decide +kernel
@[simp] theorem so_lock : PyData.strOk (Str.ofString "lock") = true := by decide +kernel
@[simp] theorem so_once : PyData.strOk (Str.ofString "once") = true := by decide +kernel
@[simp] theorem so_dual : PyData.strOk (Str.ofString "dual") = true := by decide +kernel
@[simp] theorem so_time : PyData.strOk (Str.ofString "time") = true := by decide +kernel
@[simp] theorem so_other : PyData.strOk (Str.ofString "other") = true := by decide +kernel
@[simp] theorem so_within : PyData.strOk (Str.ofString "within") = true := by decide +kernel
@[simp] theorem so_press : PyData.strOk (Str.ofString "press") = true := by decide +kernel
@[simp] theorem so_release : PyData.strOk (Str.ofString "release") = true := by decide +kernel
@[simp] theorem kb_none_bool : kitB "NoneType" "bool" = some false := by decide +kernel
@[simp] theorem kb_none_int : kitB "NoneType" "int" = some false := by decide +kernel
@[simp] theorem kb_none_str : kitB "NoneType" "str" = some false := by decide +kernel
@[simp] theorem kb_none_list : kitB "NoneType" "list" = some false := by decide +kernel
@[simp] theorem kb_none_tuple : kitB "NoneType" "tuple" = some false := by decide +kernel
@[simp] theorem kb_bool_bool : kitB "bool" "bool" = some true := by decide +kernel
@[simp] theorem kb_bool_int : kitB "bool" "int" = some true := by decide +kernel
@[simp] theorem kb_bool_str : kitB "bool" "str" = some false := by decide +kernel
@[simp] theorem kb_bool_list : kitB "bool" "list" = some false := by decide +kernel
@[simp] theorem kb_bool_tuple : kitB "bool" "tuple" = some false := by decide +kernel
@[simp] theorem kb_int_bool : kitB "int" "bool" = some false := by decide +kernel
@[simp] theorem kb_int_int : kitB "int" "int" = some true := by decide +kernel
@[simp] theorem kb_int_str : kitB "int" "str" = some false := by decide +kernel
@[simp] theorem kb_int_list : kitB "int" "list" = some false := by decide +kernel
@[simp] theorem kb_int_tuple : kitB "int" "tuple" = some false := by decide +kernel
@[simp] theorem kb_str_bool : kitB "str" "bool" = some false := by decide +kernel
@[simp] theorem kb_str_int : kitB "str" "int" = some false := by decide +kernel
@[simp] theorem kb_str_str : kitB "str" "str" = some true := by decide +kernel
@[simp] theorem kb_str_list : kitB "str" "list" = some false := by decide +kernel
@[simp] theorem kb_str_tuple : kitB "str" "tuple" = some false := by decide +kernel
@[simp] theorem kb_list_bool : kitB "list" "bool" = some false := by decide +kernel
@[simp] theorem kb_list_int : kitB "list" "int" = some false := by decide +kernel
@[simp] theorem kb_list_str : kitB "list" "str" = some false := by decide +kernel
@[simp] theorem kb_list_list : kitB "list" "list" = some true := by decide +kernel
@[simp] theorem kb_list_tuple : kitB "list" "tuple" = some false := by decide +kernel
@[simp] theorem kb_tuple_bool : kitB "tuple" "bool" = some false := by decide +kernel
@[simp] theorem kb_tuple_int : kitB "tuple" "int" = some false := by decide +kernel
@[simp] theorem kb_tuple_str : kitB "tuple" "str" = some false := by decide +kernel
@[simp] theorem kb_tuple_list : kitB "tuple" "list" = some false := by decide +kernel
@[simp] theorem kb_tuple_tuple : kitB "tuple" "tuple" = some true := by decide +kernel
@[simp] theorem shaped_iff (d : PyData) : SeqAt.shaped d = (d.canLay0 && decide (d.depth ≤ 64)) := rfl
@[simp] theorem unsh_map' (ds : List PyData) : unsh (ds.map En.sh) = some ds := unsh_map ds
@[simp] theorem unsh_comp {α : Type} (f : α → PyData) (xs : List α) : unsh (xs.map (En.sh ∘ f)) = some (xs.map f) := by
  rw [← List.map_map]
  exact unsh_map _
@[simp] theorem unsh_comp' {α : Type} (f : α → PyData) (xs : List α) : unsh (xs.map (fun x => En.sh (f x))) = some (xs.map f) := unsh_comp f xs
@[simp] theorem cl_none : PyData.canLay0 .none = true := by rw [PyData.canLay0]
@[simp] theorem cl_bool (b : Bool) : PyData.canLay0 (.bool b) = true := by rw [PyData.canLay0]
@[simp] theorem cl_int (i : Int) : PyData.canLay0 (.int i) = true := by rw [PyData.canLay0]
@[simp] theorem cl_str (x : Str) : PyData.canLay0 (.str x) = PyData.strOk x := by rw [PyData.canLay0]
@[simp] theorem cl_list (xs : List PyData) : PyData.canLay0 (.list xs) = PyData.canLayAll0 xs := by rw [PyData.canLay0]
@[simp] theorem cl_tup (xs : List PyData) : PyData.canLay0 (.tuple xs) = PyData.canLayAll0 xs := by rw [PyData.canLay0]
@[simp] theorem cl_nil : PyData.canLayAll0 [] = true := by rw [PyData.canLayAll0]
@[simp] theorem cl_cons (x : PyData) (xs : List PyData) : PyData.canLayAll0 (x :: xs) = (x.canLay0 && PyData.canLayAll0 xs) := by rw [PyData.canLayAll0]
@[simp] theorem dp_none : PyData.depth .none = 0 := by rw [PyData.depth]
@[simp] theorem dp_bool (b : Bool) : PyData.depth (.bool b) = 0 := by rw [PyData.depth]
@[simp] theorem dp_int (i : Int) : PyData.depth (.int i) = 0 := by rw [PyData.depth]
@[simp] theorem dp_str (x : Str) : PyData.depth (.str x) = 0 := by rw [PyData.depth]
@[simp] theorem dp_list (xs : List PyData) : PyData.depth (.list xs) = PyData.depthAll xs + 1 := by rw [PyData.depth]
@[simp] theorem dp_tup (xs : List PyData) : PyData.depth (.tuple xs) = PyData.depthAll xs + 1 := by rw [PyData.depth]
@[simp] theorem dp_nil : PyData.depthAll [] = 0 := by rw [PyData.depthAll]
@[simp] theorem dp_cons (x : PyData) (xs : List PyData) : PyData.depthAll (x :: xs) = max (x.depth) (PyData.depthAll xs) := by rw [PyData.depthAll]
@[simp] theorem ev_nn : PyData.eqv .none .none = true := rfl
@[simp] theorem ev_bb (a b : Bool) : PyData.eqv (.bool a) (.bool b) = (a == b) := rfl
@[simp] theorem ev_ii (a b : Int) : PyData.eqv (.int a) (.int b) = (a == b) := rfl
@[simp] theorem ev_ss (a b : Str) : PyData.eqv (.str a) (.str b) = (a == b) := rfl
@[simp] theorem ev_ll (a b : List PyData) : PyData.eqv (.list a) (.list b) = PyData.eqvAll a b := by rw [PyData.eqv]
@[simp] theorem ev_tt (a b : List PyData) : PyData.eqv (.tuple a) (.tuple b) = PyData.eqvAll a b := by rw [PyData.eqv]
@[simp] theorem ev_st (a : Str) (b : List PyData) : PyData.eqv (.str a) (.tuple b) = false := by rw [PyData.eqv]
@[simp] theorem ev_ts (a : List PyData) (b : Str) : PyData.eqv (.tuple a) (.str b) = false := by rw [PyData.eqv]
@[simp] theorem ev_is (a : Int) (b : Str) : PyData.eqv (.int a) (.str b) = false := by rw [PyData.eqv]
@[simp] theorem ev_si (a : Str) (b : Int) : PyData.eqv (.str a) (.int b) = false := by rw [PyData.eqv]
@[simp] theorem ev_ni (b : Int) : PyData.eqv .none (.int b) = false := by rw [PyData.eqv]
@[simp] theorem ev_in (b : Int) : PyData.eqv (.int b) .none = false := by rw [PyData.eqv]
@[simp] theorem ev_sn (b : Str) : PyData.eqv (.str b) .none = false := by rw [PyData.eqv]
@[simp] theorem ev_ns (b : Str) : PyData.eqv .none (.str b) = false := by rw [PyData.eqv]
@[simp] theorem ev_00 : PyData.eqvAll [] [] = true := by rw [PyData.eqvAll]
@[simp] theorem ev_01 (x : PyData) (xs : List PyData) : PyData.eqvAll [] (x :: xs) = false := by rw [PyData.eqvAll]
@[simp] theorem ev_10 (x : PyData) (xs : List PyData) : PyData.eqvAll (x :: xs) [] = false := by rw [PyData.eqvAll]
@[simp] theorem ev_11 (x : PyData) (xs : List PyData) (y : PyData) (ys : List PyData) : PyData.eqvAll (x :: xs) (y :: ys) = (PyData.eqv x y && PyData.eqvAll xs ys) := by rw [PyData.eqvAll]
@[simp] theorem atI_nat (ds : List PyData) (n : Nat) : atI ds (n : Int) = ds[n]? := by
  unfold atI ixN
  by_cases h : n < ds.length
  · simp [h]
  · have h2 : ds[n]? = none := List.getElem?_eq_none (by omega)
    rw [h2]
    simp
    omega
@[simp] theorem atI_0 (ds : List PyData) : atI ds 0 = ds[0]? := atI_nat ds 0
@[simp] theorem atI_1 (ds : List PyData) : atI ds 1 = ds[1]? := atI_nat ds 1
@[simp] theorem atI_2 (ds : List PyData) : atI ds 2 = ds[2]? := atI_nat ds 2
@[simp] theorem atI_3 (ds : List PyData) : atI ds 3 = ds[3]? := atI_nat ds 3
@[simp] theorem atI_4 (ds : List PyData) : atI ds 4 = ds[4]? := atI_nat ds 4
theorem atI_last (ds : List PyData) : atI ds (-1) = ds.getLast? := by
  unfold atI ixN
  cases ds with
  | nil => rfl
  | cons d ds =>
    have e : (-1 + ((d :: ds).length : Int)).toNat = ds.length := by simp; omega
    rw [if_neg (by decide), if_pos (by simp; omega)]
    show (d :: ds)[(-1 + ((d :: ds).length : Int)).toNat]? = _
    rw [e, List.getLast?_eq_getElem?]
    rfl
/-! ### comprehensions and loops of typed things -/
theorem take_at {α : Type} {xs : List α} {i : Nat} {x : α} (h : xs[i]? = some x) : xs = xs.take i ++ x :: xs.drop (i + 1) ∧ xs.take (i + 1) = xs.take i ++ [x] := by
  obtain ⟨hi, e⟩ := List.getElem?_eq_some_iff.mp h
  subst e
  exact ⟨by rw [List.getElem_cons_drop, List.take_append_drop], by rw [List.take_succ, List.getElem?_eq_getElem hi]; rfl⟩
theorem lc_t {α : Type} {β : AG} {τt : AT} {τe : AE} {vs : List Nat} {ds : List PyData} {Γ : Ga} {P : En → Ga → Prop} (xs : List α) (enc : α → PyData) (f : α → Option PyData) (hd : ds = xs.map enc) (hz : xs.length < sizeLine)
    (turn : ∀ x, x ∈ xs → ∀ (KT : En → Ga → Prop) (KF : Ga → Prop), (∀ d Γ5, f x = some d → wipeG Γ5 vs = wipeG Γ vs → KT (.sh d) Γ5) → (∀ Γ4, f x = none → wipeG Γ4 vs = wipeG Γ vs → KF Γ4) → β (.sh (enc x)) (wipeG Γ vs) fun Γ3 => τt Γ3 fun b Γ4 => if b = true then τe Γ4 KT else KF Γ4)
    (done : P (.lst ((xs.filterMap f).map En.sh)) (wipeG (wipeG Γ vs) vs)) : lcB β τt τe vs ds Γ P := by
  subst hd
  refine ⟨fun i acc Γ2 => Γ2 = wipeG Γ vs ∧ acc = ((xs.take i).filterMap f).map En.sh, ⟨rfl, rfl⟩, ?_, ?_⟩
  · rintro i d acc Γ2 hd ⟨rfl, rfl⟩
    rw [List.getElem?_map] at hd
    obtain ⟨x, hx, rfl⟩ := Option.map_eq_some_iff.mp hd
    obtain ⟨_, et⟩ := take_at hx
    refine turn x (List.mem_of_getElem? hx) _ _ (fun d' Γ5 e1 e3 => ⟨?_, e3, ?_⟩) fun Γ4 e1 e2 => ⟨e2, ?_⟩
    · rw [List.length_map]
      refine Nat.lt_of_le_of_lt (List.length_filterMap_le _ _) ?_
      rw [List.length_take]
      omega
    · rw [et, List.filterMap_append, List.map_append]
      simp [e1]
    · rw [et, List.filterMap_append]
      simp [e1]
  · rintro acc Γ2 ⟨rfl, rfl⟩
    rw [List.length_map, List.take_length]
    exact done
theorem lc_m {α : Type} {β : AG} {τt : AT} {τe : AE} {vs : List Nat} {ds : List PyData} {Γ : Ga} {P : En → Ga → Prop} (xs : List α) (enc g : α → PyData) (hd : ds = xs.map enc) (hz : xs.length < sizeLine)
    (turn : ∀ x, x ∈ xs → ∀ (KT : En → Ga → Prop) (KF : Ga → Prop), (∀ Γ5, wipeG Γ5 vs = wipeG Γ vs → KT (.sh (g x)) Γ5) → β (.sh (enc x)) (wipeG Γ vs) fun Γ3 => τt Γ3 fun b Γ4 => if b = true then τe Γ4 KT else KF Γ4)
    (done : P (.lst ((xs.map g).map En.sh)) (wipeG (wipeG Γ vs) vs)) : lcB β τt τe vs ds Γ P := by
  refine lc_t xs enc (fun x => some (g x)) hd hz (fun x hx KT KF k1 _ => turn x hx KT KF fun Γ5 => k1 _ Γ5 rfl) ?_
  have e : xs.filterMap (fun x => some (g x)) = xs.map g := by rw [← List.filterMap_eq_map]; rfl
  rw [e]
  exact done
theorem lc_f {α : Type} {β : AG} {τt : AT} {τe : AE} {vs : List Nat} {ds : List PyData} {Γ : Ga} {P : En → Ga → Prop} (xs : List α) (enc g : α → PyData) (p : α → Bool) (hd : ds = xs.map enc) (hz : xs.length < sizeLine)
    (turn : ∀ x, x ∈ xs → ∀ (KT : En → Ga → Prop) (KF : Ga → Prop), (∀ Γ5, p x = true → wipeG Γ5 vs = wipeG Γ vs → KT (.sh (g x)) Γ5) → (∀ Γ4, p x = false → wipeG Γ4 vs = wipeG Γ vs → KF Γ4) → β (.sh (enc x)) (wipeG Γ vs) fun Γ3 => τt Γ3 fun b Γ4 => if b = true then τe Γ4 KT else KF Γ4)
    (done : P (.lst (((xs.filter p).map g).map En.sh)) (wipeG (wipeG Γ vs) vs)) : lcB β τt τe vs ds Γ P := by
  refine lc_t xs enc (fun x => if p x = true then some (g x) else none) hd hz (fun x hx KT KF k1 k2 => turn x hx KT KF (fun Γ5 e => k1 _ Γ5 (by rw [if_pos e])) fun Γ5 e => k2 Γ5 (by rw [if_neg (by rw [e]; exact Bool.false_ne_true)])) ?_
  have e : ∀ xs : List α, xs.filterMap (fun x => if p x = true then some (g x) else none) = (xs.filter p).map g := fun xs => by
    induction xs with
    | nil => rfl
    | cons x xs ih =>
      cases h : p x <;> simp [h, ih]
  rw [e]
  exact done
/-- a comprehension with a state: what stands before each turn -/
theorem lc_pre {α : Type} {β : AG} {τt : AT} {τe : AE} {vs : List Nat} {ds : List PyData} {Γ : Ga} {P : En → Ga → Prop} (xs : List α) (enc : α → PyData) (I : List α → List En → Ga → Prop) (hd : ds = xs.map enc) (h0 : I [] [] (wipeG Γ vs))
    (turn : ∀ p x q acc Γ2, xs = p ++ x :: q → I p acc Γ2 → β (.sh (enc x)) Γ2 fun Γ3 => τt Γ3 fun b Γ4 => if b = true then τe Γ4 fun r Γ5 => acc.length < sizeLine ∧ I (p ++ [x]) (acc ++ [r]) (wipeG Γ5 vs) else I (p ++ [x]) acc (wipeG Γ4 vs))
    (done : ∀ acc Γ2, I xs acc Γ2 → P (.lst acc) (wipeG Γ2 vs)) : lcB β τt τe vs ds Γ P := by
  subst hd
  refine ⟨fun i acc Γ2 => I (xs.take i) acc Γ2, h0, ?_, ?_⟩
  · intro i d acc Γ2 hd iv
    rw [List.getElem?_map] at hd
    obtain ⟨x, hx, rfl⟩ := Option.map_eq_some_iff.mp hd
    obtain ⟨e1, et⟩ := take_at hx
    have q := turn _ x _ acc Γ2 e1 iv
    rw [← et] at q
    exact q
  · intro acc Γ2 iv
    rw [List.length_map, List.take_length] at iv
    exact done acc Γ2 iv
theorem for_t {α : Type} {β : AG} {τb : AS} {ds : List PyData} {Δ : AEnds} {Γ : Ga} (xs : List α) (enc : α → PyData) (J : List α → Ga → Prop) (hd : ds = xs.map enc) (h0 : J [] Γ)
    (turn : ∀ p x q Γ2, xs = p ++ x :: q → J p Γ2 → β (.sh (enc x)) Γ2 fun Γ3 => τb { Δ with nx := J (p ++ [x]), ct := J (p ++ [x]), bk := Δ.nx } Γ3) (done : ∀ Γ2, J xs Γ2 → Δ.nx Γ2) : forB β τb ds Δ Γ := by
  subst hd
  refine ⟨fun i Γ2 => J (xs.take i) Γ2, h0, ?_, ?_⟩
  · intro i d Γ2 hd iv
    rw [List.getElem?_map] at hd
    obtain ⟨x, hx, rfl⟩ := Option.map_eq_some_iff.mp hd
    obtain ⟨e1, et⟩ := take_at hx
    have q := turn _ x _ Γ2 e1 iv
    rw [← et] at q
    exact q
  · intro Γ2 iv
    rw [List.length_map, List.take_length] at iv
    exact done Γ2 iv
theorem enumD_map {α : Type} (xs : List α) (enc : α → PyData) : enumD (xs.map enc) = xs.zipIdx.map fun p => .tuple [.int (p.2 : Nat), enc p.1] := by
  unfold enumD
  rw [List.zipIdx_map, List.map_map]
  rfl
theorem zipD_map {α β : Type} (xs : List α) (ys : List β) (e : α → PyData) (f : β → PyData) : zipD (xs.map e) (ys.map f) = (xs.zip ys).map fun p => .tuple [e p.1, f p.2] := by
  unfold zipD
  induction xs generalizing ys with
  | nil => rfl
  | cons x xs ih => cases ys with
    | nil => rfl
    | cons y ys => simp [ih]
theorem map_bools {α : Type} (xs : List α) (p : α → Bool) : xs.map (fun x => PyData.bool (p x)) = (xs.map p).map .bool := by rw [List.map_map]; rfl
theorem bool_inj : ∀ {xs ys : List Bool}, xs.map PyData.bool = ys.map PyData.bool → xs = ys := fun h => List.map_inj_right (fun a b e => by cases e; rfl) |>.mp h
theorem int_inj : ∀ {xs ys : List Int}, xs.map PyData.int = ys.map PyData.int → xs = ys := fun h => List.map_inj_right (fun a b e => by cases e; rfl) |>.mp h
@[simp] theorem ex_bools {α : Type} (xs : List α) (p : α → Bool) (P : List Bool → Prop) : (∃ bs, xs.map (fun x => PyData.bool (p x)) = bs.map PyData.bool ∧ P bs) = P (xs.map p) := by
  refine propext ⟨fun ⟨bs, e, h⟩ => ?_, fun h => ⟨_, map_bools _ _, h⟩⟩
  rw [map_bools] at e
  rw [bool_inj e]
  exact h
@[simp] theorem ex_boolsF (xs : List Bool) (P : List Bool → Prop) : (∃ bs, xs.map PyData.bool = bs.map PyData.bool ∧ P bs) = P xs := propext ⟨fun ⟨bs, e, h⟩ => by rw [bool_inj e]; exact h, fun h => ⟨_, rfl, h⟩⟩
@[simp] theorem ex2_eq {α β : Type} {a : α} {b : β} {P : α → β → Prop} : (∃ x y, (a = x ∧ b = y) ∧ P x y) = P a b := propext ⟨fun ⟨_, _, ⟨h1, h2⟩, h⟩ => by subst h1 h2; exact h, fun h => ⟨_, _, ⟨rfl, rfl⟩, h⟩⟩
@[simp] theorem ex2_eq' {α β : Type} {a : α} {b : β} {P : α → β → Prop} : (∃ x y, (x = a ∧ y = b) ∧ P x y) = P a b := propext ⟨fun ⟨_, _, ⟨h1, h2⟩, h⟩ => by subst h1 h2; exact h, fun h => ⟨_, _, ⟨rfl, rfl⟩, h⟩⟩
@[simp] theorem ex2_eq2 {α β : Type} {a : α} {b : β} {P : α → β → Prop} : (∃ x y, (a = x ∧ y = b) ∧ P x y) = P a b := propext ⟨fun ⟨_, _, ⟨h1, h2⟩, h⟩ => by subst h1 h2; exact h, fun h => ⟨_, _, ⟨rfl, rfl⟩, h⟩⟩
@[simp] theorem all_true {α : Type} (l : List α) : (l.all fun _ => true) = true := by
  rw [List.all_eq_true]
  exact fun _ _ => rfl
@[simp] theorem ex_boolsC {α : Type} (xs : List α) (p : α → Bool) (P : List Bool → Prop) : (∃ bs, xs.map (PyData.bool ∘ p) = bs.map PyData.bool ∧ P bs) = P (xs.map p) := ex_bools xs p P
@[simp] theorem ex_intsF (xs : List Int) (P : List Int → Prop) : (∃ bs, xs.map PyData.int = bs.map PyData.int ∧ P bs) = P xs := propext ⟨fun ⟨bs, e, h⟩ => by rw [int_inj e]; exact h, fun h => ⟨_, rfl, h⟩⟩
@[simp] theorem ex_ints {α : Type} (xs : List α) (p : α → Int) (P : List Int → Prop) : (∃ bs, xs.map (fun x => PyData.int (p x)) = bs.map PyData.int ∧ P bs) = P (xs.map p) := by
  have e0 : xs.map (fun x => PyData.int (p x)) = (xs.map p).map .int := by rw [List.map_map]; rfl
  refine propext ⟨fun ⟨bs, e, h⟩ => ?_, fun h => ⟨_, e0, h⟩⟩
  rw [e0] at e
  rw [int_inj e]
  exact h
@[simp] theorem map_int_some (x : List PyData) (f : PyData) : ([f] : List PyData)[0]? = some f := rfl
/-! ### data -/
inductive Hold | code (c : Str) | layer (n : Nat)
inductive Act | none | through | code (c : Str) | layer (n : Nat) | lock (n : Nat) | once (n : Nat) | dual (c : Str) (h : Hold) (t : Int) (r : Str)
structure Ev where
  t : Int
  k : Nat
  d : Bool
abbrev Lay := List (List Act)
abbrev Rec := List Ev
def dHold : Hold → PyData
  | .code c => .tuple [.str "code", .str c]
  | .layer n => .tuple [.str "layer", .int n]
def dAct : Act → PyData
  | .none => .str "none"
  | .through => .str "through"
  | .code c => .tuple [.str "code", .str c]
  | .layer n => .tuple [.str "layer", .int n]
  | .lock n => .tuple [.str "lock", .int n]
  | .once n => .tuple [.str "once", .int n]
  | .dual c h t r => .tuple [.str "dual", .str c, dHold h, .int t, .str r]
def dRow (r : List Act) : PyData := .list (r.map dAct)
def dLay (l : Lay) : PyData := .list (l.map dRow)
def dWay (b : Bool) : PyData := if b then .str "down" else .str "up"
def dEv (e : Ev) : PyData := .tuple [.int e.t, .int e.k, dWay e.d]
def dRec (r : Rec) : PyData := .list (r.map dEv)
def dStep (s : Nat × Bool) : PyData := .tuple [.int s.1, dWay s.2]
def dInts (l : List Int) : PyData := .list (l.map .int)
def dNats (l : List Nat) : PyData := .list (l.map fun (n : Nat) => .int n)
def optD : Option Int → PyData
  | none => .none
  | some i => .int i
@[simp] theorem dHold_code (c : Str) : dHold (.code c) = .tuple [.str "code", .str c] := rfl
@[simp] theorem dHold_layer (n : Nat) : dHold (.layer n) = .tuple [.str "layer", .int n] := rfl
@[simp] theorem dAct_none : dAct .none = .str "none" := rfl
@[simp] theorem dAct_through : dAct .through = .str "through" := rfl
@[simp] theorem dAct_code (c : Str) : dAct (.code c) = .tuple [.str "code", .str c] := rfl
@[simp] theorem dAct_layer (n : Nat) : dAct (.layer n) = .tuple [.str "layer", .int n] := rfl
@[simp] theorem dAct_lock (n : Nat) : dAct (.lock n) = .tuple [.str "lock", .int n] := rfl
@[simp] theorem dAct_once (n : Nat) : dAct (.once n) = .tuple [.str "once", .int n] := rfl
@[simp] theorem dAct_dual (c : Str) (h : Hold) (t : Int) (r : Str) : dAct (.dual c h t r) = .tuple [.str "dual", .str c, dHold h, .int t, .str r] := rfl
@[simp] theorem dRow_eq (r : List Act) : dRow r = .list (r.map dAct) := rfl
@[simp] theorem dLay_eq (r : Lay) : dLay r = .list (r.map dRow) := rfl
@[simp] theorem dRec_eq (r : Rec) : dRec r = .list (r.map dEv) := rfl
@[simp] theorem dEv_eq (e : Ev) : dEv e = .tuple [.int e.t, .int e.k, dWay e.d] := rfl
@[simp] theorem dStep_eq (s : Nat × Bool) : dStep s = .tuple [.int s.1, dWay s.2] := rfl
@[simp] theorem dInts_eq (l : List Int) : dInts l = .list (l.map .int) := rfl
@[simp] theorem dNats_eq (l : List Nat) : dNats l = .list (l.map fun (n : Nat) => .int n) := rfl
@[simp] theorem dWay_t : dWay true = .str "down" := rfl
@[simp] theorem dWay_f : dWay false = .str "up" := rfl
@[simp] theorem optD_none : optD none = .none := rfl
@[simp] theorem optD_some (i : Int) : optD (some i) = .int i := rfl
def signs : Str := "abcdefghijklmnopqrstuvwxyz0123456789"
def codeOk (c : Str) : Bool := decide (1 ≤ c.length) && decide (c.length ≤ 8) && c.cps.toList.all fun n => decide (n ∈ signs.cps.toList)
def holdOk (m : Nat) : Hold → Bool
  | .code c => codeOk c
  | .layer n => decide (1 ≤ n) && decide (n < m)
def actOk (l m : Nat) : Act → Bool
  | .none => true
  | .through => decide (0 < l)
  | .code c => codeOk c
  | .layer n => decide (1 ≤ n) && decide (n < m)
  | .lock n => decide (1 ≤ n) && decide (n < m)
  | .once n => decide (1 ≤ n) && decide (n < m)
  | .dual c h t r => codeOk c && holdOk m h && decide (1 ≤ t) && decide (t ≤ 10 ^ 9) && (r == "time" || r == "other" || r == "within")
theorem code_ok {c : Str} (h : codeOk c = true) : PyData.strOk c = true := by
  unfold codeOk at h
  simp only [Bool.and_eq_true, List.all_eq_true, decide_eq_true_eq] at h
  unfold PyData.strOk
  rw [Array.all_eq_true']
  intro x hx
  have h2 := h.2 x (by simpa using hx)
  have : ∀ n ∈ signs.cps.toList, n < 0x110000 := by decide +kernel
  simpa using this x h2
end HT2
set_option maxRecDepth 100000
set_option maxHeartbeats 4000000
namespace HT2
open PySem PySem.Spec PyProof.Rows L2 StX PL
variable {P : Program} {w : World} {K : PySem.W.Frag} {mg : Str → Option Value} {base : Heap}
def R_is_integer : List PyData → (PyData → Prop) → Prop := fun ds P => ∃ (i : Int) (f l : Option Int), ds = [.int i, optD f, optD l] ∧ P (.bool ((f.all (· ≤ i)) && l.all (i ≤ ·)))
abbrev s_is_integer : Stmt := top 13
theorem sc_is_integer : FnScope ["value", "first", "last"] ["value", "first", "last"] (defScope s_is_integer) := ⟨rfl, rfl, rfl, by decide +kernel, rfl, by decide +kernel, by decide +kernel⟩
theorem ok_is_integer (B : Bl mg)  {f : Addr} {fd : FuncData} (A : At K mg "is_integer" "is_integer" s_is_integer f fd) : Fx P w K mg base 1 "is_integer" ["value", "first", "last"] (pf R_is_integer) := by
  refine ok_pf A sc_is_integer (A.fn.binds fun _ _ _ _ _ _ us hl => match us, hl with | [_, _, _], _ => rfl) ?len fun cdv A outer s H E hr => ⟨_, (ass_cons (as_if (at_bool (aw_or (at_not (at_val (ax_isi (ax_v 0) (by rfl) B.isinstance (by rfl) B.int rfl))) (aw_or1 (at_val (ax_isi (ax_v 0) (by rfl) B.isinstance (by rfl) B.bool rfl))))) (ass_one (as_ret ax_bl)) ass_nil)
      (ass_one (as_ret (ax_and (ax_or (ax_isN (ax_v 1)) (ax_one (ax_ge (ax_v 0) (ax_v 1)))) (ax_one (ax_or (ax_isN (ax_v 2)) (ax_one (ax_le (ax_v 0) (ax_v 2))))))))), ?body⟩
  case len =>
    rintro ds P ⟨i, f, l, rfl, _⟩
    rfl
  case body =>
    rintro ds Q ⟨i, f, l, rfl, p⟩
    show sSeq _ _ _ [.sh (.int i), .sh (optD f), .sh (optD l)]
    cases f <;> cases l <;> simp at p ⊢ <;> first | exact p | (split <;> simp_all)
theorem R_int2 {i a b : Int} {P : PyData → Prop} (h1 : a ≤ i) (h2 : i ≤ b) (p : P (.bool true)) : R_is_integer [.int i, .int a, .int b] P := ⟨i, some a, some b, rfl, by simpa [h1, h2] using p⟩
theorem R_int0 {i : Int} {P : PyData → Prop} (p : P (.bool true)) : R_is_integer [.int i, .none, .none] P := ⟨i, none, none, rfl, by simpa using p⟩
def R_is_code : List PyData → (PyData → Prop) → Prop := fun ds P => ∃ c, ds = [.str c] ∧ codeOk c = true ∧ P (.bool true)
abbrev s_is_code : Stmt := top 14
theorem sc_is_code : FnScope ["value", "sign"] ["value"] (defScope s_is_code) := ⟨rfl, rfl, rfl, by decide +kernel, rfl, by decide +kernel, by decide +kernel⟩
theorem ok_is_code (B : Bl mg)  {f : Addr} {fd : FuncData} (A : At K mg "is_code" "is_code" s_is_code f fd) : Fx P w K mg base 1 "is_code" ["value"] (pf R_is_code) := by
  refine ok_pf A sc_is_code (A.fn.binds fun _ _ _ _ _ _ us hl => match us, hl with | [_], _ => rfl) ?len fun cdv A outer s H E hr => ⟨_, (ass_one (as_ret (ax_and (ax_isi (ax_v 0) (by rfl) B.isinstance (by rfl) B.str rfl) (ax_and (ax_chain ax_int (ax_callB call_len sndC_len (by rfl) B.len PySem.boot_len (axa_cons (ax_v 0) axa_nil)) ax_int) (ax_one (ax_callB (cr_all rfl) sndC_all (by rfl) B.all (by decide +kernel) (axa_cons (ax_sh (ax_lc (own := [("sign", 1)]) rfl sc_is_code.nd (ai_str (ax_v 0)) (blkOk_by (show blkC ["value", "sign"] (defScope s_is_code) _ [("sign", 1)] = true from by decide +kernel)) (fun _ _ _ _ _ => (ag_n 1 sc_is_code.nd)) (fun _ _ _ _ _ => ats_nil) (fun _ _ _ _ _ => ax_c (ax_inS (ax_v 1) (ax_gS (by rfl) B.sIGNS))))) axa_nil))))))), ?body⟩
  case len =>
    rintro ds P ⟨c, rfl, _⟩
    rfl
  case body =>
    rintro ds Q ⟨c, rfl, h, p⟩
    show sRet _ _ [.sh (.str c), .no]
    have h' := h
    simp only [codeOk, Bool.and_eq_true, decide_eq_true_eq] at h
    obtain ⟨⟨h1, h2⟩, h3⟩ := h
    have h4 : c.length ≤ sizeLine := Nat.le_trans h2 (by decide)
    simp [h4, h1, h2]
    have e1 : (1:Int) ≤ c.length := by omega
    have e2 : (c.length:Int) ≤ 8 := by omega
    rw [if_pos e1, if_pos e2]
    refine lc_m (c.cps.toList) (fun n => .str ⟨#[n]⟩) (fun n => .bool (decide (n ∈ signs.cps.toList))) rfl (Nat.lt_of_le_of_lt h2 (by decide)) ?_ ?_
    · intro n hn KT KF k
      have q := k [.sh (.str c), .sh (.str ⟨#[n]⟩)] rfl
      simp [signs] at q ⊢
      exact q
    · refine ⟨_, rfl, _, unsh_map _, _, map_bools _ _, rfl, ?_⟩
      rw [List.all_map]
      simp only [Function.comp_def, id]
      rw [h3]
      exact p
def R_is_hold : List PyData → (PyData → Prop) → Prop := fun ds P => ∃ (m : Nat) (a : Act), ds = [dAct a, .int m] ∧ ((actOk 1 m a = true ∧ ((∃ h, dAct a = dHold h) ∧ P (.bool true)) ∨ ((∃ n, a = .lock n ∨ a = .once n) ∧ P (.bool false))))
theorem R_is_hold_h {m : Nat} {h : Hold} {P : PyData → Prop} (ok : holdOk m h = true) (p : P (.bool true)) : R_is_hold [dHold h, .int m] P := by
  cases h with
  | code c => exact ⟨m, .code c, rfl, Or.inl ⟨ok, ⟨.code c, rfl⟩, p⟩⟩
  | layer n => exact ⟨m, .layer n, rfl, Or.inl ⟨ok, ⟨.layer n, rfl⟩, p⟩⟩
abbrev s_is_hold : Stmt := top 15
theorem sc_is_hold : FnScope ["value", "layers"] ["value", "layers"] (defScope s_is_hold) := ⟨rfl, rfl, rfl, by decide +kernel, rfl, by decide +kernel, by decide +kernel⟩
theorem ok_is_hold (B : Bl mg) (F_is_integer : Fx P w K mg base 1 "is_integer" ["value", "first", "last"] (pf R_is_integer)) (F_is_code : Fx P w K mg base 1 "is_code" ["value"] (pf R_is_code)) {f : Addr} {fd : FuncData} (A : At K mg "is_hold" "is_hold" s_is_hold f fd) : Fx P w K mg base 2 "is_hold" ["value", "layers"] (pf R_is_hold) := by
  refine ok_pf A sc_is_hold (A.fn.binds fun _ _ _ _ _ _ us hl => match us, hl with | [_, _], _ => rfl) ?len fun cdv A outer s H E hr => ⟨_, (ass_cons (as_if (at_bool (aw_or (at_not (at_val (ax_isi (ax_v 0) (by rfl) B.isinstance (by rfl) B.tuple rfl))) (aw_or1 (at_ne hr.units (ax_callB call_len sndC_len (by rfl) B.len PySem.boot_len (axa_cons (ax_v 0) axa_nil)) ax_int)))) (ass_one (as_ret ax_bl)) ass_nil)
      (ass_cons (as_if (at_eq hr.units (ax_ix (ax_v 0) ax_int) ax_str) (ass_one (as_ret (ax_fn F_is_code (hr.mono (by decide)) (by rfl) (axa_cons (ax_ix (ax_v 0) ax_int) axa_nil)))) ass_nil)
      (ass_one (as_ret (ax_and (ax_eq hr.units (ax_ix (ax_v 0) ax_int) ax_str) (ax_one (ax_fn F_is_integer (hr.mono (by decide)) (by rfl) (axa_cons (ax_ix (ax_v 0) ax_int) (axa_cons ax_int (axa_cons (ax_sub (ax_v 1) ax_int) axa_nil)))))))))), ?body⟩
  case len =>
    rintro ds P ⟨m, a, rfl, _⟩
    rfl
  case body =>
    rintro ds Q ⟨m, a, rfl, h⟩
    show sSeq _ _ _ [.sh (dAct a), .sh (.int m)]
    rcases h with ⟨ok, ⟨hh, eh⟩, p⟩ | ⟨⟨n, rfl | rfl⟩, p⟩
    · cases a <;> cases hh <;> simp at eh
      · simp [actOk] at ok
        simp [R_is_code]
        exact ⟨ok, p⟩
      · simp [actOk] at ok
        simp
        exact R_int2 (by omega) (by omega) p
    · simp
      exact p
    · simp
      exact p
def R_is_action : List PyData → (PyData → Prop) → Prop := fun ds P => ∃ (l m : Nat) (a : Act), ds = [dAct a, .int l, .int m] ∧ actOk l m a = true ∧ P (.bool true)
abbrev s_is_action : Stmt := top 16
theorem sc_is_action : FnScope ["value", "layer", "layers", "word", "code", "hold", "time", "rule"] ["value", "layer", "layers"] (defScope s_is_action) := ⟨rfl, rfl, rfl, by decide +kernel, rfl, by decide +kernel, by decide +kernel⟩
theorem ok_is_action (B : Bl mg) (F_is_integer : Fx P w K mg base 1 "is_integer" ["value", "first", "last"] (pf R_is_integer)) (F_is_code : Fx P w K mg base 1 "is_code" ["value"] (pf R_is_code)) (F_is_hold : Fx P w K mg base 2 "is_hold" ["value", "layers"] (pf R_is_hold)){pR : Addr} (GR : TupG K mg "RULES" pR ["time", "other", "within"]) {f : Addr} {fd : FuncData} (A : At K mg "is_action" "is_action" s_is_action f fd) : Fx P w K mg base 3 "is_action" ["value", "layer", "layers"] (pf R_is_action) := by
  refine ok_pf A sc_is_action (A.fn.binds fun _ _ _ _ _ _ us hl => match us, hl with | [_, _, _], _ => rfl) ?len fun cdv A outer s H E hr => ⟨_, (ass_cons (as_if (at_val (ax_isi (ax_v 0) (by rfl) B.isinstance (by rfl) B.str rfl)) (ass_one (as_ret (ax_or (ax_eq hr.units (ax_v 0) ax_str) (ax_one (ax_and (ax_eq hr.units (ax_v 0) ax_str) (ax_one (ax_gt (ax_v 1) ax_int))))))) ass_nil)
      (ass_cons (as_if (at_bool (aw_or (at_not (at_val (ax_isi (ax_v 0) (by rfl) B.isinstance (by rfl) B.tuple rfl))) (aw_or1 (at_notin (ax_callB call_len sndC_len (by rfl) B.len PySem.boot_len (axa_cons (ax_v 0) axa_nil)) (ax_tup (axa_cons ax_int (axa_cons ax_int axa_nil))))))) (ass_one (as_ret ax_bl)) ass_nil)
      (ass_cons (as_if (at_eq hr.units (ax_callB call_len sndC_len (by rfl) B.len PySem.boot_len (axa_cons (ax_v 0) axa_nil)) ax_int) (ass_one (as_ret (ax_or (ax_fn F_is_hold (hr.mono (by decide)) (by rfl) (axa_cons (ax_v 0) (axa_cons (ax_v 2) axa_nil))) (ax_one (ax_and (ax_in (ax_ix (ax_v 0) ax_int) (ax_tup (axa_cons ax_str (axa_cons ax_str axa_nil)))) (ax_one (ax_fn F_is_integer (hr.mono (by decide)) (by rfl) (axa_cons (ax_ix (ax_v 0) ax_int) (axa_cons ax_int (axa_cons (ax_sub (ax_v 2) ax_int) axa_nil)))))))))) ass_nil)
      (ass_cons (as_asg (ax_v 0) (ag_tup (n := 5) rfl (ags_cons (ag_n 3 sc_is_action.nd) (ags_cons (ag_n 4 sc_is_action.nd) (ags_cons (ag_n 5 sc_is_action.nd) (ags_cons (ag_n 6 sc_is_action.nd) (ags_cons (ag_n 7 sc_is_action.nd) ags_nil)))))))
      (ass_cons (as_if (at_bool (aw_or (at_ne hr.units (ax_v 3) ax_str) (aw_or (at_not (at_val (ax_fn F_is_code (hr.mono (by decide)) (by rfl) (axa_cons (ax_v 4) axa_nil)))) (aw_or1 (at_not (at_val (ax_fn F_is_hold (hr.mono (by decide)) (by rfl) (axa_cons (ax_v 5) (axa_cons (ax_v 2) axa_nil))))))))) (ass_one (as_ret ax_bl)) ass_nil)
      (ass_one (as_ret (ax_and (ax_fn F_is_integer (hr.mono (by decide)) (by rfl) (axa_cons (ax_v 6) (axa_cons ax_int (axa_cons (ax_gI (by rfl) B.tIME) axa_nil)))) (ax_one (ax_inG GR rfl (ax_v 7))))))))))), ?body⟩
  case len =>
    rintro ds P ⟨l, m, a, rfl, _⟩
    rfl
  case body =>
    rintro ds Q ⟨l, m, a, rfl, ok, p⟩
    show sSeq _ _ _ [.sh (dAct a), .sh (.int l), .sh (.int m), .no, .no, .no, .no, .no]
    cases a <;> simp [actOk] at ok ⊢
    · exact p
    · rw [show decide (0 < l) = true from by simpa using ok]
      exact p
    · exact ⟨_, .code _, rfl, Or.inl ⟨ok, ⟨.code _, rfl⟩, Or.inr ⟨rfl, p⟩⟩⟩
    · exact ⟨m, .layer _, rfl, Or.inl ⟨by simpa [actOk] using ok, ⟨.layer _, rfl⟩, Or.inr ⟨rfl, p⟩⟩⟩
    · exact ⟨m, .lock _, rfl, Or.inr ⟨⟨_, Or.inl rfl⟩, Or.inl ⟨rfl, R_int2 (by omega) (by omega) p⟩⟩⟩
    · exact ⟨m, .once _, rfl, Or.inr ⟨⟨_, Or.inr rfl⟩, Or.inl ⟨rfl, R_int2 (by omega) (by omega) p⟩⟩⟩
    · obtain ⟨⟨⟨⟨c1, c2⟩, c3⟩, c4⟩, c5⟩ := ok
      refine ⟨_, rfl, c1, Or.inr ⟨rfl, R_is_hold_h c2 (Or.inr ⟨rfl, R_int2 c3 c4 (Or.inr ⟨rfl, ?_⟩)⟩)⟩⟩
      rcases c5 with (rfl | rfl) | rfl <;> simp <;> exact p
def wide (l : Lay) : Nat := (l.headD []).length
structure LayOk (l : Lay) : Prop where
  n1 : 1 ≤ l.length
  n2 : l.length ≤ 6
  w1 : 1 ≤ wide l
  w2 : wide l ≤ 16
  rect : ∀ r ∈ l, r.length = wide l
  acts : ∀ i r, l[i]? = some r → ∀ a ∈ r, actOk i l.length a = true
theorem sz_of {n m : Nat} (h : n ≤ m) (hm : m ≤ 1000 := by decide) : n ≤ sizeLine := Nat.le_trans (Nat.le_trans h hm) sz1000
theorem sz_lt {n m : Nat} (h : n ≤ m) (hm : m < 1000 := by decide) : n < sizeLine := Nat.lt_of_le_of_lt h (Nat.lt_of_lt_of_le hm sz1000)
def R_is_table : List PyData → (PyData → Prop) → Prop := fun ds P => ∃ l, ds = [dLay l] ∧ LayOk l ∧ P (.bool true)
abbrev s_is_table : Stmt := top 17
theorem sc_is_table : FnScope ["value", "row"] ["value"] (defScope s_is_table) := ⟨rfl, rfl, rfl, by decide +kernel, rfl, by decide +kernel, by decide +kernel⟩
theorem ok_is_table (B : Bl mg)  {f : Addr} {fd : FuncData} (A : At K mg "is_table" "is_table" s_is_table f fd) : Fx P w K mg base 1 "is_table" ["value"] (pf R_is_table) := by
  refine ok_pf A sc_is_table (A.fn.binds fun _ _ _ _ _ _ us hl => match us, hl with | [_], _ => rfl) ?len fun cdv A outer s H E hr => ⟨_, (ass_cons (as_if (at_bool (aw_or (at_not (at_val (ax_isi (ax_v 0) (by rfl) B.isinstance (by rfl) B.list rfl))) (aw_or (at_not (at_chain ax_int (ax_callB call_len sndC_len (by rfl) B.len PySem.boot_len (axa_cons (ax_v 0) axa_nil)) ax_int)) (aw_or1 (at_not (at_val (ax_callB (cr_all rfl) sndC_all (by rfl) B.all (by decide +kernel) (axa_cons (ax_sh (ax_lc (own := [("row", 1)]) rfl sc_is_table.nd (ai_list (ax_v 0)) (blkOk_by (show blkC ["value", "row"] (defScope s_is_table) _ [("row", 1)] = true from by decide +kernel)) (fun _ _ _ _ _ => (ag_n 1 sc_is_table.nd)) (fun _ _ _ _ _ => ats_nil) (fun _ _ _ _ _ => ax_c (ax_isi (ax_v 1) (by rfl) B.isinstance (by rfl) B.list rfl)))) axa_nil)))))))) (ass_one (as_ret ax_bl)) ass_nil)
      (ass_one (as_ret (ax_and (ax_chain ax_int (ax_callB call_len sndC_len (by rfl) B.len PySem.boot_len (axa_cons (ax_ix (ax_v 0) ax_int) axa_nil)) ax_int) (ax_one (ax_callB (cr_all rfl) sndC_all (by rfl) B.all (by decide +kernel) (axa_cons (ax_sh (ax_lc (own := [("row", 1)]) rfl sc_is_table.nd (ai_list (ax_v 0)) (blkOk_by (show blkC ["value", "row"] (defScope s_is_table) _ [("row", 1)] = true from by decide +kernel)) (fun _ _ _ _ _ => (ag_n 1 sc_is_table.nd)) (fun _ _ _ _ _ => ats_nil) (fun _ _ _ _ _ => ax_c (ax_eq hr.units (ax_callB call_len sndC_len (by rfl) B.len PySem.boot_len (axa_cons (ax_v 1) axa_nil)) (ax_callB call_len sndC_len (by rfl) B.len PySem.boot_len (axa_cons (ax_ix (ax_v 0) ax_int) axa_nil)))))) axa_nil))))))), ?body⟩
  case len =>
    rintro ds P ⟨l, rfl, _⟩
    rfl
  case body =>
    rintro ds Q ⟨l, rfl, ok, p⟩
    show sSeq _ _ _ [.sh (dLay l), .no]
    have n1 := ok.n1
    have n2 := ok.n2
    have w1 := ok.w1
    have w2 := ok.w2
    have e1 : (1 : Int) ≤ l.length := by omega
    have e2 : (l.length : Int) ≤ 6 := by omega
    simp [dLay, e1, e2]
    refine lc_m l dRow (fun _ => .bool true) rfl (sz_lt n2) ?_ ?_
    · intro r hr KT KF k
      simp [dRow]
      exact k _ rfl
    · simp
      obtain ⟨r0, hr0⟩ : ∃ r0, l[0]? = some r0 := ⟨l[0], List.getElem?_eq_getElem (by omega)⟩
      have hw : wide l = r0.length := by
        cases l with
        | nil => simp at hr0
        | cons a r => simp at hr0; subst hr0; rfl
      have hr : ∀ r ∈ l, r.length = r0.length := fun r h => hw ▸ ok.rect r h
      have w3 : (1 : Int) ≤ r0.length := by omega
      have w4 : (r0.length : Int) ≤ 16 := by omega
      simp [hr0, dRow, w3, w4]
      refine lc_m l dRow (fun _ => .bool true) rfl (sz_lt n2) ?_ ?_
      · intro r hr' KT KF k
        simp [dRow, hr0, hr r hr']
        exact k _ rfl
      · simp
        simpa using p
def R_wrong_places : List PyData → (PyData → Prop) → Prop := fun ds P => ∃ l, ds = [dLay l] ∧ LayOk l ∧ P (.list [])
abbrev s_wrong_places : Stmt := top 18
theorem sc_wrong_places : FnScope ["table", "found", "layer", "row", "key", "action"] ["table"] (defScope s_wrong_places) := ⟨rfl, rfl, rfl, by decide +kernel, rfl, by decide +kernel, by decide +kernel⟩
theorem ok_wrong_places (B : Bl mg) (F_is_action : Fx P w K mg base 3 "is_action" ["value", "layer", "layers"] (pf R_is_action)) {f : Addr} {fd : FuncData} (A : At K mg "wrong_places" "wrong_places" s_wrong_places f fd) : Fx P w K mg base 4 "wrong_places" ["table"] (pf R_wrong_places) := by
  refine ok_pf A sc_wrong_places (A.fn.binds fun _ _ _ _ _ _ us hl => match us, hl with | [_], _ => rfl) ?len fun cdv A outer s H E hr => ⟨_, (ass_cons (as_set 1 sc_wrong_places.nd (ax_lstO axa_nil))
      (ass_cons (as_for PassesOwn.never rfl (ai_enum (by rfl) B.enumerate (axa_cons (ax_v 0) axa_nil)) (ag_tup (n := 2) rfl (ags_cons (ag_n 2 sc_wrong_places.nd) (ags_cons (ag_n 3 sc_wrong_places.nd) ags_nil)))
        (ass_one (as_extend 1 (ax_sh (ax_lc (own := [("key", 4), ("action", 5)]) rfl sc_wrong_places.nd (ai_enum (by rfl) B.enumerate (axa_cons (ax_v 3) axa_nil)) (blkOk_by (show blkC ["table", "found", "layer", "row", "key", "action"] (defScope s_wrong_places) _ [("key", 4), ("action", 5)] = true from by decide +kernel)) (fun _ _ _ _ _ => ag_c (ag_tup (n := 2) rfl (ags_cons (ag_n 4 sc_wrong_places.nd) (ags_cons (ag_n 5 sc_wrong_places.nd) ags_nil)))) (fun _ _ _ _ _ => ats_c (ats_one (at_not (at_val (ax_fn F_is_action (hr.mono (by decide)) (by rfl) (axa_cons (ax_v 5) (axa_cons (ax_v 2) (axa_cons (ax_callB call_len sndC_len (by rfl) B.len PySem.boot_len (axa_cons (ax_v 0) axa_nil)) axa_nil)))))))) (fun _ _ _ _ _ => ax_c (ax_tup (axa_cons (ax_v 2) (axa_cons (ax_v 4) axa_nil)))))))))
      (ass_one (as_ret (ax_sh (ax_mv 1)))))), ?body⟩
  case len =>
    rintro ds P ⟨l, rfl, _⟩
    rfl
  case body =>
    rintro ds Q ⟨l, rfl, ok, p⟩
    show sSeq _ _ _ [.sh (dLay l), .no, .no, .no, .no, .no]
    have n2 := ok.n2
    have w2 := ok.w2
    simp [dLay]
    refine for_t l.zipIdx (fun p => .tuple [.int (p.2 : Nat), dRow p.1]) (fun _ Γ => ∃ a b c d, Γ = [.sh (dLay l), .lst [], a, b, c, d]) (enumD_map _ _) ⟨_, _, _, _, rfl⟩ ?_ ?_
    · rintro q ⟨row, n⟩ q2 Γ2 e ⟨a, b, c, d, rfl⟩
      have hm : (row, n) ∈ l.zipIdx := by rw [e]; simp
      have hn : l[n]? = some row := List.mem_zipIdx_iff_getElem?.mp hm
      simp
      intro v
      refine lc_t row.zipIdx (fun p => .tuple [.int (p.2 : Nat), dAct p.1]) (fun _ => none) (enumD_map _ _) ?_ ?_ ?_
      · have h3 := ok.rect row (List.mem_of_getElem? hn)
        rw [List.length_zipIdx]
        exact sz_lt (by omega : row.length ≤ 16)
      · rintro ⟨act, k⟩ hx KT KF k1 k2
        have h4 : act ∈ row := List.fst_mem_of_mem_zipIdx hx
        simp [dLay]
        exact ⟨n, l.length, act, rfl, ok.acts n row hn act h4, Or.inr ⟨rfl, k2 [.sh (dLay l), .al v, .sh (.int n), .sh (dRow row), .sh (.int k), .sh (dAct act)] rfl rfl⟩⟩
      · simp
    · rintro Γ2 ⟨a, b, c, d, rfl⟩
      simp
      exact p
def R_require_layout : List PyData → (PyData → Prop) → Prop := fun ds P => ∃ l, ds = [dLay l] ∧ LayOk l ∧ P .none
abbrev s_require_layout : Stmt := top 19
theorem sc_require_layout : FnScope ["layout", "wrong"] ["layout"] (defScope s_require_layout) := ⟨rfl, rfl, rfl, by decide +kernel, rfl, by decide +kernel, by decide +kernel⟩
theorem ok_require_layout (B : Bl mg) (F_is_table : Fx P w K mg base 1 "is_table" ["value"] (pf R_is_table)) (F_wrong_places : Fx P w K mg base 4 "wrong_places" ["table"] (pf R_wrong_places)) {f : Addr} {fd : FuncData} (A : At K mg "require_layout" "require_layout" s_require_layout f fd) : Fx P w K mg base 5 "require_layout" ["layout"] (pf R_require_layout) := by
  refine ok_pf A sc_require_layout (A.fn.binds fun _ _ _ _ _ _ us hl => match us, hl with | [_], _ => rfl) ?len fun cdv A outer s H E hr => ⟨_, (ass_cons (as_if (at_not (at_val (ax_fn F_is_table (hr.mono (by decide)) (by rfl) (axa_cons (ax_v 0) axa_nil)))) (ass_one as_never) ass_nil)
      (ass_cons (as_set 1 sc_require_layout.nd (ax_fn F_wrong_places (hr.mono (by decide)) (by rfl) (axa_cons (ax_v 0) axa_nil)))
      (ass_one (as_if (at_ne hr.units (ax_v 1) (ax_lst axa_nil)) (ass_one as_never) ass_nil)))), ?body⟩
  case len =>
    rintro ds P ⟨l, rfl, _⟩
    rfl
  case body =>
    rintro ds Q ⟨l, rfl, ok, p⟩
    show sSeq _ _ _ [.sh (dLay l), .no]
    simp
    refine ⟨l, rfl, ok, rfl, l, rfl, ok, ?_⟩
    simp
    exact p
/-! ### records -/
def kvL (h : List Nat) : List (Key × PyData) := h.map fun (n : Nat) => (.inl (n : Int), .bool true)
theorem kvL_has (h : List Nat) (n : Nat) : dHas (kvL h) (.inl (n : Int)) = h.contains n := by
  unfold dHas kvL
  rw [List.any_map]
  induction h with
  | nil => rfl
  | cons a r ih =>
    rw [List.any_cons, ih, List.contains_cons]
    congr 1
    have e : ((Sum.inl (a : Int) : Key) = .inl (n : Int)) ↔ n = a := ⟨fun h => by injection h with h; omega, fun h => by rw [h]⟩
    exact (decide_eq_decide.mpr e).trans rfl
theorem kvL_put (h : List Nat) (n : Nat) (hn : n ∉ h) : dPut (kvL h) (.inl (n : Int)) (.bool true) = kvL (h ++ [n]) := by
  unfold dPut
  rw [kvL_has]
  simp [hn, kvL]
theorem kvL_put2 (h : List Nat) (n : Nat) (hn : n ∈ h) : dPut (kvL h) (.inl (n : Int)) (.bool true) = kvL h := by
  unfold dPut
  rw [kvL_has]
  simp [hn]
  unfold kvL
  rw [List.map_map]
  refine List.map_congr_left fun a _ => ?_
  simp
theorem kvL_del (h : List Nat) (n : Nat) : dDel (kvL h) (.inl (n : Int)) = kvL (h.filter (· ≠ n)) := by
  unfold dDel kvL
  rw [List.filter_map]
  congr 1
  refine List.filter_congr fun a _ => ?_
  have e : ((Sum.inl (a : Int) : Key) ≠ .inl (n : Int)) ↔ a ≠ n := ⟨fun h z => h (by rw [z]), fun h z => h (by injection z with z; omega)⟩
  exact decide_eq_decide.mpr e
def heldF (h : List Nat) (s : Nat × Bool) : List Nat := if s.2 then h ++ [s.1] else h.filter (· ≠ s.1)
def stepOk (m : Nat) (h : List Nat) (s : Nat × Bool) : Prop := s.1 ≤ m ∧ (s.2 = true ↔ s.1 ∉ h)
def StepsOk (m : Nat) (xs : List (Nat × Bool)) : Prop := ∀ p x q, xs = p ++ x :: q → stepOk m (p.foldl heldF []) x
def S_wrong_step : AF := fun es P => ∃ (h : List Nat) (s : Nat × Bool) (m : Nat), es = [.dct (kvL h), .sh (dStep s), .sh (.int m)] ∧ stepOk m h s ∧ P (.sh (.bool false)) [.dct (kvL h), .no, .no]
abbrev s_wrong_step : Stmt := top 20
theorem sc_wrong_step : FnScope ["down", "step", "many"] ["down", "step", "many"] (defScope s_wrong_step) := ⟨rfl, rfl, rfl, by decide +kernel, rfl, by decide +kernel, by decide +kernel⟩
theorem ok_wrong_step (B : Bl mg) (F_is_integer : Fx P w K mg base 1 "is_integer" ["value", "first", "last"] (pf R_is_integer)) {f : Addr} {fd : FuncData} (A : At K mg "wrong_step" "wrong_step" s_wrong_step f fd) : Fx P w K mg base 2 "wrong_step" ["down", "step", "many"] (S_wrong_step) := by
  refine ⟨f, fd, ok_def A.fn sc_wrong_step [0] ?len ?body, A.mg, A.fn.kp, (A.fn.binds fun _ _ _ _ _ _ us hl => match us, hl with | [_, _, _], _ => rfl)⟩
  case body =>
    intro cdv A outer s H E hr
    refine ⟨_, (ass_cons (as_if (at_bool (aw_or (at_not (at_val (ax_isi (ax_v 1) (by rfl) B.isinstance (by rfl) B.tuple rfl))) (aw_or (at_ne hr.units (ax_callB call_len sndC_len (by rfl) B.len PySem.boot_len (axa_cons (ax_v 1) axa_nil)) ax_int) (aw_or1 (at_not (at_val (ax_fn F_is_integer (hr.mono (by decide)) (by rfl) (axa_cons (ax_ix (ax_v 1) ax_int) (axa_cons ax_int (axa_cons (ax_v 2) axa_nil)))))))))) (ass_one (as_ret ax_bl)) ass_nil)
      (ass_cons (as_if (at_notin (ax_ix (ax_v 1) ax_int) (ax_tup (axa_cons ax_str (axa_cons ax_str axa_nil)))) (ass_one (as_ret ax_bl)) ass_nil)
      (ass_one (as_ret (ax_neB (ax_eq hr.units (ax_ix (ax_v 1) ax_int) ax_str) (ax_din hr.units (ax_ix (ax_v 1) ax_int) (pe_v 0) (pl_slot 0))))))), ?_⟩
    rintro es P ⟨h, s, m, rfl, ⟨ok1, ok2⟩, p⟩
    show sSeq _ _ _ [.dct (kvL h), .sh (dStep s), .sh (.int m)]
    obtain ⟨k, d⟩ := s
    simp at ok1 ok2
    simp
    refine R_int2 (by omega) (by omega) ?_
    cases d <;> simp at ok2 <;> simp [kvL_has, ok2] <;> exact p
  case len =>
    rintro es P ⟨h, s, m, rfl, _⟩
    rfl
end HT2
set_option maxRecDepth 100000
set_option maxHeartbeats 4000000
namespace HT2
open PySem PySem.Spec PyProof.Rows L2 StX PL
variable {P : Program} {w : World} {K : PySem.W.Frag} {mg : Str → Option Value} {base : Heap}
def R_first_wrong_step : List PyData → (PyData → Prop) → Prop := fun ds P => ∃ (xs : List (Nat × Bool)) (m : Nat), ds = [.list (xs.map dStep), .int m] ∧ StepsOk m xs ∧ xs.length ≤ 400 ∧ P .none
theorem held_mem {m : Nat} {h : List Nat} (s : Nat × Bool) : (heldF h s).length ≤ h.length + 1 := by
  unfold heldF
  split
  · simp
  · exact Nat.le_trans (List.length_filter_le _ _) (by omega)
theorem held_len {h0 : List Nat} : ∀ p : List (Nat × Bool), (p.foldl heldF h0).length ≤ h0.length + p.length := fun p => by
  induction p generalizing h0 with
  | nil => simp
  | cons x p ih =>
    have h1 := ih (h0 := heldF h0 x)
    have h2 := held_mem (m := 0) (h := h0) x
    simp only [List.foldl_cons, List.length_cons]
    omega
theorem kvL_len (h : List Nat) : (kvL h).length = h.length := by simp [kvL]
abbrev s_first_wrong_step : Stmt := top 21
theorem sc_first_wrong_step : FnScope ["steps", "many", "down", "index", "step"] ["steps", "many"] (defScope s_first_wrong_step) := ⟨rfl, rfl, rfl, by decide +kernel, rfl, by decide +kernel, by decide +kernel⟩
theorem ok_first_wrong_step (B : Bl mg) (F_wrong_step : Fx P w K mg base 2 "wrong_step" ["down", "step", "many"] (S_wrong_step)) {f : Addr} {fd : FuncData} (A : At K mg "first_wrong_step" "first_wrong_step" s_first_wrong_step f fd) : Fx P w K mg base 3 "first_wrong_step" ["steps", "many"] (pf R_first_wrong_step) := by
  refine ok_pf A sc_first_wrong_step (A.fn.binds fun _ _ _ _ _ _ us hl => match us, hl with | [_, _], _ => rfl) ?len fun cdv A outer s H E hr => ⟨_, (ass_cons (as_set 2 sc_first_wrong_step.nd ax_dnew)
      (ass_cons (as_for PassesOwn.never rfl (ai_enum (by rfl) B.enumerate (axa_cons (ax_v 0) axa_nil)) (ag_tup (n := 2) rfl (ags_cons (ag_n 3 sc_first_wrong_step.nd) (ags_cons (ag_n 4 sc_first_wrong_step.nd) ags_nil)))
        (ass_cons (as_if (at_val (ax_fnP F_wrong_step (hr.mono (by decide)) (by rfl) (pe_v 2) (pl_slot 2) (axa_cons (ax_v 4) (axa_cons (ax_v 1) axa_nil)))) (ass_one (as_ret (ax_v 3))) ass_nil)
      (ass_one (as_if (at_eq hr.units (ax_ix (ax_v 4) ax_int) ax_str) (ass_one (as_dput hr.units (pe_v 2) (pl_slot 2) (ax_ix (ax_v 4) ax_int) ax_bl)) (ass_one (as_ddel (pe_v 2) (pl_slot 2) (ax_ix (ax_v 4) ax_int)))))))
      (ass_one (as_ret ax_non)))), ?body⟩
  case len =>
    rintro ds P ⟨xs, m, rfl, _⟩
    rfl
  case body =>
    rintro ds Q ⟨xs, m, rfl, ok, hz, p⟩
    show sSeq _ _ _ [.sh (.list (xs.map dStep)), .sh (.int m), .no, .no, .no]
    simp
    refine for_t xs.zipIdx (fun p => .tuple [.int (p.2 : Nat), dStep p.1]) (fun q Γ => ∃ a b, Γ = [.sh (.list (xs.map dStep)), .sh (.int m), .dct (kvL ((q.map (·.1)).foldl heldF [])), a, b]) (enumD_map _ _) ⟨_, _, rfl⟩ ?_ ?_
    · rintro q ⟨⟨k, d⟩, n⟩ q2 Γ2 e ⟨a, b, rfl⟩
      have e2 : xs = q.map (·.1) ++ (k, d) :: q2.map (·.1) := by
        have := congrArg (List.map Prod.fst) e
        rw [List.zipIdx_map_fst] at this
        simpa using this
      have ok1 := ok _ _ _ e2
      have hl : ((q.map (·.1)).foldl heldF []).length ≤ 400 := by
        have h1 := held_len (h0 := []) (q.map (·.1))
        have h2 := congrArg List.length e2
        simp at h1 h2
        omega
      simp
      refine ⟨_, (k, d), m, rfl, ok1, Or.inl ⟨rfl, ?_⟩⟩
      obtain ⟨k1, k2⟩ := ok1
      cases d
      · simp at k2
        simp [kvL_has, k2]
        rw [kvL_del]
        simp [heldF]
      · simp at k2
        simp [kvL_len]
        refine ⟨sz_lt hl, ?_⟩
        rw [kvL_put _ _ k2]
        simp [heldF]
    · rintro Γ2 ⟨a, b, rfl⟩
      simp
      exact p
def Ev.s (e : Ev) : Nat × Bool := (e.k, e.d)
structure RecOk (m : Nat) (r : Rec) : Prop where
  len : r.length ≤ 400
  sort : ∀ p x y q, r = p ++ x :: y :: q → x.t ≤ y.t
  steps : StepsOk m (r.map Ev.s)
def R_first_wrong_event : List PyData → (PyData → Prop) → Prop := fun ds P => ∃ (r : Rec) (m : Nat), ds = [dRec r, .int m] ∧ RecOk m r ∧ P .none
theorem len_mid {α : Type} {xs p q : List α} {x : α} (e : xs = p ++ x :: q) : p.length < xs.length ∧ xs[p.length]? = some x := by
  subst e
  simp
theorem enum_split {α : Type} {xs : List α} {q q2 : List (α × Nat)} {x : α} {n : Nat} (e : xs.zipIdx = q ++ (x, n) :: q2) : xs = q.map (·.1) ++ x :: q2.map (·.1) ∧ n = q.length ∧ xs[n]? = some x := by
  have e2 : xs = q.map (·.1) ++ x :: q2.map (·.1) := by
    have := congrArg (List.map Prod.fst) e
    rw [List.zipIdx_map_fst] at this
    simpa using this
  have en : n = q.length := by
    have h1 := (len_mid e).2
    rw [List.getElem?_zipIdx] at h1
    have h2 := (len_mid e2).2
    rw [List.length_map] at h2
    rw [h2] at h1
    simp at h1
    omega
  refine ⟨e2, en, ?_⟩
  have h2 := (len_mid e2).2
  rw [List.length_map] at h2
  rw [en]
  exact h2
theorem atI_pred (ds : List PyData) {n : Nat} (h : 0 < n) : atI ds ((n : Int) - 1) = ds[n - 1]? := by
  have e : (n : Int) - 1 = ((n - 1 : Nat) : Int) := by omega
  rw [e, atI_nat]
abbrev s_first_wrong_event : Stmt := top 22
theorem sc_first_wrong_event : FnScope ["events", "many", "wrong", "index", "event", "steps", "earlier"] ["events", "many"] (defScope s_first_wrong_event) := ⟨rfl, rfl, rfl, by decide +kernel, rfl, by decide +kernel, by decide +kernel⟩
theorem ok_first_wrong_event (B : Bl mg) (F_is_integer : Fx P w K mg base 1 "is_integer" ["value", "first", "last"] (pf R_is_integer)) (F_first_wrong_step : Fx P w K mg base 3 "first_wrong_step" ["steps", "many"] (pf R_first_wrong_step)) {f : Addr} {fd : FuncData} (A : At K mg "first_wrong_event" "first_wrong_event" s_first_wrong_event f fd) : Fx P w K mg base 4 "first_wrong_event" ["events", "many"] (pf R_first_wrong_event) := by
  refine ok_pf A sc_first_wrong_event (A.fn.binds fun _ _ _ _ _ _ us hl => match us, hl with | [_, _], _ => rfl) ?len fun cdv A outer s H E hr => ⟨_, (ass_cons (as_set 2 sc_first_wrong_event.nd ax_non)
      (ass_cons (as_for PassesOwn.never rfl (ai_enum (by rfl) B.enumerate (axa_cons (ax_v 0) axa_nil)) (ag_tup (n := 2) rfl (ags_cons (ag_n 3 sc_first_wrong_event.nd) (ags_cons (ag_n 4 sc_first_wrong_event.nd) ags_nil)))
        (ass_cons (as_if (at_bool (aw_or (at_not (at_val (ax_isi (ax_v 4) (by rfl) B.isinstance (by rfl) B.tuple rfl))) (aw_or (at_ne hr.units (ax_callB call_len sndC_len (by rfl) B.len PySem.boot_len (axa_cons (ax_v 4) axa_nil)) ax_int) (aw_or1 (at_not (at_val (ax_fn F_is_integer (hr.mono (by decide)) (by rfl) (axa_cons (ax_ix (ax_v 4) ax_int) (axa_cons ax_non (axa_cons ax_non axa_nil)))))))))) (ass_one (as_set 2 sc_first_wrong_event.nd (ax_v 3))) (ass_one (as_if (at_bool (aw_and (at_gt (ax_v 3) ax_int) (aw_and1 (at_lt (ax_ix (ax_v 4) ax_int) (ax_ix (ax_ix (ax_v 0) (ax_sub (ax_v 3) ax_int)) ax_int))))) (ass_one (as_set 2 sc_first_wrong_event.nd (ax_v 3))) ass_nil)))
      (ass_one (as_if (at_notN (ax_v 2)) (ass_one as_break) ass_nil))))
      (ass_cons (as_setLc 5 (own := [("event", 4)]) aSh snd_sh rfl sc_first_wrong_event.nd (ai_list (ax_if (at_isN (ax_v 2)) (ax_v 0) ax_never)) (blkOk_by (show blkC ["events", "many", "wrong", "index", "event", "steps", "earlier"] (defScope s_first_wrong_event) _ [("event", 4)] = true from by decide +kernel)) (fun _ _ _ _ _ => (ag_n 4 sc_first_wrong_event.nd)) (fun _ _ _ _ _ => ats_nil) (fun _ _ _ _ _ => ax_c (ax_tail (ax_v 4))) (sw_true rfl rfl rfl (by decide +kernel)))
      (ass_cons (as_set 6 sc_first_wrong_event.nd (ax_fn F_first_wrong_step (hr.mono (by decide)) (by rfl) (axa_cons (ax_v 5) (axa_cons (ax_v 1) axa_nil))))
      (ass_one (as_ret (ax_if (at_isN (ax_v 6)) (ax_v 2) (ax_v 6)))))))), ?body⟩
  case len =>
    rintro ds P ⟨xs, m, rfl, _⟩
    rfl
  case body =>
    rintro ds Q ⟨xs, m, rfl, ok, p⟩
    show sSeq _ _ _ [.sh (dRec xs), .sh (.int m), .no, .no, .no, .no, .no]
    simp
    refine for_t xs.zipIdx (fun p => .tuple [.int (p.2 : Nat), dEv p.1]) (fun q Γ => ∃ a b c d, Γ = [.sh (dRec xs), .sh (.int m), .sh .none, a, b, c, d]) (enumD_map _ _) ⟨_, _, _, _, rfl⟩ ?_ ?_
    · rintro q ⟨x, n⟩ q2 Γ2 e ⟨a, b, c, d, rfl⟩
      obtain ⟨e2, en, _⟩ := enum_split e
      subst en
      simp
      refine R_int0 ?_
      refine ⟨rfl, fun hq => ?_⟩
      rw [atI_pred _ hq]
      obtain ⟨q', y, rfl⟩ : ∃ q' y, q = q' ++ [y] := ⟨q.dropLast, q.getLast (by intro z; subst z; simp at hq), (List.dropLast_concat_getLast _).symm⟩
      have e3 : xs = q'.map (·.1) ++ y.1 :: x :: q2.map (·.1) := by simpa using e2
      have h1 := ok.sort _ _ _ _ e3
      have h2 : xs[(q' ++ [y]).length - 1]? = some y.1 := by rw [e3]; simp
      rw [List.getElem?_map, h2]
      exact ⟨_, rfl, _, Or.inr rfl, _, rfl, _, rfl, h1⟩
    · rintro Γ2 ⟨a, b, c, d, rfl⟩
      simp
      refine lc_m xs dEv (fun e => dStep e.s) rfl (sz_lt ok.len) ?_ ?_
      · intro x hx KT KF k
        simp
        exact k [.sh (dRec xs), .sh (.int m), .sh .none, a, .sh (dEv x), c, d] rfl
      · simp
        exact ⟨xs.map Ev.s, m, by simp [Ev.s, Function.comp_def], ok.steps, by rw [List.length_map]; exact ok.len, by simpa using p⟩
def R_is_events : List PyData → (PyData → Prop) → Prop := fun ds P => ∃ (r : Rec), ds = [dRec r] ∧ r.length ≤ 400 ∧ P (.bool true)
abbrev s_is_events : Stmt := top 23
theorem sc_is_events : FnScope ["value"] ["value"] (defScope s_is_events) := ⟨rfl, rfl, rfl, by decide +kernel, rfl, by decide +kernel, by decide +kernel⟩
theorem ok_is_events (B : Bl mg)  {f : Addr} {fd : FuncData} (A : At K mg "is_events" "is_events" s_is_events f fd) : Fx P w K mg base 1 "is_events" ["value"] (pf R_is_events) := by
  refine ok_pf A sc_is_events (A.fn.binds fun _ _ _ _ _ _ us hl => match us, hl with | [_], _ => rfl) ?len fun cdv A outer s H E hr => ⟨_, (ass_one (as_ret (ax_and (ax_isi (ax_v 0) (by rfl) B.isinstance (by rfl) B.list rfl) (ax_one (ax_le (ax_callB call_len sndC_len (by rfl) B.len PySem.boot_len (axa_cons (ax_v 0) axa_nil)) (ax_gI (by rfl) B.eVENTS)))))), ?body⟩
  case len =>
    rintro ds P ⟨r, rfl, _⟩
    rfl
  case body =>
    rintro ds Q ⟨r, rfl, hl, p⟩
    show sRet _ _ [.sh (dRec r)]
    have e : (r.length : Int) ≤ 400 := by omega
    simp [e]
    exact p
def R_require_record_with : List PyData → (PyData → Prop) → Prop := fun ds P => ∃ (r : Rec) (m : Nat), ds = [.int m, dRec r] ∧ RecOk m r ∧ P .none
abbrev s_require_record_with : Stmt := top 24
theorem sc_require_record_with : FnScope ["many", "record", "wrong"] ["many", "record"] (defScope s_require_record_with) := ⟨rfl, rfl, rfl, by decide +kernel, rfl, by decide +kernel, by decide +kernel⟩
theorem ok_require_record_with (B : Bl mg) (F_first_wrong_event : Fx P w K mg base 4 "first_wrong_event" ["events", "many"] (pf R_first_wrong_event)) (F_is_events : Fx P w K mg base 1 "is_events" ["value"] (pf R_is_events)) {f : Addr} {fd : FuncData} (A : At K mg "require_record_with" "require_record_with" s_require_record_with f fd) : Fx P w K mg base 5 "require_record_with" ["many", "record"] (pf R_require_record_with) := by
  refine ok_pf A sc_require_record_with (A.fn.binds fun _ _ _ _ _ _ us hl => match us, hl with | [_, _], _ => rfl) ?len fun cdv A outer s H E hr => ⟨_, (ass_cons (as_if (at_not (at_val (ax_fn F_is_events (hr.mono (by decide)) (by rfl) (axa_cons (ax_v 1) axa_nil)))) (ass_one as_never) ass_nil)
      (ass_cons (as_set 2 sc_require_record_with.nd (ax_fn F_first_wrong_event (hr.mono (by decide)) (by rfl) (axa_cons (ax_v 1) (axa_cons (ax_v 0) axa_nil))))
      (ass_one (as_if (at_notN (ax_v 2)) (ass_one as_never) ass_nil)))), ?body⟩
  case len =>
    rintro ds P ⟨r, m, rfl, _⟩
    rfl
  case body =>
    rintro ds Q ⟨r, m, rfl, ok, p⟩
    show sSeq _ _ _ [.sh (.int m), .sh (dRec r), .no]
    simp
    refine ⟨r, rfl, ok.len, rfl, r, m, rfl, ok, ?_⟩
    simp
    exact p
def R_require_record : List PyData → (PyData → Prop) → Prop := fun ds P => ∃ (l : Lay) (r : Rec), ds = [dLay l, dRec r] ∧ LayOk l ∧ RecOk (wide l - 1) r ∧ P .none
theorem lay_head {l : Lay} (ok : LayOk l) : ∃ r0, l[0]? = some r0 ∧ wide l = r0.length := by
  have n1 := ok.n1
  obtain ⟨r0, hr0⟩ : ∃ r0, l[0]? = some r0 := ⟨l[0], List.getElem?_eq_getElem (by omega)⟩
  refine ⟨r0, hr0, ?_⟩
  cases l with
  | nil => simp at hr0
  | cons a r => simp at hr0; subst hr0; rfl
abbrev s_require_record : Stmt := top 25
theorem sc_require_record : FnScope ["layout", "record"] ["layout", "record"] (defScope s_require_record) := ⟨rfl, rfl, rfl, by decide +kernel, rfl, by decide +kernel, by decide +kernel⟩
theorem ok_require_record (B : Bl mg) (F_require_record_with : Fx P w K mg base 5 "require_record_with" ["many", "record"] (pf R_require_record_with)) {f : Addr} {fd : FuncData} (A : At K mg "require_record" "require_record" s_require_record f fd) : Fx P w K mg base 6 "require_record" ["layout", "record"] (pf R_require_record) := by
  refine ok_pf A sc_require_record (A.fn.binds fun _ _ _ _ _ _ us hl => match us, hl with | [_, _], _ => rfl) ?len fun cdv A outer s H E hr => ⟨_, (ass_one (as_expr (ax_fn F_require_record_with (hr.mono (by decide)) (by rfl) (axa_cons (ax_sub (ax_callB call_len sndC_len (by rfl) B.len PySem.boot_len (axa_cons (ax_ix (ax_v 0) ax_int) axa_nil)) ax_int) (axa_cons (ax_v 1) axa_nil))))), ?body⟩
  case len =>
    rintro ds P ⟨l, r, rfl, _⟩
    rfl
  case body =>
    rintro ds Q ⟨l, r, rfl, ok, ok2, p⟩
    show sDrop _ _ [.sh (dLay l), .sh (dRec r)]
    obtain ⟨r0, h0, hw⟩ := lay_head ok
    have w1 := ok.w1
    simp [h0]
    have e : (r0.length : Int) - 1 = ((wide l - 1 : Nat) : Int) := by omega
    rw [e]
    exact ⟨r, wide l - 1, rfl, ok2, p⟩
def isDual : Act → Bool
  | .dual _ _ _ _ => true
  | _ => false
def R_is_dual : List PyData → (PyData → Prop) → Prop := fun ds P => ∃ (a : Act), ds = [dAct a] ∧ P (.bool (isDual a))
abbrev s_is_dual : Stmt := top 26
theorem sc_is_dual : FnScope ["action"] ["action"] (defScope s_is_dual) := ⟨rfl, rfl, rfl, by decide +kernel, rfl, by decide +kernel, by decide +kernel⟩
theorem ok_is_dual (B : Bl mg)  {f : Addr} {fd : FuncData} (A : At K mg "is_dual" "is_dual" s_is_dual f fd) : Fx P w K mg base 1 "is_dual" ["action"] (pf R_is_dual) := by
  refine ok_pf A sc_is_dual (A.fn.binds fun _ _ _ _ _ _ us hl => match us, hl with | [_], _ => rfl) ?len fun cdv A outer s H E hr => ⟨_, (ass_one (as_ret (ax_and (ax_isi (ax_v 0) (by rfl) B.isinstance (by rfl) B.tuple rfl) (ax_one (ax_eq hr.units (ax_ix (ax_v 0) ax_int) ax_str))))), ?body⟩
  case len =>
    rintro ds P ⟨a, rfl, _⟩
    rfl
  case body =>
    rintro ds Q ⟨a, rfl, p⟩
    show sRet _ _ [.sh (dAct a)]
    cases a <;> simp <;> exact p
def Hold.act : Hold → Act
  | .code c => .code c
  | .layer n => .layer n
theorem hold_act (h : Hold) : dAct h.act = dHold h := by cases h <;> rfl
/-- some true: tap -/
def dDec : Option Bool → PyData
  | none => .none
  | some true => .str "tap"
  | some false => .str "hold"
@[simp] theorem dDec_n : dDec none = .none := rfl
@[simp] theorem dDec_t : dDec (some true) = .str "tap" := rfl
@[simp] theorem dDec_f : dDec (some false) = .str "hold" := rfl
def carried : Act → Option Bool → Act
  | .dual c h _ _, d => if d = some true then .code c else h.act
  | a, _ => a
def R_carried_out : List PyData → (PyData → Prop) → Prop := fun ds P => ∃ (a : Act) (d : Option Bool), ds = [dAct a, dDec d] ∧ P (dAct (carried a d))
abbrev s_carried_out : Stmt := top 30
theorem sc_carried_out : FnScope ["action", "decide"] ["action", "decide"] (defScope s_carried_out) := ⟨rfl, rfl, rfl, by decide +kernel, rfl, by decide +kernel, by decide +kernel⟩
theorem ok_carried_out (B : Bl mg) (F_is_dual : Fx P w K mg base 1 "is_dual" ["action"] (pf R_is_dual)) {f : Addr} {fd : FuncData} (A : At K mg "carried_out" "carried_out" s_carried_out f fd) : Fx P w K mg base 2 "carried_out" ["action", "decide"] (pf R_carried_out) := by
  refine ok_pf A sc_carried_out (A.fn.binds fun _ _ _ _ _ _ us hl => match us, hl with | [_, _], _ => rfl) ?len fun cdv A outer s H E hr => ⟨_, (ass_cons (as_if (at_not (at_val (ax_fn F_is_dual (hr.mono (by decide)) (by rfl) (axa_cons (ax_v 0) axa_nil)))) (ass_one (as_ret (ax_v 0))) ass_nil)
      (ass_one (as_ret (ax_if (at_eq hr.units (ax_v 1) ax_str) (ax_tup (axa_cons ax_str (axa_cons (ax_ix (ax_v 0) ax_int) axa_nil))) (ax_ix (ax_v 0) ax_int))))), ?body⟩
  case len =>
    rintro ds P ⟨a, d, rfl, _⟩
    rfl
  case body =>
    rintro ds Q ⟨a, d, rfl, p⟩
    show sSeq _ _ _ [.sh (dAct a), .sh (dDec d)]
    simp
    refine ⟨a, rfl, ?_⟩
    cases a <;> simp [isDual]
    case dual c h t r =>
      cases d with
      | none =>
        simp [carried, hold_act] at p
        simp
        exact p
      | some b =>
        cases b <;> simp [carried, hold_act] at p <;> simp <;> exact p
    all_goals exact p
end HT2
set_option maxRecDepth 100000
set_option maxHeartbeats 4000000
namespace HT2
open PySem PySem.Spec PyProof.Rows L2 StX PL
variable {P : Program} {w : World} {K : PySem.W.Frag} {mg : Str → Option Value} {base : Heap}
def optN : Option Nat → PyData
  | none => .none
  | some i => .int (i : Nat)
@[simp] theorem optN_none : optN none = .none := rfl
@[simp] theorem optN_some (i : Nat) : optN (some i) = .int (i : Nat) := rfl
def seen (later : List Nat) (k : Nat) : List Nat := if later.contains k then later else later ++ [k]
def decF (own : Nat) (r : Str) : List (Nat × Bool) → Nat → List Nat → Option Nat
  | [], _, _ => none
  | (k, d) :: xs, i, later => if k = own then some i else if ((r == "other") && d) || ((r == "within") && !d && later.contains k) then some i else decF own r xs (i + 1) (if d then seen later k else later)
def decider (xs : List (Nat × Bool)) (n : Nat) (r : Str) : Option Nat := match xs[n]? with
  | some s => decF s.1 r (xs.drop (n + 1)) (n + 1) []
  | none => none
theorem kvL_seen (h : List Nat) (n : Nat) : dPut (kvL h) (.inl (n : Int)) (.bool true) = kvL (seen h n) := by
  unfold seen
  by_cases q : n ∈ h
  · rw [if_pos (by simpa using q), kvL_put2 _ _ q]
  · rw [if_neg (by simpa using q), kvL_put _ _ q]
theorem seen_len (h : List Nat) (n : Nat) : (seen h n).length ≤ h.length + 1 := by
  unfold seen
  split <;> simp
theorem rangeD_map (lo : Int) (n : Nat) : rangeD lo n = (List.range n).map fun (k : Nat) => .int (lo + k) := rfl
theorem range_split {n : Nat} {p q : List Nat} {x : Nat} (e : List.range n = p ++ x :: q) : x = p.length ∧ x < n := by
  obtain ⟨h1, h2⟩ := len_mid e
  rw [List.length_range] at h1
  rw [List.getElem?_range h1] at h2
  simp at h2
  exact ⟨h2.symm, by omega⟩
theorem atI_add (ds : List PyData) (a b : Nat) : atI ds ((a : Int) + (b : Int)) = ds[a + b]? := by
  rw [← atI_nat]
  rfl
def R_decider_of : List PyData → (PyData → Prop) → Prop := fun ds P => ∃ (rec : Rec) (n : Nat) (r : Str), ds = [dRec rec, .int n, .str r] ∧ n < rec.length ∧ rec.length ≤ 400 ∧ PyData.strOk r = true ∧ P (optN (decider (rec.map Ev.s) n r))
abbrev s_decider_of : Stmt := top 32
theorem sc_decider_of : FnScope ["record", "number", "rule", "own", "later", "place", "tick", "key", "way"] ["record", "number", "rule"] (defScope s_decider_of) := ⟨rfl, rfl, rfl, by decide +kernel, rfl, by decide +kernel, by decide +kernel⟩
theorem ok_decider_of (B : Bl mg)  {f : Addr} {fd : FuncData} (A : At K mg "decider_of" "decider_of" s_decider_of f fd) : Fx P w K mg base 1 "decider_of" ["record", "number", "rule"] (pf R_decider_of) := by
  refine ok_pf A sc_decider_of (A.fn.binds fun _ _ _ _ _ _ us hl => match us, hl with | [_, _, _], _ => rfl) ?len fun cdv A outer s H E hr => ⟨_, (ass_cons (as_par (i := 3) (j := 4) rfl sc_decider_of.nd (axa_cons (ax_ix (ax_ix (ax_v 0) (ax_v 1)) ax_int) (axa_cons ax_dnew axa_nil)))
      (ass_cons (as_for PassesOwn.never rfl (ai_range2 (by rfl) B.range (axa_cons (ax_add (ax_v 1) ax_int) (axa_cons (ax_callB call_len sndC_len (by rfl) B.len PySem.boot_len (axa_cons (ax_v 0) axa_nil)) axa_nil))) (ag_n 5 sc_decider_of.nd)
        (ass_cons (as_asg (ax_ix (ax_v 0) (ax_v 5)) (ag_tup (n := 3) rfl (ags_cons (ag_n 6 sc_decider_of.nd) (ags_cons (ag_n 7 sc_decider_of.nd) (ags_cons (ag_n 8 sc_decider_of.nd) ags_nil)))))
      (ass_cons (as_if (at_eq hr.units (ax_v 7) (ax_v 3)) (ass_one (as_ret (ax_v 5))) ass_nil)
      (ass_cons (as_if (at_bool (aw_or (at_bool (aw_and (at_eq hr.units (ax_v 2) ax_str) (aw_and1 (at_eq hr.units (ax_v 8) ax_str)))) (aw_or1 (at_bool (aw_and (at_eq hr.units (ax_v 2) ax_str) (aw_and (at_eq hr.units (ax_v 8) ax_str) (aw_and1 (at_din hr.units (ax_v 7) (pe_v 4) (pl_slot 4))))))))) (ass_one (as_ret (ax_v 5))) ass_nil)
      (ass_one (as_if (at_eq hr.units (ax_v 8) ax_str) (ass_one (as_dput hr.units (pe_v 4) (pl_slot 4) (ax_v 7) ax_bl)) ass_nil))))))
      (ass_one (as_ret ax_non)))), ?body⟩
  case len =>
    rintro ds P ⟨rec, n, r, rfl, _⟩
    rfl
  case body =>
    rintro ds Q ⟨rec, n, r, rfl, hn, hz, hr, p⟩
    show sSeq _ _ _ [.sh (dRec rec), .sh (.int n), .sh (.str r), .no, .no, .no, .no, .no, .no]
    obtain ⟨own, hown⟩ : ∃ o, rec[n]? = some o := ⟨rec[n], List.getElem?_eq_getElem hn⟩
    have hd : decider (rec.map Ev.s) n r = decF own.k r ((rec.map Ev.s).drop (n + 1)) (n + 1) [] := by
      unfold decider
      rw [List.getElem?_map, hown]
      rfl
    rw [hd] at p
    simp [hown]
    refine ⟨by omega, ?_⟩
    refine for_t (List.range (rec.length - (n + 1))) (fun (k : Nat) => .int (((n + 1 : Nat) : Int) + k)) (fun q Γ => ∃ later a b c d, Γ = [.sh (dRec rec), .sh (.int n), .sh (.str r), .sh (.int own.k), .dct (kvL later), a, b, c, d] ∧ later.length ≤ q.length ∧ Q (optN (decF own.k r ((rec.map Ev.s).drop (n + 1 + q.length)) (n + 1 + q.length) later))) ?_ ?_ ?_ ?_
    · rw [rangeD_map]
      congr 2
      omega
    · exact ⟨[], _, _, _, _, rfl, Nat.le_refl _, p⟩
    · rintro q x q2 Γ2 e ⟨later, a, b, c, d, rfl, hl, p⟩
      obtain ⟨rfl, hx⟩ := range_split e
      have hx2 : n + 1 + q.length < rec.length := by omega
      obtain ⟨x, hx3⟩ : ∃ o, rec[n + 1 + q.length]? = some o := ⟨_, List.getElem?_eq_getElem hx2⟩
      have hdr : (rec.map Ev.s).drop (n + 1 + q.length) = (x.k, x.d) :: (rec.map Ev.s).drop (n + 1 + (q.length + 1)) := by
        rw [List.drop_eq_getElem_cons (by rw [List.length_map]; exact hx2)]
        congr 1
        rw [List.getElem_map, ← (List.getElem?_eq_some_iff.mp hx3).2]
        rfl
      rw [hdr] at p
      unfold decF at p
      have hat : atI (rec.map dEv) ((n : Int) + 1 + q.length) = some (dEv x) := by
        have e : (n : Int) + 1 + q.length = ((n + 1 + q.length : Nat) : Int) := by omega
        rw [e, atI_nat, List.getElem?_map, hx3]
        rfl
      have k1 := kvL_seen later x.k
      have k2 := kvL_has later x.k
      have k3 := kvL_len later
      have k4 := seen_len later x.k
      have k5 : later.length < sizeLine := sz_lt (Nat.le_trans hl (by omega : q.length ≤ 400))
      obtain ⟨xt, xk, xd⟩ := x
      simp only at p k1 k2 k4
      by_cases e1 : xk = own.k
      · rw [if_pos e1] at p
        simp [hat, e1]
        exact p
      · rw [if_neg e1] at p
        have e1' : ¬ ((xk : Int) = (own.k : Int)) := by omega
        have fin1 : ∀ R : Prop, Q (optN (decF own.k r (List.drop (n + 1 + (q.length + 1)) (List.map Ev.s rec)) (n + 1 + (q.length + 1)) (seen later xk))) → ∃ later_1, kvL (seen later xk) = kvL later_1 ∧ later_1.length ≤ q.length + 1 ∧ Q (optN (decF own.k r (List.drop (n + 1 + (q.length + 1)) (List.map Ev.s rec)) (n + 1 + (q.length + 1)) later_1)) := fun _ h => ⟨_, rfl, by omega, h⟩
        have fin2 : ∀ R : Prop, Q (optN (decF own.k r (List.drop (n + 1 + (q.length + 1)) (List.map Ev.s rec)) (n + 1 + (q.length + 1)) later)) → ∃ later_1, kvL later = kvL later_1 ∧ later_1.length ≤ q.length + 1 ∧ Q (optN (decF own.k r (List.drop (n + 1 + (q.length + 1)) (List.map Ev.s rec)) (n + 1 + (q.length + 1)) later_1)) := fun _ h => ⟨_, rfl, by omega, h⟩
        by_cases e2 : r = "other"
        · subst e2
          cases xd
          · simp at p
            simp [hat, e1', k1, k2, k3, k5]
            exact fin2 True p
          · simp at p
            simp [hat, e1']
            exact p
        · by_cases e3 : r = "within"
          · subst e3
            cases xd
            · by_cases e4 : xk ∈ later
              · simp [e4] at p
                simp [hat, e1', k2, e4]
                exact p
              · simp [e4] at p
                simp [hat, e1', k2, e4]
                exact fin2 True p
            · simp at p
              simp [hat, e1', k1, k3, k5]
              exact fin1 True p
          · have b2 : (r == ("other" : Str)) = false := beq_eq_false_iff_ne.mpr e2
            have b3 : (r == ("within" : Str)) = false := beq_eq_false_iff_ne.mpr e3
            simp only [b2, b3] at p
            cases xd
            · simp at p
              simp [hat, e1', k2, hr, e2, e3]
              exact fin2 True p
            · simp at p
              simp [hat, e1', k1, k3, k5, hr, e2, e3]
              exact fin1 True p
    · rintro Γ2 ⟨later, a, b, c, d, rfl, hl, p⟩
      rw [List.drop_eq_nil_of_le (by simp; omega)] at p
      simp
      exact p
theorem decF_lt (own : Nat) (r : Str) : ∀ (xs : List (Nat × Bool)) (i : Nat) (later : List Nat) (j : Nat), decF own r xs i later = some j → i ≤ j ∧ j < i + xs.length := fun xs => by
  induction xs with
  | nil => intro i later j h; simp [decF] at h
  | cons x xs ih =>
    obtain ⟨k, d⟩ := x
    intro i later j h
    unfold decF at h
    split at h
    · cases h; simp
    · split at h
      · cases h; simp
      · have := ih _ _ _ h
        simp
        omega
theorem decider_lt {xs : List (Nat × Bool)} {n j : Nat} {r : Str} (h : decider xs n r = some j) : n < j ∧ j < xs.length := by
  unfold decider at h
  split at h
  · have h1 := decF_lt _ _ _ _ _ _ h
    rw [List.length_drop] at h1
    omega
  · cases h
def sure (rec : Rec) (n : Nat) (t : Int) (r : Str) : Option Nat := match decider (rec.map Ev.s) n r with
  | none => none
  | some p => match rec[p]?, rec[n]? with
    | some x, some y => if t ≤ x.t - y.t then none else some p
    | _, _ => none
def ruleOk (r : Str) : Prop := PyData.strOk r = true
def R_sure_event : List PyData → (PyData → Prop) → Prop := fun ds P => ∃ (rec : Rec) (n : Nat) (c : Str) (h : Hold) (t : Int) (r : Str), ds = [dRec rec, .int n, dAct (.dual c h t r)] ∧ n < rec.length ∧ rec.length ≤ 400 ∧ PyData.strOk r = true ∧ P (optN (sure rec n t r))
abbrev s_sure_event : Stmt := top 33
theorem sc_sure_event : FnScope ["record", "number", "action", "place"] ["record", "number", "action"] (defScope s_sure_event) := ⟨rfl, rfl, rfl, by decide +kernel, rfl, by decide +kernel, by decide +kernel⟩
theorem ok_sure_event (B : Bl mg) (F_decider_of : Fx P w K mg base 1 "decider_of" ["record", "number", "rule"] (pf R_decider_of)) {f : Addr} {fd : FuncData} (A : At K mg "sure_event" "sure_event" s_sure_event f fd) : Fx P w K mg base 2 "sure_event" ["record", "number", "action"] (pf R_sure_event) := by
  refine ok_pf A sc_sure_event (A.fn.binds fun _ _ _ _ _ _ us hl => match us, hl with | [_, _, _], _ => rfl) ?len fun cdv A outer s H E hr => ⟨_, (ass_cons (as_set 3 sc_sure_event.nd (ax_fn F_decider_of (hr.mono (by decide)) (by rfl) (axa_cons (ax_v 0) (axa_cons (ax_v 1) (axa_cons (ax_ix (ax_v 2) ax_int) axa_nil)))))
      (ass_cons (as_if (at_bool (aw_or (at_isN (ax_v 3)) (aw_or1 (at_ge (ax_sub (ax_ix (ax_ix (ax_v 0) (ax_v 3)) ax_int) (ax_ix (ax_ix (ax_v 0) (ax_v 1)) ax_int)) (ax_ix (ax_v 2) ax_int))))) (ass_one (as_ret ax_non)) ass_nil)
      (ass_one (as_ret (ax_v 3))))), ?body⟩
  case len =>
    rintro ds P ⟨rec, n, c, h, t, r, rfl, _⟩
    rfl
  case body =>
    rintro ds Q ⟨rec, n, c, h, t, r, rfl, hn, hz, hr, p⟩
    show sSeq _ _ _ [.sh (dRec rec), .sh (.int n), .sh (dAct (.dual c h t r)), .no]
    simp
    refine ⟨rec, n, r, rfl, hn, hz, hr, ?_⟩
    obtain ⟨own, hown⟩ : ∃ o, rec[n]? = some o := ⟨rec[n], List.getElem?_eq_getElem hn⟩
    unfold sure at p
    cases hd : decider (rec.map Ev.s) n r with
    | none =>
      rw [hd] at p
      simp
      exact p
    | some j =>
      obtain ⟨h1, h2⟩ := decider_lt hd
      rw [List.length_map] at h2
      obtain ⟨x, hx⟩ : ∃ o, rec[j]? = some o := ⟨rec[j], List.getElem?_eq_getElem h2⟩
      rw [hd] at p
      simp [hx, hown] at p
      simp [hx, hown]
      split
      · rename_i q
        simp [q] at p
        exact p
      · rename_i q
        simp [q] at p
        exact p
def decided : Rec → Nat → Act → Option Bool
  | rec, n, .dual _ _ t r => match sure rec n t r with
    | none => some false
    | some p => match rec[p]?, rec[n]? with
      | some x, some y => some (decide (x.k = y.k))
      | _, _ => some false
  | _, _, _ => none
def actStr : Act → Prop
  | .none => True
  | .through => True
  | .code c => PyData.strOk c = true
  | .dual c h _ r => PyData.strOk c = true ∧ PyData.strOk r = true ∧ (match h with | .code d => PyData.strOk d = true | _ => True)
  | _ => True
def R_decided : List PyData → (PyData → Prop) → Prop := fun ds P => ∃ (rec : Rec) (n : Nat) (a : Act), ds = [dRec rec, .int n, dAct a] ∧ n < rec.length ∧ rec.length ≤ 400 ∧ actStr a ∧ P (dDec (decided rec n a))
theorem sure_lt {rec : Rec} {n j : Nat} {t : Int} {r : Str} (h : sure rec n t r = some j) : j < rec.length := by
  unfold sure at h
  split at h
  · cases h
  · rename_i p hp
    have h1 := decider_lt hp
    rw [List.length_map] at h1
    split at h
    · split at h
      · cases h
      · cases h
        exact h1.2
    · cases h
abbrev s_decided : Stmt := top 34
theorem sc_decided : FnScope ["record", "number", "action", "place"] ["record", "number", "action"] (defScope s_decided) := ⟨rfl, rfl, rfl, by decide +kernel, rfl, by decide +kernel, by decide +kernel⟩
theorem ok_decided (B : Bl mg) (F_is_dual : Fx P w K mg base 1 "is_dual" ["action"] (pf R_is_dual)) (F_sure_event : Fx P w K mg base 2 "sure_event" ["record", "number", "action"] (pf R_sure_event)) {f : Addr} {fd : FuncData} (A : At K mg "decided" "decided" s_decided f fd) : Fx P w K mg base 3 "decided" ["record", "number", "action"] (pf R_decided) := by
  refine ok_pf A sc_decided (A.fn.binds fun _ _ _ _ _ _ us hl => match us, hl with | [_, _, _], _ => rfl) ?len fun cdv A outer s H E hr => ⟨_, (ass_cons (as_if (at_not (at_val (ax_fn F_is_dual (hr.mono (by decide)) (by rfl) (axa_cons (ax_v 2) axa_nil)))) (ass_one (as_ret ax_non)) ass_nil)
      (ass_cons (as_set 3 sc_decided.nd (ax_fn F_sure_event (hr.mono (by decide)) (by rfl) (axa_cons (ax_v 0) (axa_cons (ax_v 1) (axa_cons (ax_v 2) axa_nil)))))
      (ass_one (as_ret (ax_if (at_bool (aw_and (at_notN (ax_v 3)) (aw_and1 (at_eq hr.units (ax_ix (ax_ix (ax_v 0) (ax_v 3)) ax_int) (ax_ix (ax_ix (ax_v 0) (ax_v 1)) ax_int))))) ax_str ax_str))))), ?body⟩
  case len =>
    rintro ds P ⟨rec, n, a, rfl, _⟩
    rfl
  case body =>
    rintro ds Q ⟨rec, n, a, rfl, hn, hz, ha, p⟩
    show sSeq _ _ _ [.sh (dRec rec), .sh (.int n), .sh (dAct a), .no]
    simp
    refine ⟨a, rfl, ?_⟩
    cases a <;> simp [isDual]
    case dual c h t r =>
      refine ⟨rec, n, c, h, t, r, rfl, hn, hz, ha.2.1, ?_⟩
      obtain ⟨own, hown⟩ : ∃ o, rec[n]? = some o := ⟨rec[n], List.getElem?_eq_getElem hn⟩
      simp only [decided] at p
      cases hd : sure rec n t r with
      | none =>
        rw [hd] at p
        simp at p
        simp
        exact p
      | some j =>
        have h2 := sure_lt hd
        obtain ⟨x, hx⟩ : ∃ o, rec[j]? = some o := ⟨rec[j], List.getElem?_eq_getElem h2⟩
        rw [hd] at p
        simp [hx, hown] at p
        simp [hx, hown]
        by_cases q : x.k = own.k
        · simp [q] at p ⊢
          exact p
        · have q' : ¬ ((x.k : Int) = own.k) := by omega
          simp [q] at p
          simp [q']
          exact p
    all_goals
      simp [decided] at p
      exact p
end HT2
set_option maxRecDepth 100000
set_option maxHeartbeats 4000000
namespace HT2
open PySem PySem.Spec PyProof.Rows L2 StX PL
variable {P : Program} {w : World} {K : PySem.W.Frag} {mg : Str → Option Value} {base : Heap}
/-! ### players -/
abbrev NP : List Str := ["kept_layout", "kept_locked", "kept_waiting", "kept_bound"]
abbrev NW : List Str := ["kept_player", "kept_bounds", "kept_ticks", "kept_choice", "kept_result"]
theorem NP_nd : NP.Nodup := by decide +kernel
theorem NW_nd : NW.Nodup := by decide +kernel
structure Pst where
  lay : Lay
  locked : List Nat
  waiting : Option Nat
  bound : List (Nat × Hold)
def kvB (l : List (Nat × Hold)) : List (Key × PyData) := l.map fun p => (.inl (p.1 : Int), dHold p.2)
def enP (C : Addr) (p : Pst) : En := .ob C NP [.sh (dLay p.lay), .dct (kvL p.locked), .sh (optN p.waiting), .dct (kvB p.bound)]
def pInit (l : Lay) : Pst := ⟨l, [], none, []⟩
def S_Player___init__ (C : Addr) : AF := fun es P => ∃ l, es = [.ob C [] [], .sh (dLay l)] ∧ P (.sh .none) [enP C (pInit l), .no]
abbrev s_Player___init__ : Stmt := inClass (top 31) 0
theorem sc_Player___init__ : FnScope ["self", "layout"] ["self", "layout"] (defScope s_Player___init__) := ⟨rfl, rfl, rfl, by decide +kernel, rfl, by decide +kernel, by decide +kernel⟩
theorem ok_Player___init__ (B : Bl mg) {CP : Addr} (HP : ClsO K CP NP)  {f : Addr} {fd : FuncData} (A : AtI K mg "Player" CP "Player.__init__" s_Player___init__ f fd) : Cx1 P w K mg base 1 "Player" CP ["self", "layout"] (S_Player___init__ CP) := by
  refine ⟨f, fd, ok_def A.fn sc_Player___init__ [0] ?len ?body, A.mkr, A.mg, (A.fn.binds fun _ _ _ _ _ _ us hl => match us, hl with | [_, _], _ => rfl)⟩
  case body =>
    intro cdv A outer s H E hr
    refine ⟨_, (ass_cons (as_fldN 0 (N := []) HP.cls (HP.na _ (by decide)) (by decide) (ax_v 1))
      (ass_cons (as_fldN 0 (N := ["kept_layout"]) HP.cls (HP.na _ (by decide)) (by decide) ax_dnew)
      (ass_cons (as_fldN 0 (N := ["kept_layout", "kept_locked"]) HP.cls (HP.na _ (by decide)) (by decide) ax_non)
      (ass_one (as_fldN 0 (N := ["kept_layout", "kept_locked", "kept_waiting"]) HP.cls (HP.na _ (by decide)) (by decide) ax_dnew))))), ?_⟩
    rintro es P ⟨l, rfl, p⟩
    show sSeq _ _ _ [.ob CP [] [], .sh (dLay l)]
    simp
    exact p
  case len =>
    rintro es P ⟨l, rfl, _⟩
    rfl
def S_Player_copy (C : Addr) : AF := fun es P => ∃ p, es = [enP C p] ∧ P (enP C p) [enP C p]
abbrev s_Player_copy : Stmt := inClass (top 31) 1
theorem sc_Player_copy : FnScope ["self", "other"] ["self"] (defScope s_Player_copy) := ⟨rfl, rfl, rfl, by decide +kernel, rfl, by decide +kernel, by decide +kernel⟩
theorem ok_Player_copy (B : Bl mg) {CP : Addr} (HP : ClsO K CP NP) (C_Player : Cx1 P w K mg base 1 "Player" CP ["self", "layout"] (S_Player___init__ CP)) {f : Addr} {fd : FuncData} (A : AtM K CP "copy" "Player.copy" s_Player_copy f fd) : Mx P w K mg base 3 CP "copy" ["self"] (S_Player_copy CP) := by
  refine ⟨f, fd, ok_def A.fn sc_Player_copy [0] ?len ?body, A.cls, A.meth, (A.fn.binds fun _ _ _ _ _ _ us hl => match us, hl with | [_], _ => rfl)⟩
  case body =>
    intro cdv A outer s H E hr
    refine ⟨_, (ass_cons (as_set 1 sc_Player_copy.nd (ax_make C_Player (hr.mono (by decide)) (by rfl) (axa_cons (ax_fld 0 0 (N := NP) HP.cls (HP.na _ (by decide)) NP_nd) axa_nil)))
      (ass_cons (as_fld 1 1 (N := NP) HP.cls (HP.na _ (by decide)) NP_nd (ax_dcopy (by rfl) B.dict (pe_at 0) (pl_fld (i := 0) (n := 1) (N := NP) HP.cls (HP.na _ (by decide)) (by rfl) NP_nd)))
      (ass_cons (as_fld 1 2 (N := NP) HP.cls (HP.na _ (by decide)) NP_nd (ax_fld 0 2 (N := NP) HP.cls (HP.na _ (by decide)) NP_nd))
      (ass_cons (as_fld 1 3 (N := NP) HP.cls (HP.na _ (by decide)) NP_nd (ax_dcopy (by rfl) B.dict (pe_at 0) (pl_fld (i := 0) (n := 3) (N := NP) HP.cls (HP.na _ (by decide)) (by rfl) NP_nd)))
      (ass_one (as_ret (ax_mv 1))))))), ?_⟩
    rintro es P ⟨p, rfl, h⟩
    show sSeq _ _ _ [enP CP p, .no]
    simp [enP]
    refine ⟨p.lay, rfl, rfl, ?_⟩
    simp [enP]
    exact h
  case len =>
    rintro es P ⟨l, rfl, _⟩
    rfl
def isOn (p : Pst) (n : Nat) : Bool := n == 0 || p.locked.contains n || p.waiting == some n || p.bound.any fun b => match b.2 with
  | .layer m => m == n
  | .code _ => false
structure PstOk (s : Nat) (p : Pst) : Prop where
  lay : LayOk p.lay
  lk : p.locked.length ≤ s
  bl : p.bound.length ≤ s
  bd : ∀ b ∈ p.bound, holdOk p.lay.length b.2 = true
def S_Player_is_on (C : Addr) : AF := fun es P => ∃ s p n, es = [enP C p, .sh (.int (n : Nat))] ∧ s ≤ 500 ∧ PstOk s p ∧ P (.sh (.bool (isOn p n))) [enP C p, .no]
theorem hold_shape {m : Nat} {h : Hold} (ok : holdOk m h = true) : (dHold h).canLay0 = true ∧ (dHold h).depth ≤ 64 := by
  cases h with
  | code c => simp; exact code_ok ok
  | layer n => simp
theorem hold_layer_eq {h : Hold} {n : Nat} : PyData.eqv (dHold h) (.tuple [.str "layer", .int n]) = (match h with | .layer m => m == n | .code _ => false) := by
  cases h with
  | code c => simp
  | layer m =>
    simp
    rw [Bool.eq_iff_iff]
    simp
    omega
abbrev s_Player_is_on : Stmt := inClass (top 31) 2
theorem sc_Player_is_on : FnScope ["self", "layer", "what"] ["self", "layer"] (defScope s_Player_is_on) := ⟨rfl, rfl, rfl, by decide +kernel, rfl, by decide +kernel, by decide +kernel⟩
theorem ok_Player_is_on (B : Bl mg) {CP : Addr} (HP : ClsO K CP NP)  {f : Addr} {fd : FuncData} (A : AtM K CP "is_on" "Player.is_on" s_Player_is_on f fd) : Mx P w K mg base 1 CP "is_on" ["self", "layer"] (S_Player_is_on CP) := by
  refine ⟨f, fd, ok_def A.fn sc_Player_is_on [0] ?len ?body, A.cls, A.meth, (A.fn.binds fun _ _ _ _ _ _ us hl => match us, hl with | [_, _], _ => rfl)⟩
  case body =>
    intro cdv A outer s H E hr
    refine ⟨_, (ass_cons (as_if (at_bool (aw_or (at_eq hr.units (ax_v 1) ax_int) (aw_or (at_din hr.units (ax_v 1) (pe_at 0) (pl_fld (i := 0) (n := 1) (N := NP) HP.cls (HP.na _ (by decide)) (by rfl) NP_nd)) (aw_or1 (at_eq hr.units (ax_v 1) (ax_fld 0 2 (N := NP) HP.cls (HP.na _ (by decide)) NP_nd)))))) (ass_one (as_ret ax_bl)) ass_nil)
      (ass_one (as_ret (ax_callB (cr_any rfl) sndC_any (by rfl) B.any (by decide +kernel) (axa_cons (ax_sh (ax_lcV (own := [("what", 2)]) rfl sc_Player_is_on.nd (pe_at 0) (pl_fld (i := 0) (n := 3) (N := NP) HP.cls (HP.na _ (by decide)) (by rfl) NP_nd) (blkOk_by (show blkC ["self", "layer", "what"] (defScope s_Player_is_on) _ [("what", 2)] = true from by decide +kernel)) (fun _ _ _ _ _ => (ag_n 2 sc_Player_is_on.nd)) (fun _ _ _ _ _ => ats_nil) (fun _ _ _ _ _ => ax_c (ax_eq hr.units (ax_v 2) (ax_tup (axa_cons ax_str (axa_cons (ax_v 1) axa_nil))))))) axa_nil))))), ?_⟩
    rintro es P ⟨s, p, n, rfl, hs, ok, h⟩
    show sSeq _ _ _ [enP CP p, .sh (.int n), .no]
    have w1 : (optN p.waiting).canLay0 = true ∧ (optN p.waiting).depth ≤ 64 := by cases p.waiting <;> simp
    have w2 : PyData.eqv (.int n) (optN p.waiting) = (p.waiting == some n) := by
      cases hw : p.waiting with
      | none => rfl
      | some m =>
        simp
        rw [Bool.eq_iff_iff]
        simp
        omega
    simp [enP, w1, kvL_has, w2]
    by_cases e1 : n = 0
    · have e : isOn p n = true := by simp [isOn, e1]
      rw [e] at h
      rw [if_pos e1]
      exact h
    rw [if_neg e1]
    by_cases e2 : n ∈ p.locked
    · have e : isOn p n = true := by simp [isOn, e2]
      rw [e] at h
      rw [if_pos e2]
      exact h
    rw [if_neg e2]
    by_cases e3 : p.waiting = some n
    · have e : isOn p n = true := by simp [isOn, e3]
      rw [e] at h
      rw [if_pos e3]
      exact h
    rw [if_neg e3]
    intro v
    refine lc_m p.bound (fun b => dHold b.2) (fun b => .bool (match b.2 with | .layer m => m == n | .code _ => false)) (by unfold kvB; rw [List.map_map]; rfl) (sz_lt (Nat.le_trans ok.bl hs)) ?_ ?_
    · intro b hb KT KF k
      have hk := hold_shape (ok.bd b hb)
      simp [hk, hold_layer_eq]
      exact k [.ob CP NP [.sh (dLay p.lay), .dct (kvL p.locked), .sh (optN p.waiting), .al v], .sh (.int n), .sh (dHold b.2)] rfl
    · simp
      have e : isOn p n = p.bound.any fun b => match b.2 with | .layer m => m == n | .code _ => false := by simp [isOn, e1, e2, e3]
      rw [e] at h
      exact h
  case len =>
    rintro es P ⟨_, _, _, rfl, _⟩
    rfl
def here (p : Pst) : List Nat := (List.range p.lay.length).filter (isOn p)
def S_Player_layers_here (C : Addr) : AF := fun es P => ∃ s p, es = [enP C p] ∧ s ≤ 500 ∧ PstOk s p ∧ P (.sh (dNats (here p))) [enP C p]
abbrev s_Player_layers_here : Stmt := inClass (top 31) 3
theorem sc_Player_layers_here : FnScope ["self", "layer"] ["self"] (defScope s_Player_layers_here) := ⟨rfl, rfl, rfl, by decide +kernel, rfl, by decide +kernel, by decide +kernel⟩
theorem ok_Player_layers_here (B : Bl mg) {CP : Addr} (HP : ClsO K CP NP) (M_Player_is_on : Mx P w K mg base 1 CP "is_on" ["self", "layer"] (S_Player_is_on CP)) {f : Addr} {fd : FuncData} (A : AtM K CP "layers_here" "Player.layers_here" s_Player_layers_here f fd) : Mx P w K mg base 2 CP "layers_here" ["self"] (S_Player_layers_here CP) := by
  refine ⟨f, fd, ok_def A.fn sc_Player_layers_here [0] ?len ?body, A.cls, A.meth, (A.fn.binds fun _ _ _ _ _ _ us hl => match us, hl with | [_], _ => rfl)⟩
  case body =>
    intro cdv A outer s H E hr
    refine ⟨_, (ass_one (as_ret (ax_sh (ax_lc (own := [("layer", 1)]) rfl sc_Player_layers_here.nd (ai_range1 (by rfl) B.range (axa_cons (ax_callB call_len sndC_len (by rfl) B.len PySem.boot_len (axa_cons (ax_fld 0 0 (N := NP) HP.cls (HP.na _ (by decide)) NP_nd) axa_nil)) axa_nil)) (blkOk_by (show blkC ["self", "layer"] (defScope s_Player_layers_here) _ [("layer", 1)] = true from by decide +kernel)) (fun _ _ _ _ _ => (ag_n 1 sc_Player_layers_here.nd)) (fun _ _ _ _ _ => ats_c (ats_one (at_val (ax_meth (N := NP) M_Player_is_on (hr.mono (by decide)) (pe_v 0) (pl_slot 0) (by decide) (axa_cons (ax_v 1) axa_nil))))) (fun _ _ _ _ _ => ax_c (ax_v 1)))))), ?_⟩
    rintro es P ⟨s, p, rfl, hs, ok, h⟩
    show sRet _ _ [enP CP p, .no]
    have n2 := ok.lay.n2
    simp [enP]
    refine ⟨by omega, ?_⟩
    refine lc_f (List.range p.lay.length) (fun (n : Nat) => .int n) (fun (n : Nat) => .int n) (isOn p) (by rw [rangeD_map]; simp) (by rw [List.length_range]; exact sz_lt n2) ?_ ?_
    · intro n hn KT KF k1 k2
      simp
      refine ⟨s, p, n, rfl, hs, ok, ?_⟩
      cases e : isOn p n
      · exact Or.inl ⟨rfl, k2 [enP CP p, .sh (.int n)] e rfl⟩
      · exact Or.inr ⟨rfl, k1 [enP CP p, .sh (.int n)] e rfl⟩
    · simp
      exact h
  case len =>
    rintro es P ⟨_, _, rfl, _⟩
    rfl
def actAt (l : Lay) (n k : Nat) : Act := ((l[n]?.getD [])[k]?).getD .none
def isThr : Act → Bool
  | .through => true
  | _ => false
def look (p : Pst) (k : Nat) : Option (Nat × Act) := (((here p).map fun n => (n, actAt p.lay n k)).filter fun x => !isThr x.2).getLast?
def S_Player_look (C : Addr) : AF := fun es P => ∃ s p k x, es = [enP C p, .sh (.int (k : Nat))] ∧ s ≤ 500 ∧ PstOk s p ∧ k < wide p.lay ∧ look p k = some x ∧ P (.sh (.tuple [.int (x.1 : Nat), dAct x.2])) [enP C p, .no]
theorem act_at {l : Lay} (ok : LayOk l) {n k : Nat} (hn : n < l.length) (hk : k < wide l) : ∃ r, l[n]? = some r ∧ r[k]? = some (actAt l n k) ∧ actOk n l.length (actAt l n k) = true := by
  obtain ⟨r, hr⟩ : ∃ r, l[n]? = some r := ⟨l[n], List.getElem?_eq_getElem hn⟩
  have h1 := ok.rect r (List.mem_of_getElem? hr)
  obtain ⟨a, ha⟩ : ∃ a, r[k]? = some a := ⟨_, List.getElem?_eq_getElem (by omega)⟩
  have e : actAt l n k = a := by unfold actAt; rw [hr]; simp [ha]
  rw [e]
  exact ⟨r, hr, ha, ok.acts n r hr a (List.mem_of_getElem? ha)⟩
theorem act_shape {n m : Nat} {a : Act} (ok : actOk n m a = true) : (dAct a).canLay0 = true ∧ (dAct a).depth ≤ 64 := by
  cases a <;> simp [actOk] at ok <;> simp
  case code c => exact code_ok ok
  case dual c h t r =>
    have h1 := hold_shape ok.1.1.1.2
    have h2 := code_ok ok.1.1.1.1
    have h3 : PyData.strOk r = true := by rcases ok.2 with (e | e) | e <;> rw [e] <;> simp
    have h4 : (dHold h).depth = 1 := by cases h <;> simp
    simp [h1, h2, h3, h4]
theorem act_thr (a : Act) : PyData.eqv (dAct a) (.str "through") = isThr a := by cases a <;> simp [isThr]
theorem here_lt {p : Pst} {n : Nat} (h : n ∈ here p) : n < p.lay.length := by
  unfold here at h
  simpa using (List.mem_filter.mp h).1
theorem here_len (p : Pst) : (here p).length ≤ p.lay.length := by
  unfold here
  refine Nat.le_trans (List.length_filter_le _ _) ?_
  rw [List.length_range]
  exact Nat.le_refl _
abbrev s_Player_look : Stmt := inClass (top 31) 5
theorem sc_Player_look : FnScope ["self", "key", "found", "layer", "row"] ["self", "key"] (defScope s_Player_look) := ⟨rfl, rfl, rfl, by decide +kernel, rfl, by decide +kernel, by decide +kernel⟩
theorem ok_Player_look (B : Bl mg) {CP : Addr} (HP : ClsO K CP NP) (M_Player_layers_here : Mx P w K mg base 2 CP "layers_here" ["self"] (S_Player_layers_here CP)) {f : Addr} {fd : FuncData} (A : AtM K CP "look" "Player.look" s_Player_look f fd) : Mx P w K mg base 3 CP "look" ["self", "key"] (S_Player_look CP) := by
  refine ⟨f, fd, ok_def A.fn sc_Player_look [0] ?len ?body, A.cls, A.meth, (A.fn.binds fun _ _ _ _ _ _ us hl => match us, hl with | [_, _], _ => rfl)⟩
  case body =>
    intro cdv A outer s H E hr
    refine ⟨_, (ass_cons (as_setLc 2 (own := [("layer", 3)]) aSh snd_sh rfl sc_Player_look.nd (ai_list (ax_meth0 (N := NP) M_Player_layers_here (hr.mono (by decide)) (pe_v 0) (pl_slot 0) (by decide))) (blkOk_by (show blkC ["self", "key", "found", "layer", "row"] (defScope s_Player_look) _ [("layer", 3)] = true from by decide +kernel)) (fun _ _ _ _ _ => (ag_n 3 sc_Player_look.nd)) (fun _ _ _ _ _ => ats_nil) (fun _ _ _ _ _ => ax_c (ax_tup (axa_cons (ax_v 3) (axa_cons (ax_ix (ax_ix (ax_fld 0 0 (N := NP) HP.cls (HP.na _ (by decide)) NP_nd) (ax_v 3)) (ax_v 1)) axa_nil)))) (sw_true rfl rfl rfl (by decide +kernel)))
      (ass_one (as_ret (ax_ix (ax_sh (ax_lc (own := [("row", 4)]) rfl sc_Player_look.nd (ai_list (ax_v 2)) (blkOk_by (show blkC ["self", "key", "found", "layer", "row"] (defScope s_Player_look) _ [("row", 4)] = true from by decide +kernel)) (fun _ _ _ _ _ => (ag_n 4 sc_Player_look.nd)) (fun _ _ _ _ _ => ats_c (ats_one (at_ne hr.units (ax_ix (ax_v 4) ax_int) ax_str))) (fun _ _ _ _ _ => ax_c (ax_v 4)))) (ax_neg ax_int))))), ?_⟩
    rintro es P ⟨s, p, k, x, rfl, hs, ok, hk, hx, h⟩
    show sSeq _ _ _ [enP CP p, .sh (.int k), .no, .no, .no]
    have n2 := ok.lay.n2
    simp [enP]
    refine ⟨s, p, rfl, hs, ok, _, rfl, ?_⟩
    refine lc_m (here p) (fun (n : Nat) => .int n) (fun n => .tuple [.int n, dAct (actAt p.lay n k)]) rfl (sz_lt (Nat.le_trans (here_len p) n2)) ?_ ?_
    · intro n hn KT KF kk
      obtain ⟨r, h1, h2, h3⟩ := act_at ok.lay (here_lt hn) hk
      simp [enP, h1, h2]
      exact kk [enP CP p, .sh (.int k), .no, .sh (.int n), .no] rfl
    · simp
      refine lc_f ((here p).map fun n => (n, actAt p.lay n k)) (fun x => .tuple [.int (x.1 : Nat), dAct x.2]) (fun x => .tuple [.int (x.1 : Nat), dAct x.2]) (fun x => !isThr x.2) (by rw [List.map_map]; rfl) (by rw [List.length_map]; exact sz_lt (Nat.le_trans (here_len p) n2)) ?_ ?_
      · rintro ⟨n, a⟩ hn KT KF k1 k2
        obtain ⟨n', hn', e⟩ := List.mem_map.mp hn
        injection e with e1 e2
        subst e1 e2
        obtain ⟨r, h1, h2, h3⟩ := act_at ok.lay (here_lt hn') hk
        have h4 := act_shape h3
        cases e : isThr (actAt p.lay n' k)
        · simp [h4, act_thr, e]
          exact k1 [enP CP p, .sh (.int k), .sh (.list ((here p).map fun (n : Nat) => .tuple [.int n, dAct (actAt p.lay n k)])), .no, .sh (.tuple [.int n', dAct (actAt p.lay n' k)])] (by simp [e]) rfl
        · simp [h4, act_thr, e]
          exact k2 [enP CP p, .sh (.int k), .sh (.list ((here p).map fun (n : Nat) => .tuple [.int n, dAct (actAt p.lay n k)])), .no, .sh (.tuple [.int n', dAct (actAt p.lay n' k)])] (by simp [e]) rfl
      · refine ⟨_, rfl, _, unsh_map _, _, ?_, rfl, h⟩
        rw [atI_last, List.getLast?_map]
        unfold look at hx
        rw [hx]
        rfl
  case len =>
    rintro es P ⟨_, _, _, _, rfl, _⟩
    rfl
inductive Out | no | press (c : Str) | release (c : Str)
  deriving DecidableEq
def dOut : Out → PyData
  | .no => .tuple []
  | .press c => .tuple [.str "press", .str c]
  | .release c => .tuple [.str "release", .str c]
@[simp] theorem dOut_no : dOut .no = .tuple [] := rfl
@[simp] theorem dOut_press (c : Str) : dOut (.press c) = .tuple [.str "press", .str c] := rfl
@[simp] theorem dOut_release (c : Str) : dOut (.release c) = .tuple [.str "release", .str c] := rfl
def bput (b : List (Nat × Hold)) (k : Nat) (h : Hold) : List (Nat × Hold) := if b.any (fun x => x.1 == k) then b.map (fun x => if x.1 = k then (x.1, h) else x) else b ++ [(k, h)]
theorem key_eq {a n : Nat} : ((Sum.inl (a : Int) : Key) = .inl (n : Int)) ↔ a = n := ⟨fun h => by injection h with h; omega, fun h => by rw [h]⟩
theorem kvB_has (b : List (Nat × Hold)) (k : Nat) : dHas (kvB b) (.inl (k : Int)) = b.any fun x => x.1 == k := by
  unfold dHas kvB
  rw [List.any_map]
  refine congrArg (fun f => b.any f) (funext fun x => ?_)
  exact (decide_eq_decide.mpr (key_eq (a := x.1) (n := k))).trans rfl
theorem kvB_put (b : List (Nat × Hold)) (k : Nat) (h : Hold) : dPut (kvB b) (.inl (k : Int)) (dHold h) = kvB (bput b k h) := by
  unfold dPut bput
  rw [kvB_has]
  split
  · unfold kvB
    rw [List.map_map, List.map_map]
    refine List.map_congr_left fun x _ => ?_
    by_cases e : x.1 = k
    · simp [e]
    · have e' : ¬ ((x.1 : Int) = k) := by omega
      simp [e, e']
  · simp [kvB]
theorem kvB_get (b : List (Nat × Hold)) (k : Nat) : dGet (kvB b) (.inl (k : Int)) = (b.find? fun x => x.1 == k).map fun x => dHold x.2 := by
  unfold dGet kvB
  rw [List.find?_map, Option.map_map]
  have e : ((fun p : Key × PyData => decide (p.1 = .inl (k : Int))) ∘ fun p : Nat × Hold => ((Sum.inl (p.1 : Int) : Key), dHold p.2)) = fun x => x.1 == k := funext fun x => (decide_eq_decide.mpr (key_eq (a := x.1) (n := k))).trans rfl
  rw [e]
  rfl
theorem kvB_del (b : List (Nat × Hold)) (k : Nat) : dDel (kvB b) (.inl (k : Int)) = kvB (b.filter fun x => x.1 ≠ k) := by
  unfold dDel kvB
  rw [List.filter_map]
  congr 1
  refine List.filter_congr fun x _ => ?_
  exact decide_eq_decide.mpr (not_congr key_eq)
def pdown (p : Pst) (k : Nat) : Act → Out × Pst
  | .code c => (.press c, { p with waiting := none, bound := bput p.bound k (.code c) })
  | .layer n => (.no, { p with waiting := none, bound := bput p.bound k (.layer n) })
  | .lock n => (.no, { p with waiting := none, locked := if p.locked.contains n then p.locked.filter (· ≠ n) else p.locked ++ [n] })
  | .once n => (.no, { p with waiting := some n })
  | _ => (.no, { p with waiting := none })
def pup (p : Pst) (k : Nat) : Out × Pst := match p.bound.find? fun x => x.1 == k with
  | none => (.no, p)
  | some x => (match x.2 with | .code c => .release c | .layer _ => .no, { p with bound := p.bound.filter fun x => x.1 ≠ k })
theorem kvB_len (b : List (Nat × Hold)) : (kvB b).length = b.length := by simp [kvB]
def S_Player_down (C : Addr) : AF := fun es P => ∃ s p k d x, es = [enP C p, .sh (.int (k : Nat)), .sh (dDec d)] ∧ s ≤ 500 ∧ PstOk s p ∧ k < wide p.lay ∧ look p k = some x ∧ P (.sh (dOut (pdown p k (carried x.2 d)).1)) [enP C (pdown p k (carried x.2 d)).2, .no, .no]
theorem look_ok {p : Pst} {s k : Nat} {x : Nat × Act} (ok : PstOk s p) (hk : k < wide p.lay) (h : look p k = some x) : x.1 < p.lay.length ∧ x.2 = actAt p.lay x.1 k ∧ actOk x.1 p.lay.length x.2 = true ∧ isThr x.2 = false := by
  unfold look at h
  have h1 := List.mem_of_getLast? h
  obtain ⟨h2, h3⟩ := List.mem_filter.mp h1
  obtain ⟨n, h4, h5⟩ := List.mem_map.mp h2
  subst h5
  obtain ⟨r, _, _, h6⟩ := act_at ok.lay (here_lt h4) hk
  exact ⟨here_lt h4, rfl, h6, by simpa using h3⟩
theorem carried_cases (a : Act) (d : Option Bool) (h : isThr a = false) : carried a d = .none ∨ (∃ c, carried a d = .code c) ∨ (∃ n, carried a d = .layer n) ∨ (∃ n, carried a d = .lock n) ∨ ∃ n, carried a d = .once n := by
  cases a with
  | dual c hh t r =>
    cases hh <;> by_cases e : d = some true <;> simp [carried, e, Hold.act]
  | through => simp [isThr] at h
  | _ => simp [carried]
theorem carried_str {n m : Nat} {a : Act} (d : Option Bool) (ok : actOk n m a = true) : ∀ c, carried a d = .code c → codeOk c = true := by
  intro c e
  cases a with
  | dual c' h t r =>
    simp [actOk] at ok
    cases h with
    | code c2 =>
      by_cases q : d = some true
      · simp [carried, q] at e
        subst e
        exact ok.1.1.1.1
      · simp [carried, q, Hold.act] at e
        subst e
        exact ok.1.1.1.2
    | layer n2 =>
      by_cases q : d = some true
      · simp [carried, q] at e
        subst e
        exact ok.1.1.1.1
      · simp [carried, q, Hold.act] at e
  | code c2 =>
    simp [carried] at e
    subst e
    exact ok
  | _ => simp [carried] at e
abbrev s_Player_down : Stmt := inClass (top 31) 6
theorem sc_Player_down : FnScope ["self", "key", "decide", "what", "word", "value"] ["self", "key", "decide"] (defScope s_Player_down) := ⟨rfl, rfl, rfl, by decide +kernel, rfl, by decide +kernel, by decide +kernel⟩
theorem ok_Player_down (B : Bl mg) {CP : Addr} (HP : ClsO K CP NP) (F_carried_out : Fx P w K mg base 2 "carried_out" ["action", "decide"] (pf R_carried_out)) (M_Player_look : Mx P w K mg base 3 CP "look" ["self", "key"] (S_Player_look CP)) {f : Addr} {fd : FuncData} (A : AtM K CP "down" "Player.down" s_Player_down f fd) : Mx P w K mg base 4 CP "down" ["self", "key", "decide"] (S_Player_down CP) := by
  refine ⟨f, fd, ok_def A.fn sc_Player_down [0] ?len ?body, A.cls, A.meth, (A.fn.binds fun _ _ _ _ _ _ us hl => match us, hl with | [_, _, _], _ => rfl)⟩
  case body =>
    intro cdv A outer s H E hr
    refine ⟨_, (ass_cons (as_set 3 sc_Player_down.nd (ax_fn F_carried_out (hr.mono (by decide)) (by rfl) (axa_cons (ax_ix (ax_meth (N := NP) M_Player_look (hr.mono (by decide)) (pe_v 0) (pl_slot 0) (by decide) (axa_cons (ax_v 1) axa_nil)) ax_int) (axa_cons (ax_v 2) axa_nil))))
      (ass_cons (as_fld 0 2 (N := NP) HP.cls (HP.na _ (by decide)) NP_nd ax_non)
      (ass_cons (as_if (at_eq hr.units (ax_v 3) ax_str) (ass_one (as_ret (ax_tup axa_nil))) ass_nil)
      (ass_cons (as_asg (ax_v 3) (ag_tup (n := 2) rfl (ags_cons (ag_n 4 sc_Player_down.nd) (ags_cons (ag_n 5 sc_Player_down.nd) ags_nil))))
      (ass_cons (as_match (ax_v 4) (acs_str (ass_cons (as_dput hr.units (pe_at 0) (pl_fld (i := 0) (n := 3) (N := NP) HP.cls (HP.na _ (by decide)) (by rfl) NP_nd) (ax_v 1) (ax_v 3))
      (ass_one (as_ret (ax_tup (axa_cons ax_str (axa_cons (ax_v 5) axa_nil)))))) (acs_str (ass_one (as_dput hr.units (pe_at 0) (pl_fld (i := 0) (n := 3) (N := NP) HP.cls (HP.na _ (by decide)) (by rfl) NP_nd) (ax_v 1) (ax_v 3))) (acs_str (ass_one (as_if (at_din hr.units (ax_v 5) (pe_at 0) (pl_fld (i := 0) (n := 1) (N := NP) HP.cls (HP.na _ (by decide)) (by rfl) NP_nd)) (ass_one (as_ddel (pe_at 0) (pl_fld (i := 0) (n := 1) (N := NP) HP.cls (HP.na _ (by decide)) (by rfl) NP_nd) (ax_v 5))) (ass_one (as_dput hr.units (pe_at 0) (pl_fld (i := 0) (n := 1) (N := NP) HP.cls (HP.na _ (by decide)) (by rfl) NP_nd) (ax_v 5) ax_bl)))) (acs_any (ass_one (as_fld 0 2 (N := NP) HP.cls (HP.na _ (by decide)) NP_nd (ax_v 5))))))))
      (ass_one (as_ret (ax_tup axa_nil)))))))), ?_⟩
    rintro es P ⟨s, p, k, d, ⟨n, a⟩, rfl, hs, ok, hk, hx, h⟩
    show sSeq _ _ _ [enP CP p, .sh (.int k), .sh (dDec d), .no, .no, .no]
    obtain ⟨x1, x2, x3, x4⟩ := look_ok ok hk hx
    have hl : p.bound.length < sizeLine := sz_lt (Nat.le_trans ok.bl hs)
    have hl2 : p.locked.length < sizeLine := sz_lt (Nat.le_trans ok.lk hs)
    simp [enP]
    refine ⟨s, p, k, (n, a), rfl, hs, ok, hk, hx, _, Or.inr rfl, _, rfl, ?_⟩
    refine ⟨a, d, rfl, ?_⟩
    have x5 : ∀ c, carried a d = .code c → codeOk c = true := carried_str d x3
    rcases carried_cases a d x4 with e | ⟨c, e⟩ | ⟨n, e⟩ | ⟨n, e⟩ | ⟨n, e⟩
    · rw [e] at h ⊢
      simp [enP]
      exact h
    · have hc := code_ok (x5 c e)
      have q := kvB_put p.bound k (.code c)
      rw [e] at h ⊢
      simp at q
      simp [enP, hc, kvB_len, hl, q]
      exact h
    · have q := kvB_put p.bound k (.layer n)
      rw [e] at h ⊢
      simp at q
      simp [enP, kvB_len, hl, q]
      exact h
    · rw [e] at h ⊢
      simp [enP, kvL_has, kvL_len, hl2]
      by_cases q : n ∈ p.locked
      · simp [pdown, q] at h
        simp [q, kvL_del]
        exact h
      · simp [pdown, q] at h
        simp [q, kvL_put _ _ q]
        exact h
    · rw [e] at h ⊢
      simp [enP]
      exact h
  case len =>
    rintro es P ⟨_, _, _, _, _, rfl, _⟩
    rfl
def S_Player_up (C : Addr) : AF := fun es P => ∃ s p k, es = [enP C p, .sh (.int (k : Nat))] ∧ s ≤ 500 ∧ PstOk s p ∧ P (.sh (dOut (pup p k).1)) [enP C (pup p k).2, .no]
abbrev s_Player_up : Stmt := inClass (top 31) 7
theorem sc_Player_up : FnScope ["self", "key", "word", "value"] ["self", "key"] (defScope s_Player_up) := ⟨rfl, rfl, rfl, by decide +kernel, rfl, by decide +kernel, by decide +kernel⟩
theorem ok_Player_up (B : Bl mg) {CP : Addr} (HP : ClsO K CP NP)  {f : Addr} {fd : FuncData} (A : AtM K CP "up" "Player.up" s_Player_up f fd) : Mx P w K mg base 1 CP "up" ["self", "key"] (S_Player_up CP) := by
  refine ⟨f, fd, ok_def A.fn sc_Player_up [0] ?len ?body, A.cls, A.meth, (A.fn.binds fun _ _ _ _ _ _ us hl => match us, hl with | [_, _], _ => rfl)⟩
  case body =>
    intro cdv A outer s H E hr
    refine ⟨_, (ass_cons (as_if (at_dnotin hr.units (ax_v 1) (pe_at 0) (pl_fld (i := 0) (n := 3) (N := NP) HP.cls (HP.na _ (by decide)) (by rfl) NP_nd)) (ass_one (as_ret (ax_tup axa_nil))) ass_nil)
      (ass_cons (as_asg (ax_dpop (pe_at 0) (pl_fld (i := 0) (n := 3) (N := NP) HP.cls (HP.na _ (by decide)) (by rfl) NP_nd) (ax_v 1) ⟨rfl, rfl, rfl, rfl⟩) (ag_tup (n := 2) rfl (ags_cons (ag_n 2 sc_Player_up.nd) (ags_cons (ag_n 3 sc_Player_up.nd) ags_nil))))
      (ass_one (as_ret (ax_if (at_eq hr.units (ax_v 2) ax_str) (ax_tup (axa_cons ax_str (axa_cons (ax_v 3) axa_nil))) (ax_tup axa_nil)))))), ?_⟩
    rintro es P ⟨s, p, k, rfl, hs, ok, h⟩
    show sSeq _ _ _ [enP CP p, .sh (.int k), .no, .no]
    simp [enP, kvB_has]
    cases q : p.bound.find? fun x => x.1 == k with
    | none =>
      have e : (p.bound.any fun x => x.1 == k) = false := by
        rw [List.find?_eq_none] at q
        rw [List.any_eq_false]
        exact q
      simp [pup, q] at h
      simp at e
      exact Or.inr ⟨e, h⟩
    | some x =>
      obtain ⟨kx, hx⟩ := x
      have hk : kx = k := by
        have h1 := List.find?_some q
        simpa using h1
      subst hk
      have hm : (kx, hx) ∈ p.bound := List.mem_of_find?_eq_some q
      have hb := ok.bd _ hm
      simp [pup, q] at h
      refine Or.inl ⟨⟨hx, hm⟩, dHold hx, by rw [kvB_get, q]; rfl, ?_⟩
      rw [kvB_del]
      cases hx with
      | code c =>
        simp at h
        simp
        exact h
      | layer n =>
        simp at h
        simp
        exact h
  case len =>
    rintro es P ⟨_, _, _, rfl, _⟩
    rfl
theorem PstOk.up {s : Nat} {p : Pst} (ok : PstOk s p) {t : Nat} (h : s ≤ t) : PstOk t p := ⟨ok.lay, Nat.le_trans ok.lk h, Nat.le_trans ok.bl h, ok.bd⟩
theorem pInit_ok {l : Lay} (ok : LayOk l) (s : Nat) : PstOk s (pInit l) := ⟨ok, Nat.zero_le _, Nat.zero_le _, fun b hb => by cases hb⟩
theorem bput_len (b : List (Nat × Hold)) (k : Nat) (h : Hold) : (bput b k h).length ≤ b.length + 1 := by
  unfold bput
  split <;> simp
theorem bput_mem {b : List (Nat × Hold)} {k : Nat} {h : Hold} {x : Nat × Hold} (hx : x ∈ bput b k h) : x ∈ b ∨ x.2 = h := by
  unfold bput at hx
  split at hx
  · obtain ⟨y, hy, e⟩ := List.mem_map.mp hx
    split at e
    · exact Or.inr (by rw [← e])
    · exact Or.inl (e ▸ hy)
  · rcases List.mem_append.mp hx with z | z
    · exact Or.inl z
    · rw [List.mem_singleton.mp z]
      exact Or.inr rfl
theorem pdown_lay (p : Pst) (k : Nat) (a : Act) : (pdown p k a).2.lay = p.lay := by cases a <;> rfl
theorem pup_lay (p : Pst) (k : Nat) : (pup p k).2.lay = p.lay := by
  unfold pup
  split <;> rfl
theorem pdown_ok {s : Nat} {p : Pst} (ok : PstOk s p) {k : Nat} (hk : k < wide p.lay) {x : Nat × Act} (hx : look p k = some x) (d : Option Bool) : PstOk (s + 1) (pdown p k (carried x.2 d)).2 := by
  obtain ⟨x1, x2, x3, x4⟩ := look_ok ok hk hx
  have x5 : ∀ c, carried x.2 d = .code c → codeOk c = true := carried_str d x3
  have x6 : ∀ n, carried x.2 d = .layer n → (decide (1 ≤ n) && decide (n < p.lay.length)) = true := by
    intro n e
    obtain ⟨i, a⟩ := x
    cases a with
    | dual c hh t r =>
      simp [actOk] at x3
      cases hh with
      | code c2 => by_cases q : d = some true <;> simp [carried, q, Hold.act] at e
      | layer n2 =>
        by_cases q : d = some true
        · simp [carried, q] at e
        · simp [carried, q, Hold.act] at e
          subst e
          exact x3.1.1.1.2
    | layer n2 =>
      simp [carried] at e
      subst e
      exact x3
    | _ => simp [carried] at e
  have bl : ∀ h, (bput p.bound k h).length ≤ s + 1 := fun h => Nat.le_trans (bput_len _ _ _) (Nat.succ_le_succ ok.bl)
  have lk1 : p.locked.length ≤ s + 1 := Nat.le_succ_of_le ok.lk
  have bl1 : p.bound.length ≤ s + 1 := Nat.le_succ_of_le ok.bl
  rcases carried_cases x.2 d x4 with e | ⟨c, e⟩ | ⟨n, e⟩ | ⟨n, e⟩ | ⟨n, e⟩
  · rw [e]
    exact ⟨ok.lay, lk1, bl1, ok.bd⟩
  · rw [e]
    refine ⟨ok.lay, lk1, bl _, fun b hb => ?_⟩
    rcases bput_mem hb with z | z
    · exact ok.bd b z
    · rw [z]
      exact x5 c e
  · rw [e]
    refine ⟨ok.lay, lk1, bl _, fun b hb => ?_⟩
    rcases bput_mem hb with z | z
    · exact ok.bd b z
    · rw [z]
      exact x6 n e
  · rw [e]
    refine ⟨ok.lay, ?_, bl1, ok.bd⟩
    show (if p.locked.contains n then p.locked.filter (· ≠ n) else p.locked ++ [n]).length ≤ s + 1
    split
    · exact Nat.le_trans (List.length_filter_le _ _) lk1
    · simp
      exact ok.lk
  · rw [e]
    exact ⟨ok.lay, lk1, bl1, ok.bd⟩
theorem pup_ok {s : Nat} {p : Pst} (ok : PstOk s p) (k : Nat) : PstOk s (pup p k).2 := by
  unfold pup
  split
  · exact ok
  · exact ⟨ok.lay, ok.lk, Nat.le_trans (List.length_filter_le _ _) ok.bl, fun b hb => ok.bd b (List.mem_filter.mp hb).1⟩
/-- the lowest layer is always on, and nothing there falls through -/
theorem look_some {s : Nat} {p : Pst} (ok : PstOk s p) {k : Nat} (hk : k < wide p.lay) : ∃ x, look p k = some x := by
  unfold look
  have n1 := ok.lay.n1
  have h0 : 0 ∈ here p := by
    unfold here
    rw [List.mem_filter]
    exact ⟨by simp; omega, rfl⟩
  obtain ⟨r, _, _, h3⟩ := act_at ok.lay (here_lt h0) hk
  have h4 : isThr (actAt p.lay 0 k) = false := by
    cases q : actAt p.lay 0 k <;> rw [q] at h3 <;> simp [actOk, isThr] at h3 ⊢
  have h5 : (0, actAt p.lay 0 k) ∈ (((here p).map fun n => (n, actAt p.lay n k)).filter fun x => !isThr x.2) := List.mem_filter.mpr ⟨List.mem_map.mpr ⟨0, h0, rfl⟩, by simp [h4]⟩
  cases q : (((here p).map fun n => (n, actAt p.lay n k)).filter fun x => !isThr x.2).getLast? with
  | some x => exact ⟨x, rfl⟩
  | none =>
    rw [List.getLast?_eq_none_iff] at q
    rw [q] at h5
    cases h5
end HT2
set_option maxRecDepth 100000
set_option maxHeartbeats 4000000
namespace HT2
open PySem PySem.Spec PyProof.Rows L2 StX PL
variable {P : Program} {w : World} {K : PySem.W.Frag} {mg : Str → Option Value} {base : Heap}
def outOk : Out → Prop
  | .no => True
  | .press c => codeOk c = true
  | .release c => codeOk c = true
theorem out_shape {o : Out} (h : outOk o) : (dOut o).canLay0 = true ∧ (dOut o).depth ≤ 64 := by
  cases o <;> simp <;> exact code_ok h
theorem pdown_out {s : Nat} {p : Pst} (ok : PstOk s p) {k : Nat} (hk : k < wide p.lay) {x : Nat × Act} (hx : look p k = some x) (d : Option Bool) : outOk (pdown p k (carried x.2 d)).1 := by
  obtain ⟨x1, x2, x3, x4⟩ := look_ok ok hk hx
  have x5 : ∀ c, carried x.2 d = .code c → codeOk c = true := carried_str d x3
  rcases carried_cases x.2 d x4 with e | ⟨c, e⟩ | ⟨n, e⟩ | ⟨n, e⟩ | ⟨n, e⟩ <;> rw [e]
  · trivial
  · exact x5 c e
  · trivial
  · trivial
  · trivial
theorem pup_out {s : Nat} {p : Pst} (ok : PstOk s p) (k : Nat) : outOk (pup p k).1 := by
  unfold pup
  split
  · trivial
  · rename_i x q
    have hb := ok.bd _ (List.mem_of_find?_eq_some q)
    obtain ⟨kx, hx⟩ := x
    cases hx with
    | code c => exact hb
    | layer n => trivial
abbrev Stp := Option (Nat × Act) × Out
def dTk : Option (Nat × Act) → PyData
  | none => .none
  | some x => .tuple [.int (x.1 : Nat), dAct x.2]
@[simp] theorem dTk_n : dTk none = .none := rfl
@[simp] theorem dTk_s (x : Nat × Act) : dTk (some x) = .tuple [.int (x.1 : Nat), dAct x.2] := rfl
def dStp (x : Stp) : PyData := .tuple [dTk x.1, dOut x.2]
@[simp] theorem dStp_eq (x : Stp) : dStp x = .tuple [dTk x.1, dOut x.2] := rfl
def stepF (rec : Rec) (st : List Stp × Pst) (e : Ev × Nat) : List Stp × Pst :=
  if e.1.d then (match look st.2 e.1.k with
    | some x => (st.1 ++ [(some x, (pdown st.2 e.1.k (carried x.2 (decided rec e.2 x.2))).1)], (pdown st.2 e.1.k (carried x.2 (decided rec e.2 x.2))).2)
    | none => st)
  else (st.1 ++ [(none, (pup st.2 e.1.k).1)], (pup st.2 e.1.k).2)
def run (l : Lay) (rec : Rec) : List Stp × Pst := rec.zipIdx.foldl (stepF rec) ([], pInit l)
def keysOk (l : Lay) (rec : Rec) : Prop := ∀ e ∈ rec, e.k < wide l
structure StOk (l : Lay) (n : Nat) (st : List Stp × Pst) : Prop where
  p : PstOk n st.2
  lay : st.2.lay = l
  out : ∀ x ∈ st.1, outOk x.2
  len : st.1.length = n
theorem stepF_ok {l : Lay} {rec : Rec} {n : Nat} {st : List Stp × Pst} (ok : StOk l n st) {e : Ev × Nat} (hk : e.1.k < wide l) : StOk l (n + 1) (stepF rec st e) := by
  have hk' : e.1.k < wide st.2.lay := by rw [ok.lay]; exact hk
  unfold stepF
  split
  · obtain ⟨x, hx⟩ := look_some ok.p hk'
    rw [hx]
    refine ⟨pdown_ok ok.p hk' hx _, (pdown_lay _ _ _).trans ok.lay, fun y hy => ?_, by simp [ok.len]⟩
    rcases List.mem_append.mp hy with z | z
    · exact ok.out y z
    · rw [List.mem_singleton.mp z]
      exact pdown_out ok.p hk' hx _
  · refine ⟨(pup_ok ok.p _).up (Nat.le_succ _), (pup_lay _ _).trans ok.lay, fun y hy => ?_, by simp [ok.len]⟩
    rcases List.mem_append.mp hy with z | z
    · exact ok.out y z
    · rw [List.mem_singleton.mp z]
      exact pup_out ok.p _
theorem run_ok0 {l : Lay} (hl : LayOk l) {rec : Rec} : ∀ q : List (Ev × Nat), (∀ e ∈ q, e.1.k < wide l) → StOk l q.length (q.foldl (stepF rec) ([], pInit l)) := by
  have gen : ∀ (q : List (Ev × Nat)) (st : List Stp × Pst) (n : Nat), (∀ e ∈ q, e.1.k < wide l) → StOk l n st → StOk l (n + q.length) (q.foldl (stepF rec) st) := by
    intro q
    induction q with
    | nil => exact fun st n _ ok => ok
    | cons e q ih =>
      intro st n h ok
      have h1 := ih _ (n + 1) (fun x hx => h x (List.mem_cons_of_mem _ hx)) (stepF_ok (rec := rec) ok (h e List.mem_cons_self))
      have e1 : n + (e :: q).length = n + 1 + q.length := by simp; omega
      rw [e1]
      exact h1
  intro q h
  have h1 := gen q ([], pInit l) 0 h ⟨pInit_ok hl _, rfl, fun x hx => (by cases hx), rfl⟩
  rw [Nat.zero_add] at h1
  exact h1
theorem act_str {n m : Nat} {a : Act} (ok : actOk n m a = true) : actStr a := by
  cases a <;> simp [actOk] at ok <;> simp [actStr]
  case code c => exact code_ok ok
  case dual c h t r =>
    have h3 : PyData.strOk r = true := by rcases ok.2 with (e | e) | e <;> rw [e] <;> simp
    refine ⟨code_ok ok.1.1.1.1, h3, ?_⟩
    cases h with
    | code d => exact code_ok ok.1.1.1.2
    | layer n => trivial
def S_steps_of : AF := fun es P => ∃ (l : Lay) (rec : Rec), es = [.sh (dLay l), .sh (dRec rec)] ∧ LayOk l ∧ rec.length ≤ 400 ∧ keysOk l rec ∧ P (.ow (fstO (.list ((run l rec).1.map dStp)))) [.no, .no]
abbrev s_steps_of : Stmt := top 35
theorem sc_steps_of : FnScope ["layout", "record", "player", "found", "number", "tick", "key", "way", "taken"] ["layout", "record"] (defScope s_steps_of) := ⟨rfl, rfl, rfl, by decide +kernel, rfl, by decide +kernel, by decide +kernel⟩
theorem ok_steps_of (B : Bl mg) {CP : Addr} (HP : ClsO K CP NP) (C_Player : Cx1 P w K mg base 1 "Player" CP ["self", "layout"] (S_Player___init__ CP)) (M_Player_look : Mx P w K mg base 3 CP "look" ["self", "key"] (S_Player_look CP)) (M_Player_down : Mx P w K mg base 4 CP "down" ["self", "key", "decide"] (S_Player_down CP)) (M_Player_up : Mx P w K mg base 1 CP "up" ["self", "key"] (S_Player_up CP)) (F_decided : Fx P w K mg base 3 "decided" ["record", "number", "action"] (pf R_decided)) {f : Addr} {fd : FuncData} (A : At K mg "steps_of" "steps_of" s_steps_of f fd) : Fx P w K mg base 5 "steps_of" ["layout", "record"] (S_steps_of) := by
  refine ⟨f, fd, ok_def A.fn sc_steps_of [] ?len ?body, A.mg, A.fn.kp, (A.fn.binds fun _ _ _ _ _ _ us hl => match us, hl with | [_, _], _ => rfl)⟩
  case body =>
    intro cdv A outer s H E hr
    refine ⟨_, (ass_cons (as_par (i := 2) (j := 3) rfl sc_steps_of.nd (axa_cons (ax_make C_Player (hr.mono (by decide)) (by rfl) (axa_cons (ax_v 0) axa_nil)) (axa_cons (ax_lstO axa_nil) axa_nil)))
      (ass_cons (as_for PassesOwn.never rfl (ai_enum (by rfl) B.enumerate (axa_cons (ax_v 1) axa_nil)) (ag_tup (n := 2) rfl (ags_cons (ag_n 4 sc_steps_of.nd) (ags_cons (ag_tup (n := 3) rfl (ags_cons (ag_n 5 sc_steps_of.nd) (ags_cons (ag_n 6 sc_steps_of.nd) (ags_cons (ag_n 7 sc_steps_of.nd) ags_nil)))) ags_nil)))
        (ass_one (as_if (at_eq hr.units (ax_v 7) ax_str) (ass_cons (as_set 8 sc_steps_of.nd (ax_meth (N := NP) M_Player_look (hr.mono (by decide)) (pe_v 2) (pl_slot 2) (by decide) (axa_cons (ax_v 6) axa_nil)))
      (ass_one (as_append 3 (ax_tup (axa_cons (ax_v 8) (axa_cons (ax_meth (N := NP) M_Player_down (hr.mono (by decide)) (pe_v 2) (pl_slot 2) (by decide) (axa_cons (ax_v 6) (axa_cons (ax_fn F_decided (hr.mono (by decide)) (by rfl) (axa_cons (ax_v 1) (axa_cons (ax_v 4) (axa_cons (ax_ix (ax_v 8) ax_int) axa_nil)))) axa_nil))) axa_nil)))))) (ass_one (as_append 3 (ax_tup (axa_cons ax_non (axa_cons (ax_meth (N := NP) M_Player_up (hr.mono (by decide)) (pe_v 2) (pl_slot 2) (by decide) (axa_cons (ax_v 6) axa_nil)) axa_nil))))))))
      (ass_one (as_ret (ax_tupF (ax_sh (ax_mv 3)) (ax_mv 2)))))), ?_⟩
    rintro es P ⟨l, rec, rfl, hl, hz, hk, h⟩
    show sSeq _ _ _ [.sh (dLay l), .sh (dRec rec), .no, .no, .no, .no, .no, .no, .no]
    simp
    refine ⟨l, rfl, rfl, ?_⟩
    refine for_t rec.zipIdx (fun p => .tuple [.int (p.2 : Nat), dEv p.1]) (fun q Γ => ∃ a b c d e, Γ = [.sh (dLay l), .sh (dRec rec), enP CP (q.foldl (stepF rec) ([], pInit l)).2, .lst (((q.foldl (stepF rec) ([], pInit l)).1.map dStp).map .sh), a, b, c, d, e]) (enumD_map _ _) ⟨_, _, _, _, _, rfl⟩ ?_ ?_
    · rintro q ⟨⟨et, ek, ed⟩, n⟩ q2 Γ2 e ⟨a, b, c, d, e', rfl⟩
      obtain ⟨e2, en, hn⟩ := enum_split e
      have hq : ∀ e ∈ q, e.1.k < wide l := fun x hx => hk x.1 (by rw [e2]; exact List.mem_append_left _ (List.mem_map.mpr ⟨x, hx, rfl⟩))
      have ok := run_ok0 hl (rec := rec) q hq
      rw [List.foldl_append]
      have hql : q.length < rec.length := by
        have := congrArg List.length e2
        simp at this
        omega
      generalize q.foldl (stepF rec) ([], pInit l) = st at ok ⊢
      obtain ⟨fs, p⟩ := st
      obtain ⟨ok1, ok2, ok3, ok4⟩ := ok
      simp only at ok1 ok2 ok3 ok4
      have hkk : ek < wide p.lay := by
        rw [ok2]
        exact hk ⟨et, ek, ed⟩ (by rw [e2]; simp)
      have hfs : fs.length < sizeLine := sz_lt (by omega : fs.length ≤ 400)
      cases ed
      · simp
        refine ⟨_, rfl, q.length, p, ek, rfl, by omega, ok1, ?_⟩
        simp [stepF, hfs]
      · obtain ⟨⟨x1, x2⟩, hx⟩ := look_some ok1 hkk
        obtain ⟨y1, y2, y3, y4⟩ := look_ok ok1 hkk hx
        simp
        refine ⟨_, rfl, q.length, p, ek, (x1, x2), rfl, by omega, ok1, hkk, hx, _, rfl, _, rfl, _, rfl, _, Or.inr rfl, _, rfl, ?_⟩
        refine ⟨rec, n, x2, rfl, by omega, hz, act_str y3, ?_⟩
        refine ⟨q.length, p, ek, decided rec n x2, (x1, x2), rfl, by omega, ok1, hkk, hx, ?_⟩
        simp [stepF, hfs, hx]
    · rintro Γ2 ⟨a, b, c, d, e', rfl⟩
      simp [enP]
      exact h
  case len =>
    rintro es P ⟨_, _, rfl, _⟩
    rfl
theorem keys_of {l : Lay} (hl : LayOk l) {rec : Rec} (ok : RecOk (wide l - 1) rec) : keysOk l rec := fun e he => by
  obtain ⟨p, q, e2⟩ := List.append_of_mem he
  have h1 := (ok.steps (p.map Ev.s) e.s (q.map Ev.s) (by rw [e2, List.map_append, List.map_cons])).1
  have h2 := hl.w1
  have h3 : e.k ≤ wide l - 1 := h1
  omega
def outsF (l : Lay) (rec : Rec) : List Out := (run l rec).1.map (·.2)
theorem run_ok {l : Lay} (hl : LayOk l) {rec : Rec} (hk : keysOk l rec) : StOk l rec.length (run l rec) := by
  have h := run_ok0 hl (rec := rec) rec.zipIdx (fun e he => hk e.1 (List.fst_mem_of_mem_zipIdx he))
  rw [List.length_zipIdx] at h
  exact h
theorem outsF_ok {l : Lay} (hl : LayOk l) {rec : Rec} (hk : keysOk l rec) : ∀ o ∈ outsF l rec, outOk o := fun o ho => by
  obtain ⟨x, hx, e⟩ := List.mem_map.mp ho
  subst e
  exact (run_ok hl hk).out x hx
theorem outsF_len {l : Lay} (hl : LayOk l) {rec : Rec} (hk : keysOk l rec) : (outsF l rec).length = rec.length := by
  unfold outsF
  rw [List.length_map]
  exact (run_ok hl hk).len
def R_played : List PyData → (PyData → Prop) → Prop := fun ds P => ∃ (l : Lay) (rec : Rec), ds = [dLay l, dRec rec] ∧ LayOk l ∧ RecOk (wide l - 1) rec ∧ P (.list ((outsF l rec).map dOut))
abbrev s_played : Stmt := top 36
theorem sc_played : FnScope ["layout", "record", "taken", "output"] ["layout", "record"] (defScope s_played) := ⟨rfl, rfl, rfl, by decide +kernel, rfl, by decide +kernel, by decide +kernel⟩
theorem ok_played (B : Bl mg) (F_require_layout : Fx P w K mg base 5 "require_layout" ["layout"] (pf R_require_layout)) (F_require_record : Fx P w K mg base 6 "require_record" ["layout", "record"] (pf R_require_record)) (F_steps_of : Fx P w K mg base 5 "steps_of" ["layout", "record"] (S_steps_of)) {f : Addr} {fd : FuncData} (A : At K mg "played" "played" s_played f fd) : Fx P w K mg base 7 "played" ["layout", "record"] (pf R_played) := by
  refine ok_pf A sc_played (A.fn.binds fun _ _ _ _ _ _ us hl => match us, hl with | [_, _], _ => rfl) ?len fun cdv A outer s H E hr => ⟨_, (ass_cons (as_expr (ax_fn F_require_layout (hr.mono (by decide)) (by rfl) (axa_cons (ax_v 0) axa_nil)))
      (ass_cons (as_expr (ax_fn F_require_record (hr.mono (by decide)) (by rfl) (axa_cons (ax_v 0) (axa_cons (ax_v 1) axa_nil))))
      (ass_one (as_ret (ax_sh (ax_lc (own := [("taken", 2), ("output", 3)]) rfl sc_played.nd (ai_list (ax_fst (ax_fn F_steps_of (hr.mono (by decide)) (by rfl) (axa_cons (ax_v 0) (axa_cons (ax_v 1) axa_nil))))) (blkOk_by (show blkC ["layout", "record", "taken", "output"] (defScope s_played) _ [("taken", 2), ("output", 3)] = true from by decide +kernel)) (fun _ _ _ _ _ => ag_c (ag_tup (n := 2) rfl (ags_cons (ag_n 2 sc_played.nd) (ags_cons (ag_n 3 sc_played.nd) ags_nil)))) (fun _ _ _ _ _ => ats_nil) (fun _ _ _ _ _ => ax_c (ax_v 3)))))))), ?body⟩
  case len =>
    rintro ds P ⟨_, _, rfl, _⟩
    rfl
  case body =>
    rintro ds Q ⟨l, rec, rfl, hl, hr, h⟩
    show sSeq _ _ _ [.sh (dLay l), .sh (dRec rec), .no, .no]
    have hk := keys_of hl hr
    simp
    refine ⟨l, rfl, hl, l, rec, rfl, hl, hr, l, rec, rfl, hl, hr.len, hk, _, rfl, _, rfl, ?_⟩
    refine lc_m (run l rec).1 dStp (fun x => dOut x.2) rfl (by rw [(run_ok hl hk).len]; exact sz_lt hr.len) ?_ ?_
    · intro x hx KT KF k
      simp
      exact k [.sh (dLay l), .sh (dRec rec), .sh (dTk x.1), .sh (dOut x.2)] rfl
    · simp
      have e : (run l rec).1.map (fun x => dOut x.2) = (outsF l rec).map dOut := by
        unfold outsF
        rw [List.map_map]
        rfl
      rw [e]
      exact h
def isNo : Out → Bool
  | .no => true
  | _ => false
theorem out_no (o : Out) : PyData.eqv (dOut o) (.tuple []) = isNo o := by cases o <;> simp [isNo]
def flatF (l : Lay) (rec : Rec) : List Out := (outsF l rec).filter fun o => !isNo o
def R_flat : List PyData → (PyData → Prop) → Prop := fun ds P => ∃ (l : Lay) (rec : Rec), ds = [dLay l, dRec rec] ∧ LayOk l ∧ RecOk (wide l - 1) rec ∧ P (.list ((flatF l rec).map dOut))
abbrev s_flat : Stmt := top 37
theorem sc_flat : FnScope ["layout", "record", "output"] ["layout", "record"] (defScope s_flat) := ⟨rfl, rfl, rfl, by decide +kernel, rfl, by decide +kernel, by decide +kernel⟩
theorem ok_flat (B : Bl mg) (F_played : Fx P w K mg base 7 "played" ["layout", "record"] (pf R_played)) {f : Addr} {fd : FuncData} (A : At K mg "flat" "flat" s_flat f fd) : Fx P w K mg base 8 "flat" ["layout", "record"] (pf R_flat) := by
  refine ok_pf A sc_flat (A.fn.binds fun _ _ _ _ _ _ us hl => match us, hl with | [_, _], _ => rfl) ?len fun cdv A outer s H E hr => ⟨_, (ass_one (as_ret (ax_sh (ax_lc (own := [("output", 2)]) rfl sc_flat.nd (ai_list (ax_fn F_played (hr.mono (by decide)) (by rfl) (axa_cons (ax_v 0) (axa_cons (ax_v 1) axa_nil)))) (blkOk_by (show blkC ["layout", "record", "output"] (defScope s_flat) _ [("output", 2)] = true from by decide +kernel)) (fun _ _ _ _ _ => (ag_n 2 sc_flat.nd)) (fun _ _ _ _ _ => ats_c (ats_one (at_ne hr.units (ax_v 2) (ax_tup axa_nil)))) (fun _ _ _ _ _ => ax_c (ax_v 2)))))), ?body⟩
  case len =>
    rintro ds P ⟨_, _, rfl, _⟩
    rfl
  case body =>
    rintro ds Q ⟨l, rec, rfl, hl, hr, h⟩
    show sRet _ _ [.sh (dLay l), .sh (dRec rec), .no]
    have hk := keys_of hl hr
    simp
    refine ⟨l, rec, rfl, hl, hr, _, rfl, ?_⟩
    refine lc_f (outsF l rec) dOut dOut (fun o => !isNo o) rfl (by rw [outsF_len hl hk]; exact sz_lt hr.len) ?_ ?_
    · intro o ho KT KF k1 k2
      have h4 := out_shape (outsF_ok hl hk o ho)
      cases e : isNo o
      · simp [h4, out_no, e]
        exact k1 [.sh (dLay l), .sh (dRec rec), .sh (dOut o)] (by simp [e]) rfl
      · simp [h4, out_no, e]
        exact k2 [.sh (dLay l), .sh (dRec rec), .sh (dOut o)] (by simp [e]) rfl
    · simp
      exact h
end HT2
set_option maxRecDepth 100000
set_option maxHeartbeats 4000000
namespace HT2
open PySem PySem.Spec PyProof.Rows L2 StX PL
variable {P : Program} {w : World} {K : PySem.W.Frag} {mg : Str → Option Value} {base : Heap}
structure Bd where
  i : Nat
  j : Nat
  d : Int
def dBd (b : Bd) : PyData := .tuple [.int b.i, .int b.j, .int b.d]
@[simp] theorem dBd_eq (b : Bd) : dBd b = .tuple [.int b.i, .int b.j, .int b.d] := rfl
def relax (xs : List Int) (b : Bd) : List Int × Bool := match xs[b.i]?, xs[b.j]? with
  | some x, some y => if y < x + b.d then (xs.set b.j (x + b.d), true) else (xs, false)
  | _, _ => (xs, false)
def rnd (bs : List Bd) (st : List Int × Bool) : List Int × Bool := bs.foldl (fun st b => ((relax st.1 b).1, st.2 || (relax st.1 b).2)) st
def liftN (bs : List Bd) : Nat → List Int → Option (List Int)
  | 0, _ => none
  | n + 1, xs => if (rnd bs (xs, false)).2 then liftN bs n (rnd bs (xs, false)).1 else some (rnd bs (xs, false)).1
def lift (bs : List Bd) (xs : List Int) : Option (List Int) := liftN bs (xs.length + 1) xs
def optL : Option (List Int) → PyData
  | none => .none
  | some xs => dInts xs
@[simp] theorem optL_n : optL none = .none := rfl
@[simp] theorem optL_s (xs : List Int) : optL (some xs) = .list (xs.map .int) := rfl
theorem relax_len (xs : List Int) (b : Bd) : (relax xs b).1.length = xs.length := by
  unfold relax
  split
  · split <;> simp
  · rfl
theorem rnd_len (bs : List Bd) : ∀ st : List Int × Bool, (rnd bs st).1.length = st.1.length := by
  induction bs with
  | nil => exact fun _ => rfl
  | cons b bs ih =>
    intro st
    exact (ih _).trans (relax_len _ _)
def bdsOk (m : Nat) (bs : List Bd) : Prop := ∀ b ∈ bs, b.i < m ∧ b.j < m
def R_lifted_numbers : List PyData → (PyData → Prop) → Prop := fun ds P => ∃ (bs : List Bd) (xs : List Int), ds = [.list (bs.map dBd), dInts xs] ∧ bdsOk xs.length bs ∧ xs.length ≤ 900 ∧ P (optL (lift bs xs))
theorem ixN_nat {n i : Nat} (h : i < n) : ixN n (i : Int) = some i := by
  unfold ixN
  simp [h]
abbrev s_lifted_numbers : Stmt := top 28
theorem sc_lifted_numbers : FnScope ["bounds", "begun", "numbers", "turn", "is_changed", "i", "j", "d"] ["bounds", "begun"] (defScope s_lifted_numbers) := ⟨rfl, rfl, rfl, by decide +kernel, rfl, by decide +kernel, by decide +kernel⟩
theorem ok_lifted_numbers (B : Bl mg)  {f : Addr} {fd : FuncData} (A : At K mg "lifted_numbers" "lifted_numbers" s_lifted_numbers f fd) : Fx P w K mg base 1 "lifted_numbers" ["bounds", "begun"] (pf R_lifted_numbers) := by
  refine ok_pf A sc_lifted_numbers (A.fn.binds fun _ _ _ _ _ _ us hl => match us, hl with | [_, _], _ => rfl) ?len fun cdv A outer s H E hr => ⟨_, (ass_cons (as_set 2 sc_lifted_numbers.nd (ax_callTy call_list_of sndC_listO (by rfl) B.list (by decide +kernel) (axa_cons (ax_v 1) axa_nil)))
      (ass_cons (as_for PassesOwn.never rfl (ai_range1 (by rfl) B.range (axa_cons (ax_add (ax_lenO 2 (by rfl) B.len) ax_int) axa_nil)) (ag_n 3 sc_lifted_numbers.nd)
        (ass_cons (as_set 4 sc_lifted_numbers.nd ax_bl)
      (ass_cons (as_for PassesOwn.never rfl (ai_list (ax_v 0)) (ag_tup (n := 3) rfl (ags_cons (ag_n 5 sc_lifted_numbers.nd) (ags_cons (ag_n 6 sc_lifted_numbers.nd) (ags_cons (ag_n 7 sc_lifted_numbers.nd) ags_nil))))
        (ass_one (as_if (at_bool (aw_and (at_notN (ax_ixO 2 (ax_v 5))) (aw_and1 (at_bool (aw_or (at_isN (ax_ixO 2 (ax_v 6))) (aw_or1 (at_lt (ax_ixO 2 (ax_v 6)) (ax_add (ax_ixO 2 (ax_v 5)) (ax_v 7))))))))) (ass_cons (as_setI 2 (ax_add (ax_ixO 2 (ax_v 5)) (ax_v 7)) (ax_v 6))
      (ass_one (as_set 4 sc_lifted_numbers.nd ax_bl))) ass_nil)))
      (ass_one (as_if (at_not (at_val (ax_v 4))) (ass_one (as_ret (ax_sh (ax_mv 2)))) ass_nil)))))
      (ass_one (as_ret ax_non)))), ?body⟩
  case len =>
    rintro ds P ⟨_, _, rfl, _⟩
    rfl
  case body =>
    rintro ds Q ⟨bs, xs, rfl, hb, hz, h⟩
    show sSeq _ _ _ [.sh (.list (bs.map dBd)), .sh (dInts xs), .no, .no, .no, .no, .no, .no]
    simp
    refine ⟨by omega, by omega, ?_⟩
    refine for_t (List.range (xs.length + 1)) (fun (k : Nat) => .int ((0 : Int) + k)) (fun q Γ => ∃ ys a b c d e, Γ = [.sh (.list (bs.map dBd)), .sh (dInts xs), .lst ((ys.map PyData.int).map .sh), a, b, c, d, e] ∧ ys.length = xs.length ∧ Q (optL (liftN bs (xs.length + 1 - q.length) ys))) ?_ ?_ ?_ ?_
    · rw [rangeD_map]
    · exact ⟨xs, .no, .no, .no, .no, .no, by simp, rfl, h⟩
    · rintro q x q2 Γ2 e ⟨ys, a, b, c, d, e', rfl, hl, h⟩
      obtain ⟨rfl, hx⟩ := range_split e
      simp
      refine for_t bs dBd (fun p Γ => ∃ c d e, Γ = [.sh (.list (bs.map dBd)), .sh (dInts xs), .lst (((rnd p (ys, false)).1.map PyData.int).map .sh), .sh (.int q.length), .sh (.bool (rnd p (ys, false)).2), c, d, e]) rfl ?_ ?_ ?_
      · exact ⟨c, d, e', by simp [rnd]⟩
      · rintro p ⟨i, j, dd⟩ p2 Γ2 e2 ⟨c, d, e'', rfl⟩
        have hb1 := hb ⟨i, j, dd⟩ (by rw [e2]; simp)
        have hl2 := (rnd_len p (ys, false)).trans hl
        have er : rnd (p ++ [⟨i, j, dd⟩]) (ys, false) = ((relax (rnd p (ys, false)).1 ⟨i, j, dd⟩).1, (rnd p (ys, false)).2 || (relax (rnd p (ys, false)).1 ⟨i, j, dd⟩).2) := by
          unfold rnd
          rw [List.foldl_append]
          rfl
        rw [er]
        generalize rnd p (ys, false) = st at hl2 ⊢
        obtain ⟨zs, fl⟩ := st
        simp only at hl2 ⊢
        obtain ⟨hi, hj⟩ := hb1
        simp only at hi hj
        obtain ⟨zi, hzi⟩ : ∃ z, zs[i]? = some z := ⟨zs[i], List.getElem?_eq_getElem (by omega)⟩
        obtain ⟨zj, hzj⟩ : ∃ z, zs[j]? = some z := ⟨zs[j], List.getElem?_eq_getElem (by omega)⟩
        have hix : ixN zs.length (j : Int) = some j := ixN_nat (by omega)
        by_cases hc : zj < zi + dd
        · have e3 : relax zs ⟨i, j, dd⟩ = (zs.set j (zi + dd), true) := by simp [relax, hzi, hzj, hc]
          rw [e3]
          simp [hzi, hzj, hc, hix]
          intro hh
          omega
        · have e3 : relax zs ⟨i, j, dd⟩ = (zs, false) := by simp [relax, hzi, hzj, hc]
          rw [e3]
          simp [hzi, hzj, hc]
      · rintro Γ2 ⟨c, d, e'', rfl⟩
        have e4 : xs.length + 1 - q.length = (xs.length - q.length) + 1 := by omega
        rw [e4] at h
        unfold liftN at h
        have hl2 := (rnd_len bs (ys, false)).trans hl
        generalize rnd bs (ys, false) = st at h hl2 ⊢
        obtain ⟨zs, fl⟩ := st
        simp only at h hl2
        cases fl
        · simp at h
          simp
          exact h
        · simp at h
          simp
          refine ⟨zs, rfl, hl2, ?_⟩
          exact h
    · rintro Γ2 ⟨ys, a, b, c, d, e', rfl, hl, h⟩
      simp [liftN] at h
      simp
      exact h
/-! ### presses and their bounds -/
def dWord (b : Bool) : PyData := if b then .str "tap" else .str "hold"
@[simp] theorem dWord_t : dWord true = .str "tap" := rfl
@[simp] theorem dWord_f : dWord false = .str "hold" := rfl
theorem dWord_dec (b : Bool) : dWord b = dDec (some b) := by cases b <;> rfl
def pressB (b : Bool) (n j : Nat) (t : Int) : Bd := if b then ⟨j, n, 1 - t⟩ else ⟨n, j, t⟩
def R_press_bound : List PyData → (PyData → Prop) → Prop := fun ds P => ∃ (b : Bool) (n j : Nat) (t : Int), ds = [dWord b, .int n, .int j, .int t] ∧ P (dBd (pressB b n j t))
abbrev s_press_bound : Stmt := top 41
theorem sc_press_bound : FnScope ["word", "down", "up", "time"] ["word", "down", "up", "time"] (defScope s_press_bound) := ⟨rfl, rfl, rfl, by decide +kernel, rfl, by decide +kernel, by decide +kernel⟩
theorem ok_press_bound (B : Bl mg)  {f : Addr} {fd : FuncData} (A : At K mg "press_bound" "press_bound" s_press_bound f fd) : Fx P w K mg base 1 "press_bound" ["word", "down", "up", "time"] (pf R_press_bound) := by
  refine ok_pf A sc_press_bound (A.fn.binds fun _ _ _ _ _ _ us hl => match us, hl with | [_, _, _, _], _ => rfl) ?len fun cdv A outer s H E hr => ⟨_, (ass_one (as_ret (ax_if (at_eq hr.units (ax_v 0) (ax_gS (by rfl) B.tAP)) (ax_tup (axa_cons (ax_v 2) (axa_cons (ax_v 1) (axa_cons (ax_sub ax_int (ax_v 3)) axa_nil)))) (ax_tup (axa_cons (ax_v 1) (axa_cons (ax_v 2) (axa_cons (ax_v 3) axa_nil))))))), ?body⟩
  case len =>
    rintro ds P ⟨_, _, _, _, rfl, _⟩
    rfl
  case body =>
    rintro ds Q ⟨b, n, j, t, rfl, h⟩
    show sRet _ _ [.sh (dWord b), .sh (.int n), .sh (.int j), .sh (.int t)]
    cases b <;> simp [pressB] at h <;> simp <;> exact h
def plainF (p : Pst) (k : Nat) (d : Bool) : Out × Pst := if d then (match look p k with
  | some x => pdown p k (carried x.2 (some false))
  | none => (.no, p)) else pup p k
def S_plain_step (C : Addr) : AF := fun es P => ∃ s p k d, es = [enP C p, .sh (.int (k : Nat)), .sh (dWay d)] ∧ s ≤ 500 ∧ PstOk s p ∧ k < wide p.lay ∧ P (.sh (dOut (plainF p k d).1)) [enP C (plainF p k d).2, .no, .no]
theorem carried_none (a : Act) (h : isDual a = false) (d d' : Option Bool) : carried a d = carried a d' := by cases a <;> simp [carried, isDual] at h ⊢
abbrev s_plain_step : Stmt := top 44
theorem sc_plain_step : FnScope ["player", "key", "way"] ["player", "key", "way"] (defScope s_plain_step) := ⟨rfl, rfl, rfl, by decide +kernel, rfl, by decide +kernel, by decide +kernel⟩
theorem ok_plain_step (B : Bl mg) {CP : Addr} (HP : ClsO K CP NP) (F_is_dual : Fx P w K mg base 1 "is_dual" ["action"] (pf R_is_dual)) (M_Player_look : Mx P w K mg base 3 CP "look" ["self", "key"] (S_Player_look CP)) (M_Player_down : Mx P w K mg base 4 CP "down" ["self", "key", "decide"] (S_Player_down CP)) (M_Player_up : Mx P w K mg base 1 CP "up" ["self", "key"] (S_Player_up CP)) {f : Addr} {fd : FuncData} (A : At K mg "plain_step" "plain_step" s_plain_step f fd) : Fx P w K mg base 5 "plain_step" ["player", "key", "way"] (S_plain_step CP) := by
  refine ⟨f, fd, ok_def A.fn sc_plain_step [0] ?len ?body, A.mg, A.fn.kp, (A.fn.binds fun _ _ _ _ _ _ us hl => match us, hl with | [_, _, _], _ => rfl)⟩
  case body =>
    intro cdv A outer s H E hr
    refine ⟨_, (ass_cons (as_if (at_eq hr.units (ax_v 2) ax_str) (ass_one (as_ret (ax_meth (N := NP) M_Player_up (hr.mono (by decide)) (pe_v 0) (pl_slot 0) (by decide) (axa_cons (ax_v 1) axa_nil)))) ass_nil)
      (ass_one (as_ret (ax_methL 0 (N := NP) M_Player_down (hr.mono (by decide)) (by decide) (axa_cons (ax_v 1) (axa_cons (ax_if (at_val (ax_fn F_is_dual (hr.mono (by decide)) (by rfl) (axa_cons (ax_ix (ax_meth (N := NP) M_Player_look (hr.mono (by decide)) (pe_v 0) (pl_slot 0) (by decide) (axa_cons (ax_v 1) axa_nil)) ax_int) axa_nil))) (ax_gS (by rfl) B.hOLD) ax_non) axa_nil)))))), ?_⟩
    rintro es P ⟨s, p, k, d, rfl, hs, ok, hk, h⟩
    show sSeq _ _ _ [enP CP p, .sh (.int k), .sh (dWay d)]
    cases d
    · simp [plainF] at h
      simp
      exact ⟨_, rfl, s, p, k, rfl, hs, ok, h⟩
    · obtain ⟨⟨x1, x2⟩, hx⟩ := look_some ok hk
      simp [plainF, hx] at h
      simp
      refine ⟨⟨_, rfl⟩, _, rfl, s, p, k, (x1, x2), rfl, hs, ok, hk, hx, _, Or.inr rfl, _, rfl, x2, rfl, ?_⟩
      cases hd : isDual x2
      · refine Or.inl ⟨rfl, _, rfl, s, p, k, none, (x1, x2), rfl, hs, ok, hk, hx, ?_⟩
        rw [carried_none x2 hd none (some false)]
        exact h
      · exact Or.inr ⟨rfl, _, rfl, s, p, k, some false, (x1, x2), rfl, hs, ok, hk, hx, h⟩
  case len =>
    rintro es P ⟨_, _, _, _, rfl, _⟩
    rfl
def choiceF (order : List (Nat × Bool)) (n : Nat) : Act → Option (Nat × Int)
  | .dual _ _ t r => match decider order n r with
    | none => none
    | some j => match order[j]?, order[n]? with
      | some x, some y => if x.1 = y.1 then some (j, t) else none
      | _, _ => none
  | _ => none
def dCh : Option (Nat × Int) → PyData
  | none => .none
  | some x => .tuple [.int (x.1 : Nat), .int x.2]
@[simp] theorem dCh_n : dCh none = .none := rfl
@[simp] theorem dCh_s (x : Nat × Int) : dCh (some x) = .tuple [.int (x.1 : Nat), .int x.2] := rfl
def S_choice_at (C : Addr) : AF := fun es P => ∃ s p order n k d x, es = [.sh (.list (order.map dStep)), .sh (.int (n : Nat)), enP C p] ∧ s ≤ 500 ∧ PstOk s p ∧ order[n]? = some (k, d) ∧ k < wide p.lay ∧ order.length ≤ 400 ∧ look p k = some x ∧ P (.sh (dCh (choiceF order n x.2))) [.no, .no, enP C p]
def zeroRec (order : List (Nat × Bool)) : Rec := order.map fun s => ⟨0, s.1, s.2⟩
theorem zeroRec_s (order : List (Nat × Bool)) : (zeroRec order).map Ev.s = order := by
  unfold zeroRec
  rw [List.map_map]
  exact List.map_id' _
abbrev s_choice_at : Stmt := top 43
theorem sc_choice_at : FnScope ["order", "number", "player", "key", "action", "place", "step"] ["order", "number", "player"] (defScope s_choice_at) := ⟨rfl, rfl, rfl, by decide +kernel, rfl, by decide +kernel, by decide +kernel⟩
theorem ok_choice_at (B : Bl mg) {CP : Addr} (HP : ClsO K CP NP) (F_is_dual : Fx P w K mg base 1 "is_dual" ["action"] (pf R_is_dual)) (M_Player_look : Mx P w K mg base 3 CP "look" ["self", "key"] (S_Player_look CP)) (F_decider_of : Fx P w K mg base 1 "decider_of" ["record", "number", "rule"] (pf R_decider_of)) {f : Addr} {fd : FuncData} (A : At K mg "choice_at" "choice_at" s_choice_at f fd) : Fx P w K mg base 4 "choice_at" ["order", "number", "player"] (S_choice_at CP) := by
  refine ⟨f, fd, ok_def A.fn sc_choice_at [2] ?len ?body, A.mg, A.fn.kp, (A.fn.binds fun _ _ _ _ _ _ us hl => match us, hl with | [_, _, _], _ => rfl)⟩
  case body =>
    intro cdv A outer s H E hr
    refine ⟨_, (ass_cons (as_set 3 sc_choice_at.nd (ax_ix (ax_ix (ax_v 0) (ax_v 1)) ax_int))
      (ass_cons (as_set 4 sc_choice_at.nd (ax_ix (ax_meth (N := NP) M_Player_look (hr.mono (by decide)) (pe_v 2) (pl_slot 2) (by decide) (axa_cons (ax_v 3) axa_nil)) ax_int))
      (ass_cons (as_if (at_not (at_val (ax_fn F_is_dual (hr.mono (by decide)) (by rfl) (axa_cons (ax_v 4) axa_nil)))) (ass_one (as_ret ax_non)) ass_nil)
      (ass_cons (as_set 5 sc_choice_at.nd (ax_fn F_decider_of (hr.mono (by decide)) (by rfl) (axa_cons (ax_sh (ax_lc (own := [("step", 6)]) rfl sc_choice_at.nd (ai_list (ax_v 0)) (blkOk_by (show blkC ["order", "number", "player", "key", "action", "place", "step"] (defScope s_choice_at) _ [("step", 6)] = true from by decide +kernel)) (fun _ _ _ _ _ => (ag_n 6 sc_choice_at.nd)) (fun _ _ _ _ _ => ats_nil) (fun _ _ _ _ _ => ax_c (ax_tup (axa_cons ax_int (axa_star (sp_ := ⟨0, 0, 0, 0⟩) (ax_v 6) axa_nil)))))) (axa_cons (ax_v 1) (axa_cons (ax_ix (ax_v 4) ax_int) axa_nil)))))
      (ass_one (as_ret (ax_if (at_bool (aw_or (at_isN (ax_v 5)) (aw_or1 (at_ne hr.units (ax_ix (ax_ix (ax_v 0) (ax_v 5)) ax_int) (ax_v 3))))) ax_non (ax_tup (axa_cons (ax_v 5) (axa_cons (ax_ix (ax_v 4) ax_int) axa_nil)))))))))), ?_⟩
    rintro es P ⟨s, p, order, n, k, d, ⟨x1, x2⟩, rfl, hs, ok, hn, hk, hz, hx, h⟩
    show sSeq _ _ _ [.sh (.list (order.map dStep)), .sh (.int n), enP CP p, .no, .no, .no, .no]
    obtain ⟨y1, y2, y3, y4⟩ := look_ok ok hk hx
    have hnl : n < order.length := (List.getElem?_eq_some_iff.mp hn).1
    simp [hn]
    refine ⟨_, rfl, s, p, k, (x1, x2), rfl, hs, ok, hk, hx, _, Or.inr rfl, _, rfl, x2, rfl, ?_⟩
    cases x2 <;> simp [isDual]
    case dual c hh t r =>
      refine lc_m order dStep (fun x => dEv ⟨0, x.1, x.2⟩) rfl (sz_lt hz) ?_ ?_
      · rintro ⟨ak, ad⟩ ha KT KF kk
        simp
        exact kk [.sh (.list (order.map dStep)), .sh (.int n), enP CP p, .sh (.int k), .sh (dAct (.dual c hh t r)), .no, .sh (dStep (ak, ad))] rfl
      · simp
        refine ⟨zeroRec order, n, r, ?_, by simpa [zeroRec] using hnl, by simpa [zeroRec] using hz, (act_str y3).2.1, ?_⟩
        · simp [zeroRec, Function.comp_def]
        · rw [zeroRec_s]
          simp [choiceF] at h
          cases hd : decider order n r with
          | none =>
            simp [hd] at h
            simp
            exact h
          | some j =>
            obtain ⟨j1, j2⟩ := decider_lt hd
            obtain ⟨⟨jk, jd⟩, hj⟩ : ∃ z, order[j]? = some z := ⟨order[j], List.getElem?_eq_getElem j2⟩
            simp [hd, hn, hj] at h
            simp [hj]
            by_cases q : jk = k
            · simp [q] at h
              simp [q]
              exact h
            · have q' : ¬ ((jk : Int) = k) := by omega
              simp [q] at h
              simp [q']
              exact h
    all_goals
      simp [choiceF] at h
      exact h
  case len =>
    rintro es P ⟨_, _, _, _, _, _, _, rfl, _⟩
    rfl
/-! ### ways -/
structure Wst where
  p : Pst
  bounds : List Bd
  ticks : List Int
  choice : List Bool
  result : List Out
def enW (CP CW : Addr) (x : Wst) : En := .ob CW NW [enP CP x.p, .sh (.list (x.bounds.map dBd)), .sh (dInts x.ticks), .sh (.tuple (x.choice.map dWord)), .sh (.list (x.result.map dOut))]
structure WayOk (l : Lay) (s m : Nat) (x : Wst) : Prop where
  p : PstOk s x.p
  lay : x.p.lay = l
  bds : bdsOk m x.bounds
  bl : x.bounds.length ≤ 400 + s
  tl : x.ticks.length = m
  ch : x.choice.length ≤ s
  rs : x.result.length ≤ s
  out : ∀ o ∈ x.result, outOk o
def S_Way___init__ (CP CW : Addr) : AF := fun es P => ∃ p bs ts, es = [.ob CW [] [], enP CP p, .sh (.list (bs.map dBd)), .sh (dInts ts)] ∧ P (.sh .none) [enW CP CW ⟨p, bs, ts, [], []⟩, .no, .no, .no]
abbrev s_Way___init__ : Stmt := inClass (top 42) 0
theorem sc_Way___init__ : FnScope ["self", "player", "bounds", "ticks"] ["self", "player", "bounds", "ticks"] (defScope s_Way___init__) := ⟨rfl, rfl, rfl, by decide +kernel, rfl, by decide +kernel, by decide +kernel⟩
theorem ok_Way___init__ (B : Bl mg) {CW : Addr} (HW : ClsO K CW NW)  {f : Addr} {fd : FuncData} (A : AtI K mg "Way" CW "Way.__init__" s_Way___init__ f fd) : Cx1 P w K mg base 1 "Way" CW ["self", "player", "bounds", "ticks"] (S_Way___init__ CP CW) := by
  refine ⟨f, fd, ok_def A.fn sc_Way___init__ [0] ?len ?body, A.mkr, A.mg, (A.fn.binds fun _ _ _ _ _ _ us hl => match us, hl with | [_, _, _, _], _ => rfl)⟩
  case body =>
    intro cdv A outer s H E hr
    refine ⟨_, (ass_cons (as_fldN 0 (N := []) HW.cls (HW.na _ (by decide)) (by decide) (ax_mv 1))
      (ass_cons (as_fldN 0 (N := ["kept_player"]) HW.cls (HW.na _ (by decide)) (by decide) (ax_v 2))
      (ass_cons (as_fldN 0 (N := ["kept_player", "kept_bounds"]) HW.cls (HW.na _ (by decide)) (by decide) (ax_v 3))
      (ass_cons (as_fldN 0 (N := ["kept_player", "kept_bounds", "kept_ticks"]) HW.cls (HW.na _ (by decide)) (by decide) (ax_tup axa_nil))
      (ass_one (as_fldN 0 (N := ["kept_player", "kept_bounds", "kept_ticks", "kept_choice"]) HW.cls (HW.na _ (by decide)) (by decide) (ax_lst axa_nil))))))), ?_⟩
    rintro es P ⟨p, bs, ts, rfl, h⟩
    show sSeq _ _ _ [.ob CW [] [], enP CP p, .sh (.list (bs.map dBd)), .sh (dInts ts)]
    simp [enP]
    exact h
  case len =>
    rintro es P ⟨_, _, _, rfl, _⟩
    rfl
end HT2
set_option maxRecDepth 100000
set_option maxHeartbeats 4000000
namespace HT2
open PySem PySem.Spec PyProof.Rows L2 StX PL
variable {P : Program} {w : World} {K : PySem.W.Frag} {mg : Str → Option Value} {base : Heap}
def turnedW (x : Wst) (k : Nat) (b : Bool) (bd : Bd) (ts : List Int) : Wst := match look x.p k with
  | some z => ⟨(pdown x.p k (carried z.2 (some b))).2, x.bounds ++ [bd], ts, x.choice ++ [b], x.result ++ [(pdown x.p k (carried z.2 (some b))).1]⟩
  | none => x
def optW (CP CW : Addr) : Option Wst → En
  | none => .sh .none
  | some x => enW CP CW x
def turnF (x : Wst) (k : Nat) (b : Bool) (bd : Bd) : Option Wst := (lift (x.bounds ++ [bd]) x.ticks).map (turnedW x k b bd)
def S_Way_turned (CP CW : Addr) : AF := fun es P => ∃ l s m x k b bd, es = [enW CP CW x, .sh (.int (k : Nat)), .sh (dWord b), .sh (dBd bd)] ∧ s ≤ 400 ∧ m ≤ 800 ∧ WayOk l s m x ∧ k < wide l ∧ bd.i < m ∧ bd.j < m ∧ P (optW CP CW (turnF x k b bd)) [enW CP CW x, .no, .no, .no]
theorem szb {n m : Nat} (h : n ≤ m) (hm : m ≤ 100000) : n ≤ sizeLine := Nat.le_trans (Nat.le_trans h hm) (by decide)
theorem unsh_snoc {α : Type} (f : α → PyData) (xs : List α) (y : PyData) : unsh (xs.map (En.sh ∘ f) ++ [.sh y]) = some (xs.map f ++ [y]) := by
  rw [← List.map_map, unsh_app (xs.map f) (es := [.sh y]) (fs := [y]) rfl]
theorem lift_len {bs : List Bd} {xs ys : List Int} (h : lift bs xs = some ys) : ys.length = xs.length := by
  have gen : ∀ (n : Nat) (xs : List Int), liftN bs n xs = some ys → ys.length = xs.length := by
    intro n
    induction n with
    | zero => intro xs h; cases h
    | succ n ih =>
      intro xs h
      unfold liftN at h
      have hl := rnd_len bs (xs, false)
      split at h
      · rw [ih _ h]
        exact hl
      · cases h
        exact hl
  exact gen _ _ h
abbrev s_Way_turned : Stmt := inClass (top 42) 1
theorem sc_Way_turned : FnScope ["self", "key", "word", "bound", "ticks", "other"] ["self", "key", "word", "bound"] (defScope s_Way_turned) := ⟨rfl, rfl, rfl, by decide +kernel, rfl, by decide +kernel, by decide +kernel⟩
theorem ok_Way_turned (B : Bl mg) {CW : Addr} (HW : ClsO K CW NW) {CP : Addr} (HP : ClsO K CP NP) (F_lifted_numbers : Fx P w K mg base 1 "lifted_numbers" ["bounds", "begun"] (pf R_lifted_numbers)) (M_Player_copy : Mx P w K mg base 3 CP "copy" ["self"] (S_Player_copy CP)) (M_Player_down : Mx P w K mg base 4 CP "down" ["self", "key", "decide"] (S_Player_down CP)) (C_Way : Cx1 P w K mg base 1 "Way" CW ["self", "player", "bounds", "ticks"] (S_Way___init__ CP CW)) {f : Addr} {fd : FuncData} (A : AtM K CW "turned" "Way.turned" s_Way_turned f fd) : Mx P w K mg base 5 CW "turned" ["self", "key", "word", "bound"] (S_Way_turned CP CW) := by
  refine ⟨f, fd, ok_def A.fn sc_Way_turned [0] ?len ?body, A.cls, A.meth, (A.fn.binds fun _ _ _ _ _ _ us hl => match us, hl with | [_, _, _, _], _ => rfl)⟩
  case body =>
    intro cdv A outer s H E hr
    refine ⟨_, (ass_cons (as_set 4 sc_Way_turned.nd (ax_fn F_lifted_numbers (hr.mono (by decide)) (by rfl) (axa_cons (ax_lst (axa_star (sp_ := ⟨0, 0, 0, 0⟩) (ax_fld 0 1 (N := NW) HW.cls (HW.na _ (by decide)) NW_nd) (axa_cons (ax_v 3) axa_nil))) (axa_cons (ax_fld 0 2 (N := NW) HW.cls (HW.na _ (by decide)) NW_nd) axa_nil))))
      (ass_cons (as_if (at_isN (ax_v 4)) (ass_one (as_ret ax_non)) ass_nil)
      (ass_cons (as_set 5 sc_Way_turned.nd (ax_make C_Way (hr.mono (by decide)) (by rfl) (axa_cons (ax_meth0 (N := NP) M_Player_copy (hr.mono (by decide)) (pe_at 0) (pl_fld (i := 0) (n := 0) (N := NW) HW.cls (HW.na _ (by decide)) (by rfl) NW_nd) (by decide)) (axa_cons (ax_lst (axa_star (sp_ := ⟨0, 0, 0, 0⟩) (ax_fld 0 1 (N := NW) HW.cls (HW.na _ (by decide)) NW_nd) (axa_cons (ax_v 3) axa_nil))) (axa_cons (ax_v 4) axa_nil)))))
      (ass_cons (as_fld 5 3 (N := NW) HW.cls (HW.na _ (by decide)) NW_nd (ax_tup (axa_star (sp_ := ⟨0, 0, 0, 0⟩) (ax_fld 0 3 (N := NW) HW.cls (HW.na _ (by decide)) NW_nd) (axa_cons (ax_v 2) axa_nil))))
      (ass_cons (as_fld 5 4 (N := NW) HW.cls (HW.na _ (by decide)) NW_nd (ax_lst (axa_star (sp_ := ⟨0, 0, 0, 0⟩) (ax_fld 0 4 (N := NW) HW.cls (HW.na _ (by decide)) NW_nd) (axa_cons (ax_meth (N := NP) M_Player_down (hr.mono (by decide)) (pe_at 5) (pl_fld (i := 5) (n := 0) (N := NW) HW.cls (HW.na _ (by decide)) (by rfl) NW_nd) (by decide) (axa_cons (ax_v 1) (axa_cons (ax_v 2) axa_nil))) axa_nil))))
      (ass_one (as_ret (ax_mv 5)))))))), ?_⟩
    rintro es P ⟨l, s, m, x, k, b, bd, rfl, hs, hm, ok, hk, h1, h2, h⟩
    show sSeq _ _ _ [enW CP CW x, .sh (.int k), .sh (dWord b), .sh (dBd bd), .no, .no]
    obtain ⟨p, bs, ts, ch, rs⟩ := x
    obtain ⟨k1, k2, k3, k4, k5, k6, k7, k8⟩ := ok
    simp only at k1 k2 k3 k4 k5 k6 k7 k8
    subst k2
    obtain ⟨⟨x1, x2⟩, hx⟩ := look_some k1 hk
    have z1 : (bs ++ [bd]).length ≤ sizeLine := szb (m := 900) (by simp; omega) (by decide)
    have z2 : (ch ++ [b]).length ≤ sizeLine := szb (m := 900) (by simp; omega) (by decide)
    have z3 : rs.length + 1 ≤ sizeLine := szb (m := 900) (by omega) (by decide)
    simp at z1 z2
    simp [enW, unsh_snoc, z1, z2]
    refine ⟨bs ++ [bd], ts, by simp, ?_, by omega, ?_⟩
    · intro b' hb'
      rcases List.mem_append.mp hb' with z | z
      · rw [k5]
        exact k3 b' z
      · rw [List.mem_singleton.mp z, k5]
        exact ⟨h1, h2⟩
    · unfold turnF at h
      simp only at h
      cases hl : lift (bs ++ [bd]) ts with
      | none =>
        rw [hl] at h
        simp
        exact h
      | some us =>
        rw [hl] at h
        simp
        refine ⟨_, rfl, p, rfl, p, bs ++ [bd], us, by simp, rfl, ?_⟩
        simp [enW]
        refine ⟨_, rfl, s, p, k, some b, (x1, x2), by rw [dWord_dec]; rfl, by omega, k1, hk, hx, ?_⟩
        simp [turnedW, hx, optW, enW] at h
        simp [unsh_snoc, z3]
        exact h
  case len =>
    rintro es P ⟨_, _, _, _, _, _, _, rfl, _⟩
    rfl
def playW (x : Wst) (k : Nat) (d : Bool) : Wst := { x with p := (plainF x.p k d).2, result := x.result ++ [(plainF x.p k d).1] }
def S_Way_play (CP CW : Addr) : AF := fun es P => ∃ l s m x k d, es = [enW CP CW x, .sh (.int (k : Nat)), .sh (dWay d)] ∧ s ≤ 400 ∧ m ≤ 800 ∧ WayOk l s m x ∧ k < wide l ∧ P (.sh .none) [enW CP CW (playW x k d), .no, .no]
abbrev s_Way_play : Stmt := inClass (top 42) 2
theorem sc_Way_play : FnScope ["self", "key", "way"] ["self", "key", "way"] (defScope s_Way_play) := ⟨rfl, rfl, rfl, by decide +kernel, rfl, by decide +kernel, by decide +kernel⟩
theorem ok_Way_play (B : Bl mg) {CW : Addr} (HW : ClsO K CW NW) (F_plain_step : Fx P w K mg base 5 "plain_step" ["player", "key", "way"] (S_plain_step CP)) {f : Addr} {fd : FuncData} (A : AtM K CW "play" "Way.play" s_Way_play f fd) : Mx P w K mg base 6 CW "play" ["self", "key", "way"] (S_Way_play CP CW) := by
  refine ⟨f, fd, ok_def A.fn sc_Way_play [0] ?len ?body, A.cls, A.meth, (A.fn.binds fun _ _ _ _ _ _ us hl => match us, hl with | [_, _, _], _ => rfl)⟩
  case body =>
    intro cdv A outer s H E hr
    refine ⟨_, (ass_one (as_fld 0 4 (N := NW) HW.cls (HW.na _ (by decide)) NW_nd (ax_lst (axa_star (sp_ := ⟨0, 0, 0, 0⟩) (ax_fld 0 4 (N := NW) HW.cls (HW.na _ (by decide)) NW_nd) (axa_cons (ax_fnP F_plain_step (hr.mono (by decide)) (by rfl) (pe_at 0) (pl_fld (i := 0) (n := 0) (N := NW) HW.cls (HW.na _ (by decide)) (by rfl) NW_nd) (axa_cons (ax_v 1) (axa_cons (ax_v 2) axa_nil))) axa_nil))))), ?_⟩
    rintro es P ⟨l, s, m, x, k, d, rfl, hs, hm, ok, hk, h⟩
    show sFldA _ _ _ _ _ _ [enW CP CW x, .sh (.int k), .sh (dWay d)]
    obtain ⟨p, bs, ts, ch, rs⟩ := x
    obtain ⟨k1, k2, k3, k4, k5, k6, k7, k8⟩ := ok
    simp only at k1 k2 k3 k4 k5 k6 k7 k8
    subst k2
    have z3 : rs.length + 1 ≤ sizeLine := szb (m := 900) (by omega) (by decide)
    simp [enW]
    refine ⟨rfl, s, p, k, d, rfl, by omega, k1, hk, ?_⟩
    simp [playW, enW] at h
    simp [unsh_snoc, z3]
    exact h
  case len =>
    rintro es P ⟨_, _, _, _, _, _, rfl, _⟩
    rfl
theorem forO_t {α : Type} {β : AG} {τb : AS} {es : List En} {Δ : AEnds} {Γ : Ga} (xs : List α) (enc : α → En) (J : List α → Ga → Prop) (hd : es = xs.map enc) (h0 : J [] Γ)
    (turn : ∀ p x q Γ2, xs = p ++ x :: q → J p Γ2 → β (enc x) Γ2 fun Γ3 => τb { Δ with nx := J (p ++ [x]), ct := J (p ++ [x]), bk := Δ.nx } Γ3) (done : ∀ Γ2, J xs Γ2 → Δ.nx Γ2) : forBO β τb es Δ Γ := by
  subst hd
  refine ⟨fun i Γ2 => J (xs.take i) Γ2, h0, ?_, ?_⟩
  · intro i d Γ2 hd iv
    rw [List.getElem?_map] at hd
    obtain ⟨x, hx, rfl⟩ := Option.map_eq_some_iff.mp hd
    obtain ⟨e1, et⟩ := take_at hx
    have q := turn _ x _ Γ2 e1 iv
    rw [← et] at q
    exact q
  · intro Γ2 iv
    rw [List.length_map, List.take_length] at iv
    exact done Γ2 iv
theorem lc_mO {α : Type} {β : AG} {τt : AT} {τe : AE} {vs : List Nat} {ds : List PyData} {Γ : Ga} {P : En → Ga → Prop} (xs : List α) (enc : α → PyData) (g : α → En) (hd : ds = xs.map enc) (hz : xs.length ≤ sizeLine)
    (turn : ∀ x, x ∈ xs → ∀ (KT : En → Ga → Prop) (KF : Ga → Prop), (∀ Γ5, wipeG Γ5 vs = wipeG Γ vs → KT (g x) Γ5) → β (.sh (enc x)) (wipeG Γ vs) fun Γ3 => τt Γ3 fun b Γ4 => if b = true then τe Γ4 KT else KF Γ4)
    (done : P (.lst (xs.map g)) (wipeG (wipeG Γ vs) vs)) : lcB β τt τe vs ds Γ P := by
  refine lc_pre xs enc (fun p acc Γ2 => Γ2 = wipeG Γ vs ∧ acc = p.map g) hd ⟨rfl, rfl⟩ ?_ ?_
  · rintro p x q acc Γ2 e ⟨rfl, rfl⟩
    have hl : p.length < xs.length := (len_mid e).1
    exact turn x (by rw [e]; simp) _ _ fun Γ5 e2 => ⟨by rw [List.length_map]; omega, e2, by simp⟩
  · rintro acc Γ2 ⟨rfl, rfl⟩
    exact done
/-- a filter and map of owned things -/
theorem lcO_t {α : Type} {β : AG} {τt : AT} {τe : AE} {vs : List Nat} {es : List En} {Γ : Ga} {P : En → Ga → Prop} (xs : List α) (enc : α → En) (f : α → Option En) (hd : es = xs.map enc) (hz : xs.length < sizeLine)
    (turn : ∀ x, x ∈ xs → ∀ (KT : En → Ga → Prop) (KF : Ga → Prop), (∀ d Γ5, f x = some d → wipeG Γ5 vs = wipeG Γ vs → KT d Γ5) → (∀ Γ4, f x = none → wipeG Γ4 vs = wipeG Γ vs → KF Γ4) → β (enc x) (wipeG Γ vs) fun Γ3 => τt Γ3 fun b Γ4 => if b = true then τe Γ4 KT else KF Γ4)
    (done : P (.lst (xs.filterMap f)) (wipeG (wipeG Γ vs) vs)) : lcBO β τt τe vs es Γ P := by
  subst hd
  refine ⟨fun i acc Γ2 => Γ2 = wipeG Γ vs ∧ acc = (xs.take i).filterMap f, ⟨rfl, rfl⟩, ?_, ?_⟩
  · rintro i d acc Γ2 hd ⟨rfl, rfl⟩
    rw [List.getElem?_map] at hd
    obtain ⟨x, hx, rfl⟩ := Option.map_eq_some_iff.mp hd
    obtain ⟨_, et⟩ := take_at hx
    refine turn x (List.mem_of_getElem? hx) _ _ (fun d' Γ5 e1 e3 => ⟨?_, e3, ?_⟩) fun Γ4 e1 e2 => ⟨e2, ?_⟩
    · refine Nat.lt_of_le_of_lt (List.length_filterMap_le _ _) ?_
      rw [List.length_take]
      omega
    · rw [et, List.filterMap_append]
      simp [e1]
    · rw [et, List.filterMap_append]
      simp [e1]
  · rintro acc Γ2 ⟨rfl, rfl⟩
    rw [List.length_map, List.take_length]
    exact done
def wayStep (order : List (Nat × Bool)) (n k : Nat) (d : Bool) (x : Wst) : List Wst := if d then (match look x.p k with
  | some z => (match choiceF order n z.2 with
    | none => [playW x k d]
    | some c => [true, false].filterMap fun b => turnF x k b (pressB b n c.1 c.2))
  | none => []) else [playW x k d]
def waysN (order : List (Nat × Bool)) (q : List ((Nat × Bool) × Nat)) (x0 : Wst) : List Wst := q.foldl (fun ws e => ws.flatMap (wayStep order e.2 e.1.1 e.1.2)) [x0]
def waysF (order : List (Nat × Bool)) (x0 : Wst) : List Wst := waysN order order.zipIdx x0
theorem plainF_ok {s : Nat} {p : Pst} (ok : PstOk s p) {k : Nat} (hk : k < wide p.lay) (d : Bool) : PstOk (s + 1) (plainF p k d).2 ∧ (plainF p k d).2.lay = p.lay ∧ outOk (plainF p k d).1 := by
  unfold plainF
  split
  · obtain ⟨x, hx⟩ := look_some ok hk
    rw [hx]
    exact ⟨pdown_ok ok hk hx _, pdown_lay _ _ _, pdown_out ok hk hx _⟩
  · exact ⟨(pup_ok ok k).up (Nat.le_succ _), pup_lay _ _, pup_out ok k⟩
theorem playW_ok {l : Lay} {s m : Nat} {x : Wst} (ok : WayOk l s m x) {k : Nat} (hk : k < wide l) (d : Bool) : WayOk l (s + 1) m (playW x k d) := by
  obtain ⟨h1, h2, h3⟩ := plainF_ok ok.p (by rw [ok.lay]; exact hk) d
  have b1 := ok.bl
  have b2 := ok.ch
  have b3 := ok.rs
  refine ⟨h1, h2.trans ok.lay, ok.bds, ?_, ok.tl, Nat.le_succ_of_le b2, by simp [playW]; exact b3, fun o ho => ?_⟩
  · show x.bounds.length ≤ _
    omega
  · rcases List.mem_append.mp ho with z | z
    · exact ok.out o z
    · rw [List.mem_singleton.mp z]
      exact h3
theorem turnF_ok {l : Lay} {s m : Nat} {x y : Wst} (ok : WayOk l s m x) {k : Nat} (hk : k < wide l) {b : Bool} {bd : Bd} (h1 : bd.i < m) (h2 : bd.j < m) (h : turnF x k b bd = some y) : WayOk l (s + 1) m y := by
  unfold turnF at h
  obtain ⟨us, hu, e⟩ := Option.map_eq_some_iff.mp h
  have hk' : k < wide x.p.lay := by rw [ok.lay]; exact hk
  obtain ⟨z, hz⟩ := look_some ok.p hk'
  simp only [turnedW, hz] at e
  subst e
  have b1 := ok.bl
  have b2 := ok.ch
  have b3 := ok.rs
  refine ⟨pdown_ok ok.p hk' hz _, (pdown_lay _ _ _).trans ok.lay, fun b' hb' => ?_, ?_, (lift_len hu).trans ok.tl, ?_, ?_, fun o ho => ?_⟩
  · rcases List.mem_append.mp hb' with z | z
    · exact ok.bds b' z
    · rw [List.mem_singleton.mp z]
      exact ⟨h1, h2⟩
  · simp
    omega
  · simp
    exact b2
  · simp
    exact b3
  · rcases List.mem_append.mp ho with z | z
    · exact ok.out o z
    · rw [List.mem_singleton.mp z]
      exact pdown_out ok.p hk' hz _
theorem choiceF_lt {order : List (Nat × Bool)} {n : Nat} {a : Act} {c : Nat × Int} (h : choiceF order n a = some c) : n < c.1 ∧ c.1 < order.length := by
  cases a with
  | dual x hh t r =>
    simp only [choiceF] at h
    split at h
    · cases h
    · rename_i j hj
      have h1 := decider_lt hj
      split at h
      · split at h
        · cases h
          exact h1
        · cases h
      · cases h
  | _ => simp [choiceF] at h
theorem pressB_lt {b : Bool} {n j m : Nat} {t : Int} (h1 : n < m) (h2 : j < m) : (pressB b n j t).i < m ∧ (pressB b n j t).j < m := by
  cases b <;> simp [pressB] <;> omega
theorem wayStep_ok {l : Lay} {s m : Nat} {x : Wst} (ok : WayOk l s m x) {order : List (Nat × Bool)} {n k : Nat} (hk : k < wide l) (hn : n < order.length) (hm : order.length ≤ m) (d : Bool) : (∀ y ∈ wayStep order n k d x, WayOk l (s + 1) m y) ∧ (wayStep order n k d x).length ≤ 2 := by
  have one : (∀ y ∈ [playW x k d], WayOk l (s + 1) m y) ∧ [playW x k d].length ≤ 2 := ⟨fun y hy => by
    rw [List.mem_singleton.mp hy]
    exact playW_ok ok hk d, by simp⟩
  unfold wayStep
  split
  · split
    · split
      · exact one
      · rename_i c hc
        obtain ⟨c1, c2⟩ := choiceF_lt hc
        refine ⟨fun y hy => ?_, Nat.le_trans (List.length_filterMap_le _ _) (by simp)⟩
        obtain ⟨b, _, e⟩ := List.mem_filterMap.mp hy
        have h3 := pressB_lt (b := b) (t := c.2) (Nat.lt_of_lt_of_le hn hm) (Nat.lt_of_lt_of_le c2 hm)
        exact turnF_ok ok hk h3.1 h3.2 e
    · exact ⟨fun y hy => (by cases hy), by simp⟩
  · exact one
theorem waysN_ok {l : Lay} {m : Nat} {x0 : Wst} {order : List (Nat × Bool)} (hk : ∀ e ∈ order, e.1 < wide l) (hm : order.length ≤ m) {s : Nat} (ok0 : WayOk l s m x0) : ∀ q : List ((Nat × Bool) × Nat), (∀ e ∈ q, e ∈ order.zipIdx) → (∀ y ∈ waysN order q x0, WayOk l (s + q.length) m y) ∧ (waysN order q x0).length ≤ 2 ^ q.length := by
  have gen : ∀ (q : List ((Nat × Bool) × Nat)) (ws : List Wst) (s j : Nat), (∀ e ∈ q, e ∈ order.zipIdx) → (∀ y ∈ ws, WayOk l s m y) → ws.length ≤ 2 ^ j → (∀ y ∈ q.foldl (fun ws e => ws.flatMap (wayStep order e.2 e.1.1 e.1.2)) ws, WayOk l (s + q.length) m y) ∧ (q.foldl (fun ws e => ws.flatMap (wayStep order e.2 e.1.1 e.1.2)) ws).length ≤ 2 ^ (j + q.length) := by
    intro q
    induction q with
    | nil => exact fun ws s j _ h1 h2 => ⟨h1, h2⟩
    | cons e q ih =>
      intro ws s j hq h1 h2
      obtain ⟨⟨k, d⟩, n⟩ := e
      have he := hq _ List.mem_cons_self
      have hn : order[n]? = some (k, d) := List.mem_zipIdx_iff_getElem?.mp he
      have hkk := hk _ (List.mem_of_getElem? hn)
      have hnl := (List.getElem?_eq_some_iff.mp hn).1
      have h3 : ∀ y ∈ ws.flatMap (wayStep order n k d), WayOk l (s + 1) m y := fun y hy => by
        obtain ⟨x, hx, hy2⟩ := List.mem_flatMap.mp hy
        exact (wayStep_ok (h1 x hx) hkk hnl hm d).1 y hy2
      have h4 : ∀ vs : List Wst, (∀ y ∈ vs, WayOk l s m y) → (vs.flatMap (wayStep order n k d)).length ≤ 2 * vs.length := fun vs => by
        induction vs with
        | nil => intro _; simp
        | cons v vs ihv =>
          intro hv
          have a1 := ihv fun y hy => hv y (List.mem_cons_of_mem _ hy)
          have a2 : (wayStep order n k d v).length ≤ 2 := (wayStep_ok (hv v List.mem_cons_self) hkk hnl hm d).2
          rw [List.flatMap_cons, List.length_append, List.length_cons]
          omega
      have h5 := h4 ws h1
      have h6 : (ws.flatMap (wayStep order n k d)).length ≤ 2 ^ (j + 1) := by
        rw [Nat.pow_succ]
        omega
      have h7 := ih _ (s + 1) (j + 1) (fun e he => hq e (List.mem_cons_of_mem _ he)) h3 h6
      have e1 : s + ((((k, d), n) :: q) : List ((Nat × Bool) × Nat)).length = s + 1 + q.length := by simp; omega
      have e2 : j + ((((k, d), n) :: q) : List ((Nat × Bool) × Nat)).length = j + 1 + q.length := by simp; omega
      rw [e1, e2]
      exact h7
  intro q hq
  have h := gen q [x0] s 0 hq (fun y hy => by rw [List.mem_singleton.mp hy]; exact ok0) (by simp)
  rw [Nat.zero_add] at h
  exact h
def S_ways_of (CP CW : Addr) : AF := fun es P => ∃ (l : Lay) (s m : Nat) (x0 : Wst) (order : List (Nat × Bool)), es = [.sh (dLay l), .sh (.list (order.map dStep)), enW CP CW x0] ∧ WayOk l s m x0 ∧ s + order.length ≤ 400 ∧ m ≤ 800 ∧ order.length ≤ 10 ∧ order.length ≤ m ∧ (∀ e ∈ order, e.1 < wide l) ∧ P (.lst ((waysF order x0).map (enW CP CW))) [.no, .no, .no]
abbrev s_ways_of : Stmt := top 45
theorem sc_ways_of : FnScope ["layout", "order", "begun", "ways", "number", "key", "way", "later", "one", "asked", "both", "word", "other"] ["layout", "order", "begun"] (defScope s_ways_of) := ⟨rfl, rfl, rfl, by decide +kernel, rfl, by decide +kernel, by decide +kernel⟩
theorem ok_ways_of (B : Bl mg) {CW : Addr} (HW : ClsO K CW NW) (F_press_bound : Fx P w K mg base 1 "press_bound" ["word", "down", "up", "time"] (pf R_press_bound)) (M_Way_turned : Mx P w K mg base 5 CW "turned" ["self", "key", "word", "bound"] (S_Way_turned CP CW)) (M_Way_play : Mx P w K mg base 6 CW "play" ["self", "key", "way"] (S_Way_play CP CW)) (F_choice_at : Fx P w K mg base 4 "choice_at" ["order", "number", "player"] (S_choice_at CP)) {f : Addr} {fd : FuncData} (A : At K mg "ways_of" "ways_of" s_ways_of f fd) : Fx P w K mg base 7 "ways_of" ["layout", "order", "begun"] (S_ways_of CP CW) := by
  refine ⟨f, fd, ok_def A.fn sc_ways_of [] ?len ?body, A.mg, A.fn.kp, (A.fn.binds fun _ _ _ _ _ _ us hl => match us, hl with | [_, _, _], _ => rfl)⟩
  case body =>
    intro cdv A outer s H E hr
    refine ⟨_, (ass_cons (as_set 3 sc_ways_of.nd (ax_lstO (axa_cons (ax_mv 2) axa_nil)))
      (ass_cons (as_for PassesOwn.never rfl (ai_enum (by rfl) B.enumerate (axa_cons (ax_v 1) axa_nil)) (ag_tup (n := 2) rfl (ags_cons (ag_n 4 sc_ways_of.nd) (ags_cons (ag_tup (n := 2) rfl (ags_cons (ag_n 5 sc_ways_of.nd) (ags_cons (ag_n 6 sc_ways_of.nd) ags_nil))) ags_nil)))
        (ass_cons (as_set 7 sc_ways_of.nd (ax_lstO axa_nil))
      (ass_cons (as_forO PassesOwn.never rfl (ax_mv 3) (ag_n 8 sc_ways_of.nd)
        (ass_cons (as_set 9 sc_ways_of.nd (ax_if (at_eq hr.units (ax_v 6) ax_str) (ax_fnL F_choice_at (hr.mono (by decide)) (by rfl) (ax_v 1) (ax_v 4) (pe_at 8) (pl_fld (i := 8) (n := 0) (N := NW) HW.cls (HW.na _ (by decide)) (by rfl) NW_nd)) ax_non))
      (ass_one (as_if (at_isN (ax_v 9)) (ass_cons (as_expr (ax_meth (N := NW) M_Way_play (hr.mono (by decide)) (pe_v 8) (pl_slot 8) (by decide) (axa_cons (ax_v 5) (axa_cons (ax_v 6) axa_nil))))
      (ass_one (as_append 7 (ax_mv 8)))) (ass_cons (as_setLc 10 (own := [("word", 11)]) (fun τ => τ) snd_id rfl sc_ways_of.nd (ai_tup (ax_tup (axa_cons (ax_gS (by rfl) B.tAP) (axa_cons (ax_gS (by rfl) B.hOLD) axa_nil)))) (blkOk_by (show blkC ["layout", "order", "begun", "ways", "number", "key", "way", "later", "one", "asked", "both", "word", "other"] (defScope s_ways_of) _ [("word", 11)] = true from by decide +kernel)) (fun _ _ _ _ _ => (ag_n 11 sc_ways_of.nd)) (fun _ _ _ _ _ => ats_nil) (fun _ _ _ _ _ => ax_c (ax_meth (N := NW) M_Way_turned (hr.mono (by decide)) (pe_v 8) (pl_slot 8) (by decide) (axa_cons (ax_v 5) (axa_cons (ax_v 11) (axa_cons (ax_fnS F_press_bound (hr.mono (by decide)) (by rfl) (axa_cons (ax_v 11) (axa_cons (ax_v 4) (axa_star (sp_ := ⟨0, 0, 0, 0⟩) (ax_v 9) axa_nil)))) axa_nil))))) (sw_true rfl rfl rfl (by decide +kernel)))
      (ass_one (as_extend 7 (ax_lcO (own := [("other", 12)]) rfl sc_ways_of.nd (ax_mv 10) (blkOk_by (show blkC ["layout", "order", "begun", "ways", "number", "key", "way", "later", "one", "asked", "both", "word", "other"] (defScope s_ways_of) _ [("other", 12)] = true from by decide +kernel)) (fun _ _ _ _ _ => (ag_n 12 sc_ways_of.nd)) (fun _ _ _ _ _ => ats_c (ats_one (at_notNO 12))) (fun _ _ _ _ _ => ax_c (ax_mv 12))))))))))
      (ass_one (as_set 3 sc_ways_of.nd (ax_mv 7))))))
      (ass_one (as_ret (ax_mv 3))))), ?_⟩
    rintro es P ⟨l, s, m, x0, order, rfl, ok, hs, hm, hz, hzm, hk, h⟩
    show sSeq _ _ _ [.sh (dLay l), .sh (.list (order.map dStep)), enW CP CW x0, .no, .no, .no, .no, .no, .no, .no, .no, .no, .no]
    have hv : hv (enW CP CW x0) = true := rfl
    simp
    refine ⟨hv, ?_⟩
    refine for_t order.zipIdx (fun p => .tuple [.int (p.2 : Nat), dStep p.1]) (fun q Γ => ∃ a b c d e f g h i, Γ = [.sh (dLay l), .sh (.list (order.map dStep)), .no, .lst ((waysN order q x0).map (enW CP CW)), a, b, c, d, e, f, g, h, i]) (enumD_map _ _) ⟨_, _, _, _, _, _, _, _, _, rfl⟩ ?_ ?_
    · rintro q ⟨⟨k, d⟩, n⟩ q2 Γ2 e ⟨a, b, c, d', e', f, g, h, i, rfl⟩
      obtain ⟨e2, en, hn⟩ := enum_split e
      have hnl := (List.getElem?_eq_some_iff.mp hn).1
      have hkk := hk _ (List.mem_of_getElem? hn)
      simp only at hkk
      obtain ⟨w1, w2⟩ := waysN_ok hk hzm ok q fun x hx => by rw [e]; exact List.mem_append_left _ hx
      have er : waysN order (q ++ [((k, d), n)]) x0 = (waysN order q x0).flatMap (wayStep order n k d) := by
        unfold waysN
        rw [List.foldl_append]
        rfl
      rw [er]
      have hql : q.length ≤ 10 := by
        have := congrArg List.length e
        simp at this
        omega
      have hwl : (waysN order q x0).length ≤ 1024 := Nat.le_trans w2 (Nat.pow_le_pow_right (by decide) hql)
      generalize waysN order q x0 = ws at w1 hwl ⊢
      have hsq : s + q.length ≤ 400 := by omega
      simp
      refine forO_t ws (enW CP CW) (fun p Γ => ∃ f g h i j, Γ = [.sh (dLay l), .sh (.list (order.map dStep)), .no, .no, .sh (.int n), .sh (.int k), .sh (dWay d), .lst ((p.flatMap (wayStep order n k d)).map (enW CP CW)), f, g, h, i, j]) rfl ⟨_, _, _, _, _, rfl⟩ ?_ ?_
      · rintro p x p2 Γ3 e3 ⟨f, g, h, i, j, rfl⟩
        have okx := w1 x (by rw [e3]; simp)
        have hpl : (p.flatMap (wayStep order n k d)).length + 2 ≤ 4096 := by
          have h4 : ∀ vs : List Wst, (∀ y ∈ vs, WayOk l (s + q.length) m y) → (vs.flatMap (wayStep order n k d)).length ≤ 2 * vs.length := fun vs => by
            induction vs with
            | nil => intro _; simp
            | cons v vs ihv =>
              intro hv
              have a1 := ihv fun y hy => hv y (List.mem_cons_of_mem _ hy)
              have a2 : (wayStep order n k d v).length ≤ 2 := (wayStep_ok (hv v List.mem_cons_self) hkk hnl hzm d).2
              rw [List.flatMap_cons, List.length_append, List.length_cons]
              omega
          have h5 := h4 p fun y hy => w1 y (by rw [e3]; exact List.mem_append_left _ hy)
          have h6 := congrArg List.length e3
          simp only [List.length_append, List.length_cons] at h6
          omega
        have hp1 : (p.flatMap (wayStep order n k d)).length < sizeLine := Nat.lt_of_lt_of_le (by omega : _ < 4096) (by decide)
        have hp2 : (p.flatMap (wayStep order n k d)).length + 2 ≤ sizeLine := szb hpl (by decide)
        rw [List.flatMap_append]
        generalize p.flatMap (wayStep order n k d) = acc at hp1 hp2 ⊢
        have hkx : k < wide x.p.lay := by rw [okx.lay]; exact hkk
        obtain ⟨z, hz2⟩ := look_some okx.p hkx
        simp
        have h400 : s + q.length ≤ 400 := hsq
        cases d
        · simp
          refine ⟨_, rfl, l, s + q.length, m, x, k, false, rfl, hsq, hm, okx, hkk, ?_⟩
          simp [enW, hp1, wayStep]
        · have hws : wayStep order n k true x = match choiceF order n z.2 with
            | none => [playW x k true]
            | some c => [true, false].filterMap fun b => turnF x k b (pressB b n c.1 c.2) := by simp [wayStep, hz2]
          rw [hws]
          have hE : enW CP CW x = .ob CW NW [enP CP x.p, .sh (.list (x.bounds.map dBd)), .sh (dInts x.ticks), .sh (.tuple (x.choice.map dWord)), .sh (.list (x.result.map dOut))] := rfl
          simp [hE]
          refine ⟨rfl, s + q.length, x.p, order, n, k, true, z, rfl, by omega, okx.p, hn, hkx, by omega, hz2, ?_⟩
          cases hc : choiceF order n z.2 with
          | none =>
            simp
            refine ⟨l, s + q.length, m, x, k, true, by simp [hE], hsq, hm, okx, hkk, ?_⟩
            simp [enW, hp1]
          | some c =>
            obtain ⟨c1, c2⟩ := choiceF_lt hc
            simp
            refine lc_mO [true, false] dWord (fun b => optW CP CW (turnF x k b (pressB b n c.1 c.2))) rfl (by decide) ?_ ?_
            · intro b hb KT KF kk
              simp [dWay]
              refine ⟨b, n, c.1, c.2, rfl, ?_⟩
              have h3 := pressB_lt (b := b) (t := c.2) (Nat.lt_of_lt_of_le hnl hzm) (Nat.lt_of_lt_of_le c2 hzm)
              refine ⟨l, s + q.length, m, x, k, b, pressB b n c.1 c.2, by simp [hE], hsq, hm, okx, hkk, h3.1, h3.2, ?_⟩
              exact kk [.sh (dLay l), .sh (.list (order.map dStep)), .no, .no, .sh (.int n), .sh (.int k), .sh (.str "down"), .lst (acc.map (enW CP CW)), enW CP CW x, .sh (.tuple [.int (c.1 : Nat), .int c.2]), h, .sh (dWord b), j] rfl
            · simp
              intro v
              refine lcO_t [true, false] (fun b => optW CP CW (turnF x k b (pressB b n c.1 c.2))) (fun b => (turnF x k b (pressB b n c.1 c.2)).map (enW CP CW)) rfl (by decide) ?_ ?_
              · intro b hb KT KF k1 k2
                cases hq : turnF x k b (pressB b n c.1 c.2) with
                | none =>
                  simp [optW]
                  exact k2 [.sh (dLay l), .sh (.list (order.map dStep)), .no, .no, .sh (.int n), .sh (.int k), .sh (.str "down"), .al v, enW CP CW x, .sh (.tuple [.int (c.1 : Nat), .int c.2]), .no, .no, .sh .none] (by rw [hq]; rfl) rfl
                | some y =>
                  simp [optW]
                  exact Or.inl ⟨⟨_, _, _, rfl⟩, rfl, k1 (enW CP CW y) [.sh (dLay l), .sh (.list (order.map dStep)), .no, .no, .sh (.int n), .sh (.int k), .sh (.str "down"), .al v, enW CP CW x, .sh (.tuple [.int (c.1 : Nat), .int c.2]), .no, .no, .no] (by rw [hq]; rfl) rfl⟩
              · simp
                refine ⟨?_, ?_⟩
                · have h8 := List.length_filterMap_le (fun b => Option.map (enW CP CW) (turnF x k b (pressB b n c.fst c.snd))) [true, false]
                  simp only [List.length_cons, List.length_nil] at h8
                  omega
                · rw [List.map_filterMap]
      · rintro Γ3 ⟨f, g, h, i, j, rfl⟩
        simp
    · rintro Γ2 ⟨a, b, c, d, e, f, g, h', i, rfl⟩
      simp
      exact h
  case len =>
    rintro es P ⟨_, _, _, _, _, rfl, _⟩
    rfl
end HT2
set_option maxRecDepth 100000
set_option maxHeartbeats 4000000
namespace HT2
open PySem PySem.Spec PyProof.Rows L2 StX PL
variable {P : Program} {w : World} {K : PySem.W.Frag} {mg : Str → Option Value} {base : Heap}
structure KeysOk (l : Lay) (ks : List Nat) : Prop where
  lt : ∀ k ∈ ks, k < wide l
  up : ∀ p ∈ ks.zip (ks.drop 1), p.1 < p.2
  len : ks.length ≤ 16
def R_require_keys : List PyData → (PyData → Prop) → Prop := fun ds P => ∃ (l : Lay) (ks : List Nat), ds = [dLay l, dNats ks] ∧ LayOk l ∧ KeysOk l ks ∧ P .none
abbrev s_require_keys : Stmt := top 49
theorem sc_require_keys : FnScope ["layout", "keys", "key", "one", "other"] ["layout", "keys"] (defScope s_require_keys) := ⟨rfl, rfl, rfl, by decide +kernel, rfl, by decide +kernel, by decide +kernel⟩
theorem ok_require_keys (B : Bl mg) (F_is_integer : Fx P w K mg base 1 "is_integer" ["value", "first", "last"] (pf R_is_integer)) {f : Addr} {fd : FuncData} (A : At K mg "require_keys" "require_keys" s_require_keys f fd) : Fx P w K mg base 2 "require_keys" ["layout", "keys"] (pf R_require_keys) := by
  refine ok_pf A sc_require_keys (A.fn.binds fun _ _ _ _ _ _ us hl => match us, hl with | [_, _], _ => rfl) ?len fun cdv A outer s H E hr => ⟨_, (ass_cons (as_if (at_bool (aw_or (at_not (at_val (ax_isi (ax_v 1) (by rfl) B.isinstance (by rfl) B.list rfl))) (aw_or1 (at_not (at_val (ax_callB (cr_all rfl) sndC_all (by rfl) B.all (by decide +kernel) (axa_cons (ax_sh (ax_lc (own := [("key", 2)]) rfl sc_require_keys.nd (ai_list (ax_v 1)) (blkOk_by (show blkC ["layout", "keys", "key", "one", "other"] (defScope s_require_keys) _ [("key", 2)] = true from by decide +kernel)) (fun _ _ _ _ _ => (ag_n 2 sc_require_keys.nd)) (fun _ _ _ _ _ => ats_nil) (fun _ _ _ _ _ => ax_c (ax_fn F_is_integer (hr.mono (by decide)) (by rfl) (axa_cons (ax_v 2) (axa_cons ax_int (axa_cons (ax_sub (ax_callB call_len sndC_len (by rfl) B.len PySem.boot_len (axa_cons (ax_ix (ax_v 0) ax_int) axa_nil)) ax_int) axa_nil))))))) axa_nil))))))) (ass_one as_never) ass_nil)
      (ass_one (as_if (at_not (at_val (ax_callB (cr_all rfl) sndC_all (by rfl) B.all (by decide +kernel) (axa_cons (ax_sh (ax_lc (own := [("one", 3), ("other", 4)]) rfl sc_require_keys.nd (ai_zip (by rfl) B.zip (axa_cons (ax_v 1) (axa_cons (ax_tail (ax_v 1)) axa_nil))) (blkOk_by (show blkC ["layout", "keys", "key", "one", "other"] (defScope s_require_keys) _ [("one", 3), ("other", 4)] = true from by decide +kernel)) (fun _ _ _ _ _ => ag_c (ag_tup (n := 2) rfl (ags_cons (ag_n 3 sc_require_keys.nd) (ags_cons (ag_n 4 sc_require_keys.nd) ags_nil)))) (fun _ _ _ _ _ => ats_nil) (fun _ _ _ _ _ => ax_c (ax_lt (ax_v 3) (ax_v 4))))) axa_nil)))) (ass_one as_never) ass_nil))), ?body⟩
  case len =>
    rintro ds P ⟨_, _, rfl, _⟩
    rfl
  case body =>
    rintro ds Q ⟨l, ks, rfl, hl, ok, h⟩
    show sSeq _ _ _ [.sh (dLay l), .sh (dNats ks), .no, .no, .no]
    obtain ⟨r0, h0, hw⟩ := lay_head hl
    simp
    refine lc_m ks (fun (n : Nat) => .int n) (fun _ => .bool true) rfl (sz_lt ok.len) ?_ ?_
    · intro k hk KT KF kk
      have h1 := ok.lt k hk
      simp [h0]
      refine R_int2 (by omega) (by omega) ?_
      exact kk [.sh (dLay l), .sh (dNats ks), .sh (.int k), .no, .no] rfl
    · simp
      refine lc_m (ks.zip (ks.drop 1)) (fun p => .tuple [.int (p.1 : Nat), .int (p.2 : Nat)]) (fun _ => .bool true) (by rw [← List.drop_one, ← List.map_drop]; exact zipD_map ks (ks.drop 1) (fun (n : Nat) => .int n) (fun (n : Nat) => .int n)) ?_ ?_ ?_
      · rw [List.length_zip]
        exact sz_lt (m := 16) (Nat.le_trans (Nat.min_le_left _ _) ok.len)
      · rintro ⟨a, b⟩ hp KT KF kk
        have h1 : a < b := ok.up _ hp
        simp [h1]
        exact kk [.sh (dLay l), .sh (dNats ks), .no, .sh (.int a), .sh (.int b)] rfl
      · simp
        exact h
def R_require_arguments : List PyData → (PyData → Prop) → Prop := fun ds P => ∃ (l : Lay) (rec : Rec) (ks : List Nat) (late : Int), ds = [dLay l, dRec rec, dNats ks, .int late] ∧ LayOk l ∧ RecOk (wide l - 1) rec ∧ KeysOk l ks ∧ rec.length ≤ 8 ∧ 0 ≤ late ∧ late ≤ 10 ^ 9 ∧ P .none
abbrev s_require_arguments : Stmt := top 50
theorem sc_require_arguments : FnScope ["layout", "record", "keys", "late"] ["layout", "record", "keys", "late"] (defScope s_require_arguments) := ⟨rfl, rfl, rfl, by decide +kernel, rfl, by decide +kernel, by decide +kernel⟩
theorem ok_require_arguments (B : Bl mg) (F_is_integer : Fx P w K mg base 1 "is_integer" ["value", "first", "last"] (pf R_is_integer)) (F_require_layout : Fx P w K mg base 5 "require_layout" ["layout"] (pf R_require_layout)) (F_require_record : Fx P w K mg base 6 "require_record" ["layout", "record"] (pf R_require_record)) (F_require_keys : Fx P w K mg base 2 "require_keys" ["layout", "keys"] (pf R_require_keys)) {f : Addr} {fd : FuncData} (A : At K mg "require_arguments" "require_arguments" s_require_arguments f fd) : Fx P w K mg base 7 "require_arguments" ["layout", "record", "keys", "late"] (pf R_require_arguments) := by
  refine ok_pf A sc_require_arguments (A.fn.binds fun _ _ _ _ _ _ us hl => match us, hl with | [_, _, _, _], _ => rfl) ?len fun cdv A outer s H E hr => ⟨_, (ass_cons (as_expr (ax_fn F_require_layout (hr.mono (by decide)) (by rfl) (axa_cons (ax_v 0) axa_nil)))
      (ass_cons (as_expr (ax_fn F_require_record (hr.mono (by decide)) (by rfl) (axa_cons (ax_v 0) (axa_cons (ax_v 1) axa_nil))))
      (ass_cons (as_expr (ax_fn F_require_keys (hr.mono (by decide)) (by rfl) (axa_cons (ax_v 0) (axa_cons (ax_v 2) axa_nil))))
      (ass_cons (as_if (at_not (at_val (ax_fn F_is_integer (hr.mono (by decide)) (by rfl) (axa_cons (ax_v 3) (axa_cons ax_int (axa_cons (ax_gI (by rfl) B.lATE) axa_nil)))))) (ass_one as_never) ass_nil)
      (ass_one (as_if (at_gt (ax_callB call_len sndC_len (by rfl) B.len PySem.boot_len (axa_cons (ax_v 1) axa_nil)) (ax_gI (by rfl) B.eIGHT)) (ass_one as_never) ass_nil)))))), ?body⟩
  case len =>
    rintro ds P ⟨_, _, _, _, rfl, _⟩
    rfl
  case body =>
    rintro ds Q ⟨l, rec, ks, late, rfl, hl, hr, hk, hz, h1, h2, h⟩
    show sSeq _ _ _ [.sh (dLay l), .sh (dRec rec), .sh (dNats ks), .sh (.int late)]
    simp
    refine ⟨l, rfl, hl, l, rec, rfl, hl, hr, l, ks, rfl, hl, hk, R_int2 h1 h2 ?_⟩
    have e : ¬ ((8 : Int) < rec.length) := by omega
    have e' : (rec.length : Int) ≤ 8 := by omega
    simp [e, e']
    exact h
def merged : List Nat → List Nat → List (List Nat)
  | [], ys => [ys]
  | x :: xs, [] => [x :: xs]
  | x :: xs, y :: ys => (merged xs (y :: ys)).map (x :: ·) ++ (merged (x :: xs) ys).map (y :: ·)
termination_by xs ys => xs.length + ys.length
theorem merged_len : ∀ (n : Nat) (xs ys : List Nat), xs.length + ys.length ≤ n → (merged xs ys).length ≤ 2 ^ n := fun n => by
  induction n with
  | zero =>
    intro xs ys h
    have e1 : xs = [] := List.length_eq_zero_iff.mp (by omega)
    subst e1
    simp [merged]
  | succ n ih =>
    intro xs ys h
    have hp : 1 ≤ 2 ^ (n + 1) := Nat.one_le_two_pow
    match xs, ys with
    | [], ys => simp [merged]; exact hp
    | x :: xs, [] => simp [merged]; exact hp
    | x :: xs, y :: ys =>
      have h1 := ih xs (y :: ys) (by simp at h ⊢; omega)
      have h2 := ih (x :: xs) ys (by simp at h ⊢; omega)
      rw [merged, List.length_append, List.length_map, List.length_map, Nat.pow_succ]
      omega
theorem merged_mem : ∀ (n : Nat) (xs ys : List Nat), xs.length + ys.length ≤ n → ∀ r ∈ merged xs ys, r.length = xs.length + ys.length := fun n => by
  induction n with
  | zero =>
    intro xs ys h r hr
    have e1 : xs = [] := List.length_eq_zero_iff.mp (by omega)
    subst e1
    simp [merged] at hr
    rw [hr]
    simp
  | succ n ih =>
    intro xs ys h r hr
    match xs, ys, h, hr with
    | [], ys, h, hr =>
      simp [merged] at hr
      rw [hr]
      simp
    | x :: xs, [], h, hr =>
      simp [merged] at hr
      rw [hr]
      simp
    | x :: xs, y :: ys, h, hr =>
      rw [merged] at hr
      rcases List.mem_append.mp hr with z | z
      · obtain ⟨r', h1, e⟩ := List.mem_map.mp z
        have h2 := ih xs (y :: ys) (by simp at h ⊢; omega) r' h1
        rw [← e]
        simp at h2 ⊢
        omega
      · obtain ⟨r', h1, e⟩ := List.mem_map.mp z
        have h2 := ih (x :: xs) ys (by simp at h ⊢; omega) r' h1
        rw [← e]
        simp at h2 ⊢
        omega
def R_merged_rows (n : Nat) : List PyData → (PyData → Prop) → Prop := fun ds P => ∃ (a b : List Nat), ds = [dNats a, dNats b] ∧ a.length + b.length < n ∧ n ≤ 11 ∧ P (.list ((merged a b).map dNats))
theorem nats_nil (a : List Nat) : PyData.eqv (dNats a) (.list []) = a.isEmpty := by cases a <;> simp
@[simp] theorem nats_cl (a : List Nat) : PyData.canLayAll0 (a.map fun (n : Nat) => .int n) = true := by
  induction a with
  | nil => simp
  | cons x a ih => simp [ih]
@[simp] theorem nats_dp (a : List Nat) : PyData.depthAll (a.map fun (n : Nat) => .int n) = 0 := by
  induction a with
  | nil => simp
  | cons x a ih => simp [ih]
abbrev s_merged_rows : Stmt := top 51
theorem sc_merged_rows : FnScope ["first", "second", "rows", "row"] ["first", "second"] (defScope s_merged_rows) := ⟨rfl, rfl, rfl, by decide +kernel, rfl, by decide +kernel, by decide +kernel⟩
theorem ok_merged_rows (B : Bl mg) {f : Addr} {fd : FuncData} (A : At K mg "merged_rows" "merged_rows" s_merged_rows f fd) : ∀ n, Fx P w K mg base (n + 1) "merged_rows" ["first", "second"] (pf (R_merged_rows n)) := fun n => by
  induction n with
  | zero =>
    refine ok_pf A sc_merged_rows (A.fn.binds fun _ _ _ _ _ _ us hl => match us, hl with | [_, _], _ => rfl) ?_ fun cdv A outer s H E hr => ⟨_, ass_never, ?_⟩
    · rintro ds P ⟨a, b, rfl, _⟩
      rfl
    · rintro ds Q ⟨a, b, rfl, h, _⟩
      omega
  | succ n ih =>
    have F_merged_rows := ih
    refine ok_pf A sc_merged_rows (A.fn.binds fun _ _ _ _ _ _ us hl => match us, hl with | [_, _], _ => rfl) ?_ fun cdv A outer s H E hr => ⟨_, (ass_cons (as_if (at_bool (aw_or (at_eq hr.units (ax_v 0) (ax_lst axa_nil)) (aw_or1 (at_eq hr.units (ax_v 1) (ax_lst axa_nil))))) (ass_one (as_ret (ax_lst (axa_cons (ax_cat (ax_v 0) (ax_v 1)) axa_nil)))) ass_nil)
      (ass_cons (as_setLc 2 (own := [("row", 3)]) aSh snd_sh rfl sc_merged_rows.nd (ai_list (ax_fn F_merged_rows (hr.mono (Nat.le_refl _)) (by rfl) (axa_cons (ax_tail (ax_v 0)) (axa_cons (ax_v 1) axa_nil)))) (blkOk_by (show blkC ["first", "second", "rows", "row"] (defScope s_merged_rows) _ [("row", 3)] = true from by decide +kernel)) (fun _ _ _ _ _ => (ag_n 3 sc_merged_rows.nd)) (fun _ _ _ _ _ => ats_nil) (fun _ _ _ _ _ => ax_c (ax_lst (axa_cons (ax_ix (ax_v 0) ax_int) (axa_star (sp_ := ⟨0, 0, 0, 0⟩) (ax_v 3) axa_nil)))) (sw_true rfl rfl rfl (by decide +kernel)))
      (ass_one (as_ret (ax_cat (ax_v 2) (ax_sh (ax_lc (own := [("row", 3)]) rfl sc_merged_rows.nd (ai_list (ax_fn F_merged_rows (hr.mono (Nat.le_refl _)) (by rfl) (axa_cons (ax_v 0) (axa_cons (ax_tail (ax_v 1)) axa_nil)))) (blkOk_by (show blkC ["first", "second", "rows", "row"] (defScope s_merged_rows) _ [("row", 3)] = true from by decide +kernel)) (fun _ _ _ _ _ => (ag_n 3 sc_merged_rows.nd)) (fun _ _ _ _ _ => ats_nil) (fun _ _ _ _ _ => ax_c (ax_lst (axa_cons (ax_ix (ax_v 1) ax_int) (axa_star (sp_ := ⟨0, 0, 0, 0⟩) (ax_v 3) axa_nil))))))))))), ?_⟩
    · rintro ds P ⟨a, b, rfl, _⟩
      rfl
    · rintro ds Q ⟨a, b, rfl, hn, hm, h⟩
      show sSeq _ _ _ [.sh (dNats a), .sh (dNats b), .no, .no]
      have na := nats_nil a
      have nb := nats_nil b
      simp only [dNats_eq] at na nb
      simp [na, nb]
      match a, b, hn, h with
      | [], b, hn, h =>
        simp [merged] at h
        simp
        exact ⟨szb (m := 11) (by simp at hn; omega) (by decide), h⟩
      | x :: xs, [], hn, h =>
        simp [merged] at h
        simp
        exact ⟨szb (m := 11) (by simp at hn; omega) (by decide), h⟩
      | x :: xs, y :: ys, hn, h =>
        have hl1 : xs.length + (ys.length + 1) < n := by simp at hn; omega
        have hl2 : (xs.length + 1) + ys.length < n := by simp at hn; omega
        have hp : ∀ m, m ≤ 10 → 2 ^ m ≤ 1024 := fun m hm => Nat.pow_le_pow_right (by decide) hm
        have m1 : (merged xs (y :: ys)).length ≤ 1024 := Nat.le_trans (merged_len 10 _ _ (by simp; omega)) (hp _ (by omega))
        have m2 : (merged (x :: xs) ys).length ≤ 1024 := Nat.le_trans (merged_len 10 _ _ (by simp; omega)) (hp _ (by omega))
        simp
        refine ⟨xs, y :: ys, rfl, by simp; omega, by omega, _, rfl, ?_⟩
        refine lc_m (merged xs (y :: ys)) dNats (fun r => dNats (x :: r)) rfl (Nat.lt_of_le_of_lt m1 (by decide)) ?_ ?_
        · intro r hr KT KF kk
          have hrl := merged_mem 10 _ _ (by simp; omega) r hr
          have z1 : r.length + 1 ≤ sizeLine := szb (m := 12) (by simp at hrl; omega) (by decide)
          simp [z1]
          exact kk [.sh (dNats (x :: xs)), .sh (dNats (y :: ys)), .no, .sh (dNats r)] rfl
        · simp
          refine ⟨x :: xs, ys, rfl, by simp; omega, by omega, _, rfl, ?_⟩
          refine lc_m (merged (x :: xs) ys) dNats (fun r => dNats (y :: r)) rfl (Nat.lt_of_le_of_lt m2 (by decide)) ?_ ?_
          · intro r hr KT KF kk
            have hrl := merged_mem 10 _ _ (by simp; omega) r hr
            have z1 : r.length + 1 ≤ sizeLine := szb (m := 12) (by simp at hrl; omega) (by decide)
            simp [z1]
            exact kk [.sh (dNats (x :: xs)), .sh (dNats (y :: ys)), .sh (.list ((merged xs (y :: ys)).map fun r => dNats (x :: r))), .sh (dNats r)] rfl
          · simp
            refine ⟨szb (m := 2048) (by omega) (by decide), ?_⟩
            rw [merged, List.map_append, List.map_map, List.map_map] at h
            simpa [Function.comp_def] using h
def evT (rec : Rec) (i : Nat) : Int := (rec[i]?.map (·.t)).getD 0
def evK (rec : Rec) (i : Nat) : Nat := (rec[i]?.map (·.k)).getD 0
def tickOf (rec : Rec) (i : Nat) : Int := evT rec i - evT rec 0
def ordB (row : List Nat) (p : Nat) : Bd := ⟨p, p + 1, if row[p + 1]?.getD 0 < row[p]?.getD 0 then 1 else 0⟩
def twoB (rec : Rec) (ks : List Nat) (n : Nat) (x : Nat × Nat) : List Bd := [⟨n, x.2, tickOf rec x.1⟩, ⟨x.2, if ks.contains (evK rec x.1) then n + 1 else n, -tickOf rec x.1⟩]
def boundsF (rec : Rec) (ks : List Nat) (row : List Nat) : List Bd := (List.range (row.length - 1)).map (ordB row) ++ row.zipIdx.flatMap (twoB rec ks row.length)
theorem nats_in (ks : List Nat) (k : Nat) : ((ks.map fun (n : Nat) => PyData.int n).any fun z => PyData.eqv z (.int k)) = ks.contains k := by
  induction ks with
  | nil => rfl
  | cons a r ih =>
    rw [List.map_cons, List.any_cons, ih, List.contains_cons]
    congr 1
    simp
    rw [Bool.eq_iff_iff]
    simp
    omega
theorem nats_fl (ks : List Nat) : ((ks.map fun (n : Nat) => PyData.int n).all fl) = true := by
  rw [List.all_map, List.all_eq_true]
  exact fun _ _ => rfl
def R_arrival_bounds : List PyData → (PyData → Prop) → Prop := fun ds P => ∃ (rec : Rec) (ks row : List Nat), ds = [dRec rec, dNats ks, dNats row] ∧ (∀ i ∈ row, i < rec.length) ∧ row.length ≤ 100 ∧ P (.list ((boundsF rec ks row).map dBd))
abbrev s_arrival_bounds : Stmt := top 52
theorem sc_arrival_bounds : FnScope ["record", "keys", "row", "begin", "late", "found", "place", "number", "tick"] ["record", "keys", "row"] (defScope s_arrival_bounds) := ⟨rfl, rfl, rfl, by decide +kernel, rfl, by decide +kernel, by decide +kernel⟩
theorem ok_arrival_bounds (B : Bl mg)  {f : Addr} {fd : FuncData} (A : At K mg "arrival_bounds" "arrival_bounds" s_arrival_bounds f fd) : Fx P w K mg base 1 "arrival_bounds" ["record", "keys", "row"] (pf R_arrival_bounds) := by
  refine ok_pf A sc_arrival_bounds (A.fn.binds fun _ _ _ _ _ _ us hl => match us, hl with | [_, _, _], _ => rfl) ?len fun cdv A outer s H E hr => ⟨_, (ass_cons (as_par (i := 3) (j := 4) rfl sc_arrival_bounds.nd (axa_cons (ax_callB call_len sndC_len (by rfl) B.len PySem.boot_len (axa_cons (ax_v 2) axa_nil)) (axa_cons (ax_add (ax_callB call_len sndC_len (by rfl) B.len PySem.boot_len (axa_cons (ax_v 2) axa_nil)) ax_int) axa_nil)))
      (ass_cons (as_setLc 5 (own := [("place", 6)]) (fun τ => τ) snd_id rfl sc_arrival_bounds.nd (ai_range1 (by rfl) B.range (axa_cons (ax_sub (ax_callB call_len sndC_len (by rfl) B.len PySem.boot_len (axa_cons (ax_v 2) axa_nil)) ax_int) axa_nil)) (blkOk_by (show blkC ["record", "keys", "row", "begin", "late", "found", "place", "number", "tick"] (defScope s_arrival_bounds) _ [("place", 6)] = true from by decide +kernel)) (fun _ _ _ _ _ => (ag_n 6 sc_arrival_bounds.nd)) (fun _ _ _ _ _ => ats_nil) (fun _ _ _ _ _ => ax_c (ax_tup (axa_cons (ax_v 6) (axa_cons (ax_add (ax_v 6) ax_int) (axa_cons (ax_callTy call_int1 sndC_int1 (by rfl) B.int (by decide +kernel) (axa_cons (ax_gt (ax_ix (ax_v 2) (ax_v 6)) (ax_ix (ax_v 2) (ax_add (ax_v 6) ax_int))) axa_nil)) axa_nil))))) (sw_true rfl rfl rfl (by decide +kernel)))
      (ass_cons (as_for PassesOwn.never rfl (ai_enum (by rfl) B.enumerate (axa_cons (ax_v 2) axa_nil)) (ag_tup (n := 2) rfl (ags_cons (ag_n 6 sc_arrival_bounds.nd) (ags_cons (ag_n 7 sc_arrival_bounds.nd) ags_nil)))
        (ass_cons (as_set 8 sc_arrival_bounds.nd (ax_sub (ax_ix (ax_ix (ax_v 0) (ax_v 7)) ax_int) (ax_ix (ax_ix (ax_v 0) ax_int) ax_int)))
      (ass_cons (as_append 5 (ax_tup (axa_cons (ax_v 3) (axa_cons (ax_v 6) (axa_cons (ax_v 8) axa_nil)))))
      (ass_one (as_append 5 (ax_tup (axa_cons (ax_v 6) (axa_cons (ax_if (at_in (ax_ix (ax_ix (ax_v 0) (ax_v 7)) ax_int) (ax_v 1)) (ax_v 4) (ax_v 3)) (axa_cons (ax_neg (ax_v 8)) axa_nil)))))))))
      (ass_one (as_ret (ax_sh (ax_mv 5))))))), ?body⟩
  case len =>
    rintro ds P ⟨_, _, _, rfl, _⟩
    rfl
  case body =>
    rintro ds Q ⟨rec, ks, row, rfl, hr, hz, h⟩
    show sSeq _ _ _ [.sh (dRec rec), .sh (dNats ks), .sh (dNats row), .no, .no, .no, .no, .no, .no]
    simp
    refine ⟨by omega, by omega, ?_⟩
    refine lc_m (List.range (row.length - 1)) (fun (p : Nat) => .int p) (fun p => dBd (ordB row p)) ?_ (by rw [List.length_range]; exact sz_lt (m := 100) (by omega)) ?_ ?_
    · rw [rangeD_map]
      simp
    · intro p hp KT KF kk
      have hp' : p + 1 < row.length := by
        rw [List.mem_range] at hp
        omega
      obtain ⟨a, ha⟩ : ∃ a, row[p]? = some a := ⟨_, List.getElem?_eq_getElem (by omega)⟩
      obtain ⟨b, hb⟩ : ∃ b, row[p + 1]? = some b := ⟨_, List.getElem?_eq_getElem hp'⟩
      have hat : atI (row.map fun (n : Nat) => PyData.int n) ((p : Int) + 1) = some (.int b) := by
        have e : (p : Int) + 1 = ((p + 1 : Nat) : Int) := by omega
        rw [e, atI_nat, List.getElem?_map, hb]
        rfl
      simp [ha, hat]
      have q := kk [.sh (dRec rec), .sh (dNats ks), .sh (dNats row), .sh (.int row.length), .sh (.int (row.length + 1)), .no, .sh (.int p), .no, .no] rfl
      simp [ordB, ha, hb] at q
      by_cases hc : b < a
      · rw [if_pos hc] at q
        exact Or.inr ⟨hc, q⟩
      · rw [if_neg hc] at q
        exact Or.inl ⟨by omega, q⟩
    · simp
      refine for_t row.zipIdx (fun p => .tuple [.int (p.2 : Nat), .int (p.1 : Nat)]) (fun q Γ => ∃ a b c, Γ = [.sh (dRec rec), .sh (dNats ks), .sh (dNats row), .sh (.int row.length), .sh (.int (row.length + 1)), .lst ((((List.range (row.length - 1)).map (ordB row) ++ q.flatMap (twoB rec ks row.length)).map dBd).map .sh), a, b, c]) (enumD_map _ _) ⟨.no, .no, .no, by simp [Function.comp_def]⟩ ?_ ?_
      · rintro q ⟨i, n⟩ q2 Γ2 e ⟨a, b, c, rfl⟩
        obtain ⟨e2, en, hn⟩ := enum_split e
        have hi := hr i (List.mem_of_getElem? hn)
        have hnl := (List.getElem?_eq_some_iff.mp hn).1
        obtain ⟨x, hx⟩ : ∃ x, rec[i]? = some x := ⟨_, List.getElem?_eq_getElem hi⟩
        obtain ⟨x0, hx0⟩ : ∃ x, rec[0]? = some x := ⟨_, List.getElem?_eq_getElem (by omega)⟩
        have hlen : ((List.range (row.length - 1)).map (ordB row) ++ q.flatMap (twoB rec ks row.length)).length + 2 ≤ 1000 := by
          have h4 : ∀ q : List (Nat × Nat), (q.flatMap (twoB rec ks row.length)).length = 2 * q.length := fun q => by
            induction q with
            | nil => rfl
            | cons v vs ihv =>
              rw [List.flatMap_cons, List.length_append, ihv]
              simp [twoB]
              omega
          rw [List.length_append, h4, List.length_map, List.length_range]
          omega
        rw [List.flatMap_append, ← List.append_assoc]
        generalize (List.range (row.length - 1)).map (ordB row) ++ q.flatMap (twoB rec ks row.length) = acc at hlen ⊢
        have z1 : acc.length < sizeLine := Nat.lt_of_lt_of_le (by omega : _ < 1000) (by decide)
        have z2 : acc.length + 1 < sizeLine := Nat.lt_of_lt_of_le (by omega : _ < 1000) (by decide)
        have ht : tickOf rec i = x.t - x0.t := by simp [tickOf, evT, hx, hx0]
        have hkk : evK rec i = x.k := by simp [evK, hx]
        have hin := nats_in ks x.k
        have hfl := nats_fl ks
        simp [hx, hx0, z1, z2, hin, hfl]
        by_cases hc : x.k ∈ ks
        · simp [twoB, ht, hkk, hc]
          exact fun hh => (hh x.k hc rfl).elim
        · simp [twoB, ht, hkk, hc]
          exact fun a' ha' e' => (hc ((by omega : a' = x.k) ▸ ha')).elim
      · rintro Γ2 ⟨a, b, c, rfl⟩
        exact ⟨_, rfl, rfl, _, _, rfl, unsh_map _, rfl, _, rfl, h⟩
end HT2
set_option maxRecDepth 100000
set_option maxHeartbeats 4000000
namespace HT2
open PySem PySem.Spec PyProof.Rows L2 StX PL
variable {P : Program} {w : World} {K : PySem.W.Frag} {mg : Str → Option Value} {base : Heap}
def hereF (rec : Rec) (ks : List Nat) : List Nat := (rec.zipIdx.filter fun x => !ks.contains x.1.k).map (·.2)
def thereF (rec : Rec) (ks : List Nat) : List Nat := (rec.zipIdx.filter fun x => ks.contains x.1.k).map (·.2)
def evS (rec : Rec) (i : Nat) : Nat × Bool := (rec[i]?.map Ev.s).getD (0, false)
structure Arr where
  least : Int
  outs : List Out
  del : List Int
def dArr (a : Arr) : PyData := .tuple [.int a.least, .list (a.outs.map dOut), dInts a.del]
@[simp] theorem dArr_eq (a : Arr) : dArr a = .tuple [.int a.least, .list (a.outs.map dOut), dInts a.del] := rfl
def delF (rec : Rec) (ts : List Int) (ds : List Int) (x : Nat × Nat) : List Int := ds.set x.1 (ts[x.2]?.getD 0 - tickOf rec x.1)
def delaysF (rec : Rec) (row : List Nat) (ts : List Int) : List Int := row.zipIdx.foldl (delF rec ts) (List.replicate row.length 0)
def arrOf (rec : Rec) (row : List Nat) (x : Wst) : Arr := ⟨x.ticks.getLast?.getD 0, x.result.filter (fun o => !isNo o), delaysF rec row x.ticks⟩
def rowF (l : Lay) (rec : Rec) (ks : List Nat) (row : List Nat) : List Arr := match lift (boundsF rec ks row) (List.replicate (row.length + 2) 0) with
  | none => []
  | some ts => (waysF (row.map (evS rec)) ⟨pInit l, boundsF rec ks row, ts, [], []⟩).map (arrOf rec row)
def arrF (l : Lay) (rec : Rec) (ks : List Nat) : List Arr := (merged (hereF rec ks) (thereF rec ks)).flatMap (rowF l rec ks)
theorem merged_in : ∀ (n : Nat) (xs ys : List Nat), xs.length + ys.length ≤ n → ∀ r ∈ merged xs ys, ∀ i ∈ r, i ∈ xs ∨ i ∈ ys := fun n => by
  induction n with
  | zero =>
    intro xs ys h r hr i hi
    have e1 : xs = [] := List.length_eq_zero_iff.mp (by omega)
    subst e1
    simp [merged] at hr
    rw [hr] at hi
    exact Or.inr hi
  | succ n ih =>
    intro xs ys h r hr i hi
    match xs, ys, h, hr with
    | [], ys, h, hr =>
      simp [merged] at hr
      rw [hr] at hi
      exact Or.inr hi
    | x :: xs, [], h, hr =>
      simp [merged] at hr
      rw [hr] at hi
      exact Or.inl hi
    | x :: xs, y :: ys, h, hr =>
      rw [merged] at hr
      rcases List.mem_append.mp hr with z | z
      · obtain ⟨r', h1, e⟩ := List.mem_map.mp z
        subst e
        rcases List.mem_cons.mp hi with q | q
        · exact Or.inl (q ▸ List.mem_cons_self)
        · rcases ih xs (y :: ys) (by simp at h ⊢; omega) r' h1 i q with q | q
          · exact Or.inl (List.mem_cons_of_mem _ q)
          · exact Or.inr q
      · obtain ⟨r', h1, e⟩ := List.mem_map.mp z
        subst e
        rcases List.mem_cons.mp hi with q | q
        · exact Or.inr (q ▸ List.mem_cons_self)
        · rcases ih (x :: xs) ys (by simp at h ⊢; omega) r' h1 i q with q | q
          · exact Or.inl q
          · exact Or.inr (List.mem_cons_of_mem _ q)
theorem half_len (rec : Rec) (ks : List Nat) : (hereF rec ks).length + (thereF rec ks).length = rec.length := by
  unfold hereF thereF
  rw [List.length_map, List.length_map]
  have gen : ∀ l : List (Ev × Nat), (l.filter fun x => !ks.contains x.1.k).length + (l.filter fun x => ks.contains x.1.k).length = l.length := fun l => by
    induction l with
    | nil => rfl
    | cons a l ih =>
      cases h : ks.contains a.1.k <;> simp only [List.filter_cons, h] <;> simp <;> simp at ih <;> omega
  rw [gen, List.length_zipIdx]
theorem half_lt {rec : Rec} {ks : List Nat} {i : Nat} (h : i ∈ hereF rec ks ∨ i ∈ thereF rec ks) : i < rec.length := by
  have gen : ∀ p : (Ev × Nat) → Bool, i ∈ (rec.zipIdx.filter p).map (·.2) → i < rec.length := fun p hp => by
    obtain ⟨x, hx, e⟩ := List.mem_map.mp hp
    have h1 := (List.mem_filter.mp hx).1
    have h2 := List.mem_zipIdx_iff_getElem?.mp h1
    rw [← e]
    exact (List.getElem?_eq_some_iff.mp h2).1
  rcases h with h | h
  · exact gen _ h
  · exact gen _ h
structure RowOk (rec : Rec) (row : List Nat) : Prop where
  len : row.length = rec.length
  lt : ∀ i ∈ row, i < rec.length
theorem row_ok {rec : Rec} {ks row : List Nat} (h : row ∈ merged (hereF rec ks) (thereF rec ks)) : RowOk rec row := by
  have h1 := half_len rec ks
  exact ⟨(merged_mem rec.length _ _ (by omega) row h).trans h1, fun i hi => half_lt (merged_in rec.length _ _ (by omega) row h i hi)⟩
theorem bounds_ok {rec : Rec} {ks row : List Nat} : bdsOk (row.length + 2) (boundsF rec ks row) := fun b hb => by
  rcases List.mem_append.mp hb with z | z
  · obtain ⟨p, hp, e⟩ := List.mem_map.mp z
    rw [List.mem_range] at hp
    subst e
    simp [ordB]
    omega
  · obtain ⟨x, hx, h⟩ := List.mem_flatMap.mp z
    have h2 := List.mem_zipIdx_iff_getElem?.mp hx
    have h3 := (List.getElem?_eq_some_iff.mp h2).1
    simp [twoB] at h
    rcases h with e | e <;> subst e <;> simp
    · omega
    · split <;> omega
theorem bounds_len {rec : Rec} {ks row : List Nat} : (boundsF rec ks row).length ≤ 3 * row.length := by
  have h4 : ∀ q : List (Nat × Nat), (q.flatMap (twoB rec ks row.length)).length = 2 * q.length := fun q => by
    induction q with
    | nil => rfl
    | cons v vs ihv =>
      rw [List.flatMap_cons, List.length_append, ihv]
      simp [twoB]
      omega
  unfold boundsF
  rw [List.length_append, h4, List.length_map, List.length_range, List.length_zipIdx]
  omega
def way0 (l : Lay) (rec : Rec) (ks row : List Nat) (ts : List Int) : Wst := ⟨pInit l, boundsF rec ks row, ts, [], []⟩
theorem way0_ok {l : Lay} (hl : LayOk l) {rec : Rec} {ks row : List Nat} {ts : List Int} (hz : row.length ≤ 100) (ht : ts.length = row.length + 2) : WayOk l 0 (row.length + 2) (way0 l rec ks row ts) := by
  have h := bounds_len (rec := rec) (ks := ks) (row := row)
  exact ⟨pInit_ok hl 0, rfl, bounds_ok, by show (boundsF rec ks row).length ≤ _; omega, ht, Nat.le_refl _, Nat.le_refl _, fun o ho => (by cases ho)⟩
theorem evS_key {l : Lay} {rec : Rec} (hk : keysOk l rec) {row : List Nat} (ok : RowOk rec row) : ∀ e ∈ row.map (evS rec), e.1 < wide l := fun e he => by
  obtain ⟨i, hi, h⟩ := List.mem_map.mp he
  have h1 := ok.lt i hi
  obtain ⟨x, hx⟩ : ∃ x, rec[i]? = some x := ⟨_, List.getElem?_eq_getElem h1⟩
  have e1 : evS rec i = x.s := by simp [evS, hx]
  rw [← h, e1]
  exact hk x (List.mem_of_getElem? hx)
theorem ways_fin {l : Lay} {x0 : Wst} {m : Nat} {order : List (Nat × Bool)} (hk : ∀ e ∈ order, e.1 < wide l) (hm : order.length ≤ m) (ok0 : WayOk l 0 m x0) : (∀ y ∈ waysF order x0, WayOk l order.length m y) ∧ (waysF order x0).length ≤ 2 ^ order.length := by
  have h := waysN_ok hk hm ok0 order.zipIdx fun e he => he
  rw [List.length_zipIdx, Nat.zero_add] at h
  exact h
theorem rowF_len {l : Lay} (hl : LayOk l) {rec : Rec} (hk : keysOk l rec) (hz : rec.length ≤ 8) {ks row : List Nat} (ok : RowOk rec row) : (rowF l rec ks row).length ≤ 256 := by
  unfold rowF
  split
  · simp
  · rename_i ts hts
    have ht := lift_len hts
    rw [List.length_replicate] at ht
    rw [List.length_map]
    have h1 := (ways_fin (evS_key hk ok) (by rw [List.length_map]; omega) (way0_ok hl (rec := rec) (ks := ks) (by have := ok.len; omega) ht)).2
    refine Nat.le_trans h1 ?_
    rw [List.length_map, ok.len]
    exact Nat.pow_le_pow_right (by decide) hz
theorem delaysF_len (rec : Rec) (row : List Nat) (ts : List Int) (q : List (Nat × Nat)) : (q.foldl (delF rec ts) (List.replicate row.length 0)).length = row.length := by
  have gen : ∀ (q : List (Nat × Nat)) (ds : List Int), (q.foldl (delF rec ts) ds).length = ds.length := fun q => by
    induction q with
    | nil => exact fun _ => rfl
    | cons x q ih =>
      intro ds
      rw [List.foldl_cons, ih]
      simp [delF]
  rw [gen, List.length_replicate]
def R_arrivals : List PyData → (PyData → Prop) → Prop := fun ds P => ∃ (l : Lay) (rec : Rec) (ks : List Nat), ds = [dLay l, dRec rec, dNats ks] ∧ LayOk l ∧ keysOk l rec ∧ rec.length ≤ 8 ∧ P (.list ((arrF l rec ks).map dArr))
abbrev s_arrivals : Stmt := top 53
theorem sc_arrivals : FnScope ["layout", "record", "keys", "here", "there", "found", "row", "bounds", "ticks", "order", "way", "delays", "place", "number", "event", "output"] ["layout", "record", "keys"] (defScope s_arrivals) := ⟨rfl, rfl, rfl, by decide +kernel, rfl, by decide +kernel, by decide +kernel⟩
theorem ok_arrivals (B : Bl mg) {CW : Addr} (HW : ClsO K CW NW) {CP : Addr} (HP : ClsO K CP NP) (F_lifted_numbers : Fx P w K mg base 1 "lifted_numbers" ["bounds", "begun"] (pf R_lifted_numbers)) (C_Player : Cx1 P w K mg base 1 "Player" CP ["self", "layout"] (S_Player___init__ CP)) (C_Way : Cx1 P w K mg base 1 "Way" CW ["self", "player", "bounds", "ticks"] (S_Way___init__ CP CW)) (F_ways_of : Fx P w K mg base 7 "ways_of" ["layout", "order", "begun"] (S_ways_of CP CW)) (F_merged_rows : Fx P w K mg base 12 "merged_rows" ["first", "second"] (pf (R_merged_rows 11))) (F_arrival_bounds : Fx P w K mg base 1 "arrival_bounds" ["record", "keys", "row"] (pf R_arrival_bounds)) {f : Addr} {fd : FuncData} (A : At K mg "arrivals" "arrivals" s_arrivals f fd) : Fx P w K mg base 13 "arrivals" ["layout", "record", "keys"] (pf R_arrivals) := by
  refine ok_pf A sc_arrivals (A.fn.binds fun _ _ _ _ _ _ us hl => match us, hl with | [_, _, _], _ => rfl) ?len fun cdv A outer s H E hr => ⟨_, (ass_cons (as_setLc 3 (own := [("number", 13), ("event", 14)]) aSh snd_sh rfl sc_arrivals.nd (ai_enum (by rfl) B.enumerate (axa_cons (ax_v 1) axa_nil)) (blkOk_by (show blkC ["layout", "record", "keys", "here", "there", "found", "row", "bounds", "ticks", "order", "way", "delays", "place", "number", "event", "output"] (defScope s_arrivals) _ [("number", 13), ("event", 14)] = true from by decide +kernel)) (fun _ _ _ _ _ => ag_c (ag_tup (n := 2) rfl (ags_cons (ag_n 13 sc_arrivals.nd) (ags_cons (ag_n 14 sc_arrivals.nd) ags_nil)))) (fun _ _ _ _ _ => ats_c (ats_one (at_notin (ax_ix (ax_v 14) ax_int) (ax_v 2)))) (fun _ _ _ _ _ => ax_c (ax_v 13)) (sw_true rfl rfl rfl (by decide +kernel)))
      (ass_cons (as_setLc 4 (own := [("number", 13), ("event", 14)]) aSh snd_sh rfl sc_arrivals.nd (ai_enum (by rfl) B.enumerate (axa_cons (ax_v 1) axa_nil)) (blkOk_by (show blkC ["layout", "record", "keys", "here", "there", "found", "row", "bounds", "ticks", "order", "way", "delays", "place", "number", "event", "output"] (defScope s_arrivals) _ [("number", 13), ("event", 14)] = true from by decide +kernel)) (fun _ _ _ _ _ => ag_c (ag_tup (n := 2) rfl (ags_cons (ag_n 13 sc_arrivals.nd) (ags_cons (ag_n 14 sc_arrivals.nd) ags_nil)))) (fun _ _ _ _ _ => ats_c (ats_one (at_in (ax_ix (ax_v 14) ax_int) (ax_v 2)))) (fun _ _ _ _ _ => ax_c (ax_v 13)) (sw_true rfl rfl rfl (by decide +kernel)))
      (ass_cons (as_set 5 sc_arrivals.nd (ax_lstO axa_nil))
      (ass_cons (as_for PassesOwn.never rfl (ai_list (ax_fn F_merged_rows (hr.mono (by decide)) (by rfl) (axa_cons (ax_v 3) (axa_cons (ax_v 4) axa_nil)))) (ag_n 6 sc_arrivals.nd)
        (ass_cons (as_set 7 sc_arrivals.nd (ax_fn F_arrival_bounds (hr.mono (by decide)) (by rfl) (axa_cons (ax_v 1) (axa_cons (ax_v 2) (axa_cons (ax_v 6) axa_nil)))))
      (ass_cons (as_set 8 sc_arrivals.nd (ax_fn F_lifted_numbers (hr.mono (by decide)) (by rfl) (axa_cons (ax_v 7) (axa_cons (ax_rep (ax_lst (axa_cons ax_int axa_nil)) (ax_add (ax_callB call_len sndC_len (by rfl) B.len PySem.boot_len (axa_cons (ax_v 6) axa_nil)) ax_int)) axa_nil))))
      (ass_one (as_if (at_notN (ax_v 8)) (ass_cons (as_setLc 9 (own := [("number", 13)]) aSh snd_sh rfl sc_arrivals.nd (ai_list (ax_v 6)) (blkOk_by (show blkC ["layout", "record", "keys", "here", "there", "found", "row", "bounds", "ticks", "order", "way", "delays", "place", "number", "event", "output"] (defScope s_arrivals) _ [("number", 13)] = true from by decide +kernel)) (fun _ _ _ _ _ => (ag_n 13 sc_arrivals.nd)) (fun _ _ _ _ _ => ats_nil) (fun _ _ _ _ _ => ax_c (ax_tail (ax_ix (ax_v 1) (ax_v 13)))) (sw_true rfl rfl rfl (by decide +kernel)))
      (ass_one (as_forO PassesOwn.never rfl (ax_fn F_ways_of (hr.mono (by decide)) (by rfl) (axa_cons (ax_v 0) (axa_cons (ax_v 9) (axa_cons (ax_make C_Way (hr.mono (by decide)) (by rfl) (axa_cons (ax_make C_Player (hr.mono (by decide)) (by rfl) (axa_cons (ax_v 0) axa_nil)) (axa_cons (ax_v 7) (axa_cons (ax_v 8) axa_nil)))) axa_nil)))) (ag_n 10 sc_arrivals.nd)
        (ass_cons (as_set 11 sc_arrivals.nd (ax_repO (ax_lst (axa_cons ax_int axa_nil)) (ax_callB call_len sndC_len (by rfl) B.len PySem.boot_len (axa_cons (ax_v 6) axa_nil))))
      (ass_cons (as_for PassesOwn.never rfl (ai_enum (by rfl) B.enumerate (axa_cons (ax_v 6) axa_nil)) (ag_tup (n := 2) rfl (ags_cons (ag_n 12 sc_arrivals.nd) (ags_cons (ag_n 13 sc_arrivals.nd) ags_nil)))
        (ass_one (as_setI 11 (ax_sub (ax_ix (ax_fld 10 2 (N := NW) HW.cls (HW.na _ (by decide)) NW_nd) (ax_v 12)) (ax_sub (ax_ix (ax_ix (ax_v 1) (ax_v 13)) ax_int) (ax_ix (ax_ix (ax_v 1) ax_int) ax_int))) (ax_v 13))))
      (ass_one (as_append 5 (ax_tup (axa_cons (ax_ix (ax_fld 10 2 (N := NW) HW.cls (HW.na _ (by decide)) NW_nd) (ax_neg ax_int)) (axa_cons (ax_sh (ax_lc (own := [("output", 15)]) rfl sc_arrivals.nd (ai_list (ax_fld 10 4 (N := NW) HW.cls (HW.na _ (by decide)) NW_nd)) (blkOk_by (show blkC ["layout", "record", "keys", "here", "there", "found", "row", "bounds", "ticks", "order", "way", "delays", "place", "number", "event", "output"] (defScope s_arrivals) _ [("output", 15)] = true from by decide +kernel)) (fun _ _ _ _ _ => (ag_n 15 sc_arrivals.nd)) (fun _ _ _ _ _ => ats_c (ats_one (at_ne hr.units (ax_v 15) (ax_tup axa_nil)))) (fun _ _ _ _ _ => ax_c (ax_v 15)))) (axa_cons (ax_sh (ax_mv 11)) axa_nil))))))))))) ass_nil)))))
      (ass_one (as_ret (ax_sh (ax_mv 5)))))))), ?body⟩
  case len =>
    rintro ds P ⟨_, _, _, rfl, _⟩
    rfl
  case body =>
    rintro ds Q ⟨l, rec, ks, rfl, hl, hk, hz, h⟩
    show sSeq _ _ _ [.sh (dLay l), .sh (dRec rec), .sh (dNats ks), .no, .no, .no, .no, .no, .no, .no, .no, .no, .no, .no, .no, .no]
    have hfl := nats_fl ks
    have hin := nats_in ks
    have hhl := half_len rec ks
    simp
    refine lc_f rec.zipIdx (fun p => .tuple [.int (p.2 : Nat), dEv p.1]) (fun p => .int (p.2 : Nat)) (fun x => !ks.contains x.1.k) (enumD_map _ _) (by rw [List.length_zipIdx]; exact sz_lt hz) ?_ ?_
    · rintro ⟨x, n⟩ hx KT KF k1 k2
      simp [hfl]
      by_cases hc : x.k ∈ ks
      · exact Or.inl ⟨⟨_, ⟨x.k, hc, rfl⟩, by simp⟩, k2 [.sh (dLay l), .sh (dRec rec), .sh (dNats ks), .no, .no, .no, .no, .no, .no, .no, .no, .no, .no, .sh (.int n), .sh (dEv x), .no] (by simp [hc]) rfl⟩
      · exact Or.inr ⟨fun a ha e => hc ((by omega : a = x.k) ▸ ha), k1 [.sh (dLay l), .sh (dRec rec), .sh (dNats ks), .no, .no, .no, .no, .no, .no, .no, .no, .no, .no, .sh (.int n), .sh (dEv x), .no] (by simp [hc]) rfl⟩
    · simp
      refine lc_f rec.zipIdx (fun p => .tuple [.int (p.2 : Nat), dEv p.1]) (fun p => .int (p.2 : Nat)) (fun x => ks.contains x.1.k) (enumD_map _ _) (by rw [List.length_zipIdx]; exact sz_lt hz) ?_ ?_
      · rintro ⟨x, n⟩ hx KT KF k1 k2
        simp [hfl]
        by_cases hc : x.k ∈ ks
        · have q := k1 [.sh (dLay l), .sh (dRec rec), .sh (dNats ks), .sh (dNats (hereF rec ks)), .no, .no, .no, .no, .no, .no, .no, .no, .no, .sh (.int n), .sh (dEv x), .no] (by simp [hc]) (by simp [hereF, Function.comp_def])
          rw [if_pos ⟨_, List.mem_map.mpr ⟨x.k, hc, rfl⟩, by simp⟩]
          simp [hereF, Function.comp_def] at q
          exact q
        · have q := k2 [.sh (dLay l), .sh (dRec rec), .sh (dNats ks), .sh (dNats (hereF rec ks)), .no, .no, .no, .no, .no, .no, .no, .no, .no, .sh (.int n), .sh (dEv x), .no] (by simp [hc]) (by simp [hereF, Function.comp_def])
          rw [if_neg (by
            rintro ⟨y, hy, e⟩
            obtain ⟨a, ha, rfl⟩ := List.mem_map.mp hy
            simp at e
            exact hc ((by omega : a = x.k) ▸ ha))]
          simp [hereF, Function.comp_def] at q
          exact q
      · simp
        refine ⟨hereF rec ks, thereF rec ks, ?_, by omega, by decide, _, rfl, ?_⟩
        · simp [hereF, thereF, Function.comp_def]
        refine for_t (merged (hereF rec ks) (thereF rec ks)) dNats (fun p Γ => ∃ a b c d e f g h i j, Γ = [.sh (dLay l), .sh (dRec rec), .sh (dNats ks), .sh (dNats (hereF rec ks)), .sh (dNats (thereF rec ks)), .lst (((p.flatMap (rowF l rec ks)).map dArr).map .sh), a, b, c, d, e, f, g, h, i, j]) rfl ⟨.no, .no, .no, .no, .no, .no, .no, .no, .no, .no, ?_⟩ ?_ ?_
        · simp [hereF, thereF, Function.comp_def]
        · rintro p row p2 Γ2 e ⟨a, b, c, d, e', f, g, h', i, j, rfl⟩
          have ok : RowOk rec row := row_ok (ks := ks) (by rw [e]; simp)
          have okl := ok.len
          have hml : (merged (hereF rec ks) (thereF rec ks)).length ≤ 256 := Nat.le_trans (merged_len 8 _ _ (by omega)) (by decide)
          have hpl : (p.flatMap (rowF l rec ks)).length + 256 ≤ 65536 := by
            have h4 : ∀ q : List (List Nat), (∀ r ∈ q, RowOk rec r) → (q.flatMap (rowF l rec ks)).length ≤ 256 * q.length := fun q => by
              induction q with
              | nil => intro _; simp
              | cons v vs ihv =>
                intro hv
                have a1 := ihv fun r hr => hv r (List.mem_cons_of_mem _ hr)
                have a2 := rowF_len hl hk hz (ks := ks) (hv v List.mem_cons_self)
                rw [List.flatMap_cons, List.length_append, List.length_cons]
                omega
            have h5 := h4 p fun r hr => row_ok (ks := ks) (by rw [e]; exact List.mem_append_left _ hr)
            have h6 := congrArg List.length e
            simp only [List.length_append, List.length_cons] at h6
            omega
          rw [List.flatMap_append]
          generalize p.flatMap (rowF l rec ks) = acc at hpl ⊢
          simp
          refine ⟨rec, ks, row, rfl, ok.lt, by omega, ?_⟩
          refine ⟨by omega, by omega, ?_⟩
          have er : (List.replicate (row.length + 2) (0 : Int)).length = row.length + 2 := List.length_replicate
          refine ⟨boundsF rec ks row, List.replicate (row.length + 2) 0, ?_, ?_, ?_, ?_⟩
          · have e0 : ((row.length : Int) + 2).toNat = row.length + 2 := by omega
            rw [e0]
            simp
          · rw [er]
            exact bounds_ok
          · rw [er]
            omega
          cases hlf : lift (boundsF rec ks row) (List.replicate (row.length + 2) 0) with
          | none =>
            refine Or.inl ⟨rfl, ?_⟩
            simp [rowF, hlf]
          | some ts =>
            have htl := (lift_len hlf).trans er
            have w0 := way0_ok hl (rec := rec) (ks := ks) (row := row) (ts := ts) (by omega) htl
            have hrow : rowF l rec ks row = (waysF (row.map (evS rec)) (way0 l rec ks row ts)).map (arrOf rec row) := by
              unfold rowF
              rw [hlf]
              rfl
            have hkeys := evS_key hk ok
            obtain ⟨wf1, wf2⟩ := ways_fin hkeys (by rw [List.length_map]; omega) w0
            rw [hrow]
            refine Or.inr ⟨rfl, ?_⟩
            refine lc_m row (fun (n : Nat) => .int n) (fun n => dStep (evS rec n)) rfl (sz_lt (m := 8) (by omega)) ?_ ?_
            · intro n hn KT KF kk
              obtain ⟨x, hx⟩ : ∃ x, rec[n]? = some x := ⟨_, List.getElem?_eq_getElem (ok.lt n hn)⟩
              have e1 : evS rec n = x.s := by simp [evS, hx]
              rw [e1] at kk
              simp [hx]
              exact kk [.sh (dLay l), .sh (dRec rec), .sh (dNats ks), .sh (dNats (hereF rec ks)), .sh (dNats (thereF rec ks)), .lst (acc.map (En.sh ∘ dArr)), .sh (dNats row), .sh (.list ((boundsF rec ks row).map dBd)), .sh (dInts ts), d, e', f, g, .sh (.int n), i, j] rfl
            · simp
              refine ⟨l, rfl, rfl, pInit l, boundsF rec ks row, ts, rfl, rfl, ?_⟩
              refine ⟨l, 0, row.length + 2, way0 l rec ks row ts, row.map (evS rec), by simp [Function.comp_def, way0], w0, by simp; omega, by omega, by simp; omega, by simp, hkeys, _, rfl, ?_⟩
              generalize hws : waysF (row.map (evS rec)) (way0 l rec ks row ts) = ws at wf1 wf2 ⊢
              have hwl : ws.length ≤ 256 := Nat.le_trans wf2 (by rw [List.length_map, okl]; exact Nat.pow_le_pow_right (by decide) hz)
              refine forO_t ws (enW CP CW) (fun p' Γ => ∃ a b c d e f, Γ = [.sh (dLay l), .sh (dRec rec), .sh (dNats ks), .sh (dNats (hereF rec ks)), .sh (dNats (thereF rec ks)), .lst (((acc ++ p'.map (arrOf rec row)).map dArr).map .sh), .sh (dNats row), .sh (.list ((boundsF rec ks row).map dBd)), .sh (dInts ts), .sh (.list ((row.map (evS rec)).map dStep)), a, b, c, d, e, f]) rfl ⟨e', f, g, .no, i, j, by simp [Function.comp_def]⟩ ?_ ?_
              · rintro p' x p3 Γ3 e3 ⟨a2, b2, c2, d2, e2, f2, rfl⟩
                have okx := wf1 x (by rw [e3]; simp)
                have hpl2 : (acc ++ p'.map (arrOf rec row)).length < 65536 := by
                  have h6 := congrArg List.length e3
                  simp only [List.length_append, List.length_cons] at h6
                  rw [List.length_append, List.length_map]
                  omega
                have e7 : acc ++ (p' ++ [x]).map (arrOf rec row) = (acc ++ p'.map (arrOf rec row)) ++ [arrOf rec row x] := by simp
                rw [e7]
                generalize acc ++ p'.map (arrOf rec row) = acc2 at hpl2 ⊢
                have z1 : acc2.length < sizeLine := Nat.lt_of_lt_of_le hpl2 (by decide)
                have hE : enW CP CW x = .ob CW NW [enP CP x.p, .sh (.list (x.bounds.map dBd)), .sh (dInts x.ticks), .sh (.tuple (x.choice.map dWord)), .sh (.list (x.result.map dOut))] := rfl
                simp
                refine ⟨by omega, ?_⟩
                refine for_t row.zipIdx (fun p => .tuple [.int (p.2 : Nat), .int (p.1 : Nat)]) (fun q Γ => ∃ c d e f, Γ = [.sh (dLay l), .sh (dRec rec), .sh (dNats ks), .sh (dNats (hereF rec ks)), .sh (dNats (thereF rec ks)), .lst ((acc2.map dArr).map .sh), .sh (dNats row), .sh (.list ((boundsF rec ks row).map dBd)), .sh (dInts ts), .sh (.list ((row.map (evS rec)).map dStep)), enW CP CW x, .lst (((q.foldl (delF rec x.ticks) (List.replicate row.length 0)).map PyData.int).map .sh), c, d, e, f]) (enumD_map _ _) ⟨c2, d2, e2, f2, by simp [Function.comp_def]⟩ ?_ ?_
                · rintro q ⟨i', n⟩ q2 Γ4 e4 ⟨c3, d3, e5, f3, rfl⟩
                  obtain ⟨e6, en, hn⟩ := enum_split e4
                  have hi := ok.lt i' (List.mem_of_getElem? hn)
                  have hnl := (List.getElem?_eq_some_iff.mp hn).1
                  obtain ⟨y, hy⟩ : ∃ x, rec[i']? = some x := ⟨_, List.getElem?_eq_getElem hi⟩
                  obtain ⟨y0, hy0⟩ : ∃ x, rec[0]? = some x := ⟨_, List.getElem?_eq_getElem (by omega)⟩
                  have hdl := delaysF_len rec row x.ticks q
                  rw [List.foldl_append]
                  generalize q.foldl (delF rec x.ticks) (List.replicate row.length 0) = ds at hdl ⊢
                  obtain ⟨tk, htk⟩ : ∃ z, x.ticks[n]? = some z := ⟨_, List.getElem?_eq_getElem (by rw [okx.tl]; omega)⟩
                  have ht : tickOf rec i' = y.t - y0.t := by simp [tickOf, evT, hy, hy0]
                  have hix : ixN ds.length (i' : Int) = some i' := ixN_nat (by omega)
                  simp [hE, hy, hy0, htk, hix, delF, ht]
                · rintro Γ4 ⟨c3, d3, e5, f3, rfl⟩
                  have hdl := delaysF_len rec row x.ticks row.zipIdx
                  obtain ⟨lst, hlst⟩ : ∃ z, x.ticks.getLast? = some z := by
                    cases q : x.ticks.getLast? with
                    | some z => exact ⟨z, rfl⟩
                    | none =>
                      rw [List.getLast?_eq_none_iff] at q
                      have := okx.tl
                      rw [q] at this
                      simp at this
                  have hat : atI (x.ticks.map PyData.int) (-1) = some (.int lst) := by
                    rw [atI_last, List.getLast?_map, hlst]
                    rfl
                  simp [hE, hat]
                  intro v
                  refine lc_f x.result dOut dOut (fun o => !isNo o) rfl (sz_lt (m := 8) (by have := okx.rs; rw [List.length_map] at this; omega)) ?_ ?_
                  · intro o ho KT KF k1 k2
                    have h4 := out_shape (okx.out o ho)
                    cases e : isNo o
                    · simp [h4, out_no, e]
                      exact k1 [.sh (dLay l), .sh (dRec rec), .sh (dNats ks), .sh (dNats (hereF rec ks)), .sh (dNats (thereF rec ks)), .al v, .sh (dNats row), .sh (.list ((boundsF rec ks row).map dBd)), .sh (dInts ts), .sh (.list (row.map (dStep ∘ evS rec))), enW CP CW x, .lst ((delaysF rec row x.ticks).map (En.sh ∘ PyData.int)), c3, d3, e5, .sh (dOut o)] (by simp [e]) rfl
                    · simp [h4, out_no, e]
                      exact k2 [.sh (dLay l), .sh (dRec rec), .sh (dNats ks), .sh (dNats (hereF rec ks)), .sh (dNats (thereF rec ks)), .al v, .sh (dNats row), .sh (.list ((boundsF rec ks row).map dBd)), .sh (dInts ts), .sh (.list (row.map (dStep ∘ evS rec))), enW CP CW x, .lst ((delaysF rec row x.ticks).map (En.sh ∘ PyData.int)), c3, d3, e5, .sh (dOut o)] (by simp [e]) rfl
                  · simp [z1]
                    exact ⟨by simp [arrOf, hlst], rfl, rfl⟩
              · rintro Γ3 ⟨a2, b2, c2, d2, e2, f2, rfl⟩
                simp [Function.comp_def]
        · rintro Γ2 ⟨a, b, c, d, e, f, g, h', i, j, rfl⟩
          exact ⟨_, rfl, rfl, _, _, rfl, unsh_map _, rfl, _, rfl, h⟩
end HT2
set_option maxRecDepth 100000
set_option maxHeartbeats 4000000
namespace HT2
open PySem PySem.Spec PyProof.Rows L2 StX PL
variable {P : Program} {w : World} {K : PySem.W.Frag} {mg : Str → Option Value} {base : Heap}
theorem out_eqv (a b : Out) : PyData.eqv (dOut a) (dOut b) = decide (a = b) := by
  cases a <;> cases b <;> simp <;> (rw [Bool.eq_iff_iff]; simp)
theorem outs_eqv (xs ys : List Out) : PyData.eqvAll (xs.map dOut) (ys.map dOut) = decide (xs = ys) := by
  induction xs generalizing ys with
  | nil => cases ys <;> simp
  | cons x xs ih =>
    cases ys with
    | nil => simp
    | cons y ys =>
      rw [List.map_cons, List.map_cons, ev_11, out_eqv, ih, Bool.eq_iff_iff]
      simp
theorem outs_shape {xs : List Out} (h : ∀ o ∈ xs, outOk o) : PyData.canLayAll0 (xs.map dOut) = true ∧ PyData.depthAll (xs.map dOut) ≤ 1 := by
  induction xs with
  | nil => simp
  | cons x xs ih =>
    have h1 := ih fun o ho => h o (List.mem_cons_of_mem _ ho)
    have h2 := h x List.mem_cons_self
    have h3 : (dOut x).depth ≤ 1 := by cases x <;> simp
    simp [h1, (out_shape h2).1]
    exact Nat.max_le.mpr ⟨h3, h1.2⟩
theorem arr_ok {l : Lay} (hl : LayOk l) {rec : Rec} (hk : keysOk l rec) (hz : rec.length ≤ 8) {ks : List Nat} : (∀ a ∈ arrF l rec ks, ∀ o ∈ a.outs, outOk o) ∧ (arrF l rec ks).length ≤ 65536 := by
  have hrow : ∀ r ∈ merged (hereF rec ks) (thereF rec ks), RowOk rec r := fun r hr => row_ok hr
  have hml : (merged (hereF rec ks) (thereF rec ks)).length ≤ 256 := by
    have hhl := half_len rec ks
    exact Nat.le_trans (merged_len 8 _ _ (by omega)) (by decide)
  refine ⟨fun a ha o ho => ?_, ?_⟩
  · obtain ⟨row, h1, h2⟩ := List.mem_flatMap.mp ha
    have ok := hrow row h1
    unfold rowF at h2
    split at h2
    · cases h2
    · rename_i ts hts
      have ht := lift_len hts
      rw [List.length_replicate] at ht
      obtain ⟨x, h3, e⟩ := List.mem_map.mp h2
      have wf := (ways_fin (evS_key hk ok) (by rw [List.length_map]; omega) (way0_ok hl (rec := rec) (ks := ks) (by have := ok.len; omega) ht)).1 x h3
      subst e
      exact wf.out o (List.mem_filter.mp ho).1
  · unfold arrF
    have h4 : ∀ q : List (List Nat), (∀ r ∈ q, RowOk rec r) → (q.flatMap (rowF l rec ks)).length ≤ 256 * q.length := fun q => by
      induction q with
      | nil => intro _; simp
      | cons v vs ihv =>
        intro hv
        have a1 := ihv fun r hr => hv r (List.mem_cons_of_mem _ hr)
        have a2 := rowF_len hl hk hz (ks := ks) (hv v List.mem_cons_self)
        rw [List.flatMap_cons, List.length_append, List.length_cons]
        omega
    have h5 := h4 _ hrow
    omega
structure ArgOk (l : Lay) (rec : Rec) (ks : List Nat) (late : Int) : Prop where
  la : LayOk l
  r : RecOk (wide l - 1) rec
  k : KeysOk l ks
  z : rec.length ≤ 8
  a : 0 ≤ late
  b : late ≤ 10 ^ 9
theorem ArgOk.req {l : Lay} {rec : Rec} {ks : List Nat} {late : Int} (ok : ArgOk l rec ks late) {P : PyData → Prop} (p : P .none) : R_require_arguments [dLay l, dRec rec, dNats ks, .int late] P := ⟨l, rec, ks, late, rfl, ok.la, ok.r, ok.k, ok.z, ok.a, ok.b, p⟩
def optI : Option Arr → PyData
  | none => .none
  | some a => dInts a.del
@[simp] theorem ints_cl (a : List Int) : PyData.canLayAll0 (a.map PyData.int) = true := by
  induction a with
  | nil => simp
  | cons x a ih => simp [ih]
@[simp] theorem ints_dp (a : List Int) : PyData.depthAll (a.map PyData.int) = 0 := by
  induction a with
  | nil => simp
  | cons x a ih => simp [ih]
def R_delays_for : List PyData → (PyData → Prop) → Prop := fun ds P => ∃ (l : Lay) (rec : Rec) (ks : List Nat) (late : Int) (o : List Out), ds = [dLay l, dRec rec, dNats ks, .int late, .list (o.map dOut)] ∧ ArgOk l rec ks late ∧ (∀ x ∈ o, outOk x) ∧ P (optI ((arrF l rec ks).filter fun a => decide (a.least ≤ late) && decide (a.outs = o)).head?)
abbrev s_delays_for : Stmt := top 55
theorem sc_delays_for : FnScope ["layout", "record", "keys", "late", "outputs", "rows", "least", "told", "delays"] ["layout", "record", "keys", "late", "outputs"] (defScope s_delays_for) := ⟨rfl, rfl, rfl, by decide +kernel, rfl, by decide +kernel, by decide +kernel⟩
theorem ok_delays_for (B : Bl mg) (F_require_arguments : Fx P w K mg base 7 "require_arguments" ["layout", "record", "keys", "late"] (pf R_require_arguments)) (F_arrivals : Fx P w K mg base 13 "arrivals" ["layout", "record", "keys"] (pf R_arrivals)) {f : Addr} {fd : FuncData} (A : At K mg "delays_for" "delays_for" s_delays_for f fd) : Fx P w K mg base 14 "delays_for" ["layout", "record", "keys", "late", "outputs"] (pf R_delays_for) := by
  refine ok_pf A sc_delays_for (A.fn.binds fun _ _ _ _ _ _ us hl => match us, hl with | [_, _, _, _, _], _ => rfl) ?len fun cdv A outer s H E hr => ⟨_, (ass_cons (as_expr (ax_fn F_require_arguments (hr.mono (by decide)) (by rfl) (axa_cons (ax_v 0) (axa_cons (ax_v 1) (axa_cons (ax_v 2) (axa_cons (ax_v 3) axa_nil))))))
      (ass_cons (as_setLc 5 (own := [("least", 6), ("told", 7), ("delays", 8)]) aSh snd_sh rfl sc_delays_for.nd (ai_list (ax_fn F_arrivals (hr.mono (by decide)) (by rfl) (axa_cons (ax_v 0) (axa_cons (ax_v 1) (axa_cons (ax_v 2) axa_nil))))) (blkOk_by (show blkC ["layout", "record", "keys", "late", "outputs", "rows", "least", "told", "delays"] (defScope s_delays_for) _ [("least", 6), ("told", 7), ("delays", 8)] = true from by decide +kernel)) (fun _ _ _ _ _ => ag_c (ag_tup (n := 3) rfl (ags_cons (ag_n 6 sc_delays_for.nd) (ags_cons (ag_n 7 sc_delays_for.nd) (ags_cons (ag_n 8 sc_delays_for.nd) ags_nil))))) (fun _ _ _ _ _ => ats_c (ats_one (at_bool (aw_and (at_le (ax_v 6) (ax_v 3)) (aw_and1 (at_eq hr.units (ax_v 7) (ax_v 4))))))) (fun _ _ _ _ _ => ax_c (ax_v 8)) (sw_true rfl rfl rfl (by decide +kernel)))
      (ass_one (as_ret (ax_if (at_ne hr.units (ax_v 5) (ax_lst axa_nil)) (ax_ix (ax_v 5) ax_int) ax_non))))), ?body⟩
  case len =>
    rintro ds P ⟨_, _, _, _, _, rfl, _⟩
    rfl
  case body =>
    rintro ds Q ⟨l, rec, ks, late, o, rfl, ok, ho, h⟩
    show sSeq _ _ _ [.sh (dLay l), .sh (dRec rec), .sh (dNats ks), .sh (.int late), .sh (.list (o.map dOut)), .no, .no, .no, .no]
    obtain ⟨a1, a2⟩ := arr_ok ok.la (keys_of ok.la ok.r) ok.z (ks := ks)
    have so := outs_shape ho
    have so2 : PyData.depthAll (o.map dOut) ≤ 63 := by omega
    simp
    refine ok.req ?_
    refine ⟨l, rec, ks, rfl, ok.la, keys_of ok.la ok.r, ok.z, _, rfl, ?_⟩
    refine lc_f (arrF l rec ks) dArr (fun a => dInts a.del) (fun a => decide (a.least ≤ late) && decide (a.outs = o)) rfl (Nat.lt_of_le_of_lt a2 (by decide)) ?_ ?_
    · intro a ha KT KF k1 k2
      have sa := outs_shape (a1 a ha)
      have sa2 : PyData.depthAll (a.outs.map dOut) ≤ 63 := by omega
      by_cases c1 : a.least ≤ late
      · by_cases c2 : a.outs = o
        · have q := k1 [.sh (dLay l), .sh (dRec rec), .sh (dNats ks), .sh (.int late), .sh (.list (o.map dOut)), .no, .sh (.int a.least), .sh (.list (a.outs.map dOut)), .sh (dInts a.del)] (by simp [c1, c2]) rfl
          simp [c1, sa.1, sa2, so.1, so2, outs_eqv, c2]
          simp [c2] at q
          exact q
        · have q := k2 [.sh (dLay l), .sh (dRec rec), .sh (dNats ks), .sh (.int late), .sh (.list (o.map dOut)), .no, .sh (.int a.least), .sh (.list (a.outs.map dOut)), .sh (dInts a.del)] (by simp [c2]) rfl
          simp [c1, sa.1, sa2, so.1, so2, outs_eqv, c2]
          exact q
      · have q := k2 [.sh (dLay l), .sh (dRec rec), .sh (dNats ks), .sh (.int late), .sh (.list (o.map dOut)), .no, .sh (.int a.least), .sh (.list (a.outs.map dOut)), .sh (dInts a.del)] (by simp [c1]) rfl
        simp [c1]
        exact q
    · generalize (arrF l rec ks).filter (fun a => decide (a.least ≤ late) && decide (a.outs = o)) = fs at h
      have c1 : PyData.canLayAll0 (fs.map fun a => dInts a.del) = true ∧ PyData.depthAll (fs.map fun a => dInts a.del) ≤ 63 := by
        have : PyData.canLayAll0 (fs.map fun a => dInts a.del) = true ∧ PyData.depthAll (fs.map fun a => dInts a.del) ≤ 1 := by
          clear h
          induction fs with
          | nil => simp
          | cons f fs ih =>
            simp at ih
            simp [ih]
        exact ⟨this.1, by omega⟩
      simp at c1
      cases fs with
      | nil =>
        simp at h
        simp
        exact h
      | cons f fs =>
        simp [optI] at h
        simp at c1
        simp [c1]
        exact h
def R_safe_late : List PyData → (PyData → Prop) → Prop := fun ds P => ∃ (l : Lay) (rec : Rec) (ks : List Nat) (late : Int), ds = [dLay l, dRec rec, dNats ks, .int late] ∧ ArgOk l rec ks late ∧ ∀ m, m ∈ ((arrF l rec ks).filter fun a => !decide (a.outs = flatF l rec)).map (fun a => a.least - 1) ++ [late] → (∀ y ∈ ((arrF l rec ks).filter fun a => !decide (a.outs = flatF l rec)).map (fun a => a.least - 1) ++ [late], m ≤ y) → P (.int m)
abbrev s_safe_late : Stmt := top 56
theorem sc_safe_late : FnScope ["layout", "record", "keys", "most", "due", "least", "outputs", "delays"] ["layout", "record", "keys", "most"] (defScope s_safe_late) := ⟨rfl, rfl, rfl, by decide +kernel, rfl, by decide +kernel, by decide +kernel⟩
theorem ok_safe_late (B : Bl mg) (F_flat : Fx P w K mg base 8 "flat" ["layout", "record"] (pf R_flat)) (F_require_arguments : Fx P w K mg base 7 "require_arguments" ["layout", "record", "keys", "late"] (pf R_require_arguments)) (F_arrivals : Fx P w K mg base 13 "arrivals" ["layout", "record", "keys"] (pf R_arrivals)) {f : Addr} {fd : FuncData} (A : At K mg "safe_late" "safe_late" s_safe_late f fd) : Fx P w K mg base 14 "safe_late" ["layout", "record", "keys", "most"] (pf R_safe_late) := by
  refine ok_pf A sc_safe_late (A.fn.binds fun _ _ _ _ _ _ us hl => match us, hl with | [_, _, _, _], _ => rfl) ?len fun cdv A outer s H E hr => ⟨_, (ass_cons (as_expr (ax_fn F_require_arguments (hr.mono (by decide)) (by rfl) (axa_cons (ax_v 0) (axa_cons (ax_v 1) (axa_cons (ax_v 2) (axa_cons (ax_v 3) axa_nil))))))
      (ass_cons (as_set 4 sc_safe_late.nd (ax_fn F_flat (hr.mono (by decide)) (by rfl) (axa_cons (ax_v 0) (axa_cons (ax_v 1) axa_nil))))
      (ass_one (as_ret (ax_callB (cr_min rfl) sndC_min (by rfl) B.min (by decide +kernel) (axa_cons (ax_cat (ax_sh (ax_lc (own := [("least", 5), ("outputs", 6), ("delays", 7)]) rfl sc_safe_late.nd (ai_list (ax_fn F_arrivals (hr.mono (by decide)) (by rfl) (axa_cons (ax_v 0) (axa_cons (ax_v 1) (axa_cons (ax_v 2) axa_nil))))) (blkOk_by (show blkC ["layout", "record", "keys", "most", "due", "least", "outputs", "delays"] (defScope s_safe_late) _ [("least", 5), ("outputs", 6), ("delays", 7)] = true from by decide +kernel)) (fun _ _ _ _ _ => ag_c (ag_tup (n := 3) rfl (ags_cons (ag_n 5 sc_safe_late.nd) (ags_cons (ag_n 6 sc_safe_late.nd) (ags_cons (ag_n 7 sc_safe_late.nd) ags_nil))))) (fun _ _ _ _ _ => ats_c (ats_one (at_ne hr.units (ax_v 6) (ax_v 4)))) (fun _ _ _ _ _ => ax_c (ax_sub (ax_v 5) ax_int)))) (ax_lst (axa_cons (ax_v 3) axa_nil))) axa_nil)))))), ?body⟩
  case len =>
    rintro ds P ⟨_, _, _, _, rfl, _⟩
    rfl
  case body =>
    rintro ds Q ⟨l, rec, ks, late, rfl, ok, h⟩
    show sSeq _ _ _ [.sh (dLay l), .sh (dRec rec), .sh (dNats ks), .sh (.int late), .no, .no, .no, .no]
    obtain ⟨a1, a2⟩ := arr_ok ok.la (keys_of ok.la ok.r) ok.z (ks := ks)
    have ho : ∀ o ∈ flatF l rec, outOk o := fun o ho => outsF_ok ok.la (keys_of ok.la ok.r) o (List.mem_filter.mp ho).1
    have so := outs_shape ho
    have so2 : PyData.depthAll ((flatF l rec).map dOut) ≤ 63 := by omega
    simp
    refine ok.req ?_
    refine ⟨l, rec, rfl, ok.la, ok.r, l, rec, ks, rfl, ok.la, keys_of ok.la ok.r, ok.z, _, rfl, ?_⟩
    generalize flatF l rec = due at *
    refine lc_f (arrF l rec ks) dArr (fun a => .int (a.least - 1)) (fun a => !decide (a.outs = due)) rfl (Nat.lt_of_le_of_lt a2 (by decide)) ?_ ?_
    · intro a ha KT KF k1 k2
      have sa := outs_shape (a1 a ha)
      have sa2 : PyData.depthAll (a.outs.map dOut) ≤ 63 := by omega
      by_cases c2 : a.outs = due
      · have q := k2 [.sh (dLay l), .sh (dRec rec), .sh (dNats ks), .sh (.int late), .sh (.list (due.map dOut)), .sh (.int a.least), .sh (.list (a.outs.map dOut)), .sh (dInts a.del)] (by simp [c2]) rfl
        simp [sa.1, sa2, so.1, so2, outs_eqv, c2]
        simp [c2] at q
        exact q
      · have q := k1 [.sh (dLay l), .sh (dRec rec), .sh (dNats ks), .sh (.int late), .sh (.list (due.map dOut)), .sh (.int a.least), .sh (.list (a.outs.map dOut)), .sh (dInts a.del)] (by simp [c2]) rfl
        simp [sa.1, sa2, so.1, so2, outs_eqv, c2]
        exact q
    · have hz : ((arrF l rec ks).filter fun a => !decide (a.outs = due)).length ≤ 65536 := Nat.le_trans (List.length_filter_le _ _) a2
      generalize (arrF l rec ks).filter (fun a => !decide (a.outs = due)) = fs at h hz
      simp
      refine ⟨szb (m := 65537) (by omega) (by decide), fs.map (fun a => a.least - 1) ++ [late], by simp [Function.comp_def], by simp, fun m hm hy => h m hm hy⟩
end HT2
set_option maxRecDepth 100000
set_option maxHeartbeats 4000000
namespace HT2
open PySem PySem.Spec PyProof.Rows L2 StX PL
variable {P : Program} {w : World} {K : PySem.W.Frag} {mg : Str → Option Value} {base : Heap}
structure Pool where
  a : Int
  b : Int
  c : Int
def enPool (p : Pool) : En := .lst [.sh (.int p.a), .sh (.int p.b), .sh (.int p.c)]
structure PoolOk (s : Nat) (p : Pool) : Prop where
  a : 0 ≤ p.a
  b : 0 ≤ p.b
  b2 : p.b ≤ 2 ^ 62
  c : 0 ≤ p.c
  c2 : p.c ≤ s
theorem PoolOk.up {s t : Nat} {p : Pool} (ok : PoolOk s p) (h : s ≤ t) : PoolOk t p := ⟨ok.a, ok.b, ok.b2, ok.c, by have := ok.c2; omega⟩
def S__law_pool (K : PySem.W.Frag) (a : Addr) (ns : List Int) : AF := fun es P => ∃ n : Nat, es = [.ow (scrO K a ns), .sh (.int n)] ∧ ns.length ≤ 100000 ∧ n ≤ 10 ∧ ∀ p, PoolOk 0 p → P (enPool p) [.ow (scrO K a ns), .no]
abbrev s__law_pool : Stmt := top 58
theorem sc__law_pool : FnScope ["_law_script", "_law_at", "_law_cell"] ["_law_script", "_law_at"] (defScope s__law_pool) := ⟨rfl, rfl, rfl, by decide +kernel, rfl, by decide +kernel, by decide +kernel⟩
theorem ok__law_pool (B : Bl mg)  {a : Addr} {ns : List Int} {f : Addr} {fd : FuncData} (A : At K mg "_law_pool" "_law_pool" s__law_pool f fd) : Fx P w K mg base 1 "_law_pool" ["_law_script", "_law_at"] (S__law_pool K a ns) := by
  refine ⟨f, fd, ok_def A.fn sc__law_pool [0] ?len ?body, A.mg, A.fn.kp, (A.fn.binds fun _ _ _ _ _ _ us hl => match us, hl with | [_, _], _ => rfl)⟩
  case body =>
    intro cdv A outer s H E hr
    refine ⟨_, (ass_cons (as_set 2 sc__law_pool.nd (ax_if (at_lt (ax_v 1) (ax_lenS (a := a) (ns := ns) 0 (by rfl) B.len)) (ax_ixS2 (a := a) (ns := ns) 0 (ax_v 1)) ax_int))
      (ass_one (as_ret (ax_lstO (axa_cons (ax_callB (call_max2 rfl) sndC_2 (by rfl) B.max (by decide +kernel) (axa_cons ax_int (axa_cons (ax_sub (ax_callB call_abs sndC_abs (by rfl) B.abs (by decide +kernel) (axa_cons (ax_v 2) axa_nil)) (ax_powW ax_int ax_int)) axa_nil))) (axa_cons (ax_add (ax_mod (ax_v 2) ax_int) (ax_mul ax_int (ax_add (ax_v 1) ax_int))) (axa_cons ax_int axa_nil))))))), ?_⟩
    rintro es P ⟨n, rfl, hz, hn, h⟩
    show sSeq _ _ _ [.ow (scrO K a ns), .sh (.int n), .no]
    have key : ∀ x : Int, P (.lst [.sh (.int (if 1000000000000000000 < (if x < 0 then -x else x) then (if x < 0 then -x else x) - 1000000000000000000 else 0)), .sh (.int (x % 2305843009213693951 + 7919 * ((n : Int) + 1))), .sh (.int 0)]) [.ow (scrO K a ns), .no] := fun x => by
      have h1 := Int.emod_nonneg x (b := 2305843009213693951) (by decide)
      have h2 := Int.emod_lt_of_pos x (b := 2305843009213693951) (by decide)
      have h0 : ∀ y : Int, 0 ≤ (if 1000000000000000000 < y then y - 1000000000000000000 else 0) := fun y => by split <;> omega
      refine h ⟨_, _, 0⟩ ⟨?_, ?_, ?_, Int.le_refl _, by simp⟩
      · exact h0 _
      · simp only
        omega
      · simp only
        omega
    have c1 : CPowW 10 18 := ⟨by decide, by decide, Nat.lt_of_lt_of_le (by decide : (10 : Int).natAbs < 2 ^ 64) (Nat.pow_le_pow_right (by decide) (by decide))⟩
    have c2 : CMul 7919 ((n : Int) + 1) := Or.inl ⟨by decide, by decide⟩
    have hzl : ns.length ≤ sizeLine := szb hz (by decide)
    by_cases hc : n < ns.length
    · have q := key ns[n]
      simp [hzl, hc, c1, c2]
      exact ⟨rfl, n, rfl, _, List.getElem?_eq_getElem hc, q⟩
    · have q := key 0
      simp [hzl, hc, c1, c2]
      simp at q
      exact ⟨rfl, q⟩
  case len =>
    rintro es P ⟨_, rfl, _⟩
    rfl
@[simp] theorem ix3_0 : ixN 3 0 = some 0 := by decide
@[simp] theorem ix3_2 : ixN 3 2 = some 2 := by decide
def S__law_draw : AF := fun es P => ∃ (s : Nat) (p : Pool) (m : Int), es = [enPool p, .sh (.int m)] ∧ PoolOk s p ∧ s ≤ 100000 ∧ 0 < m ∧ m < 1000000 ∧ ∀ r p', 0 ≤ r → r < m → PoolOk (s + 1) p' → P (.sh (.int r)) [enPool p', .no]
abbrev s__law_draw : Stmt := top 59
theorem sc__law_draw : FnScope ["_law_pool_here", "_law_many", "_law_drawn", "_law_mixed"] ["_law_pool_here", "_law_many"] (defScope s__law_draw) := ⟨rfl, rfl, rfl, by decide +kernel, rfl, by decide +kernel, by decide +kernel⟩
theorem ok__law_draw (B : Bl mg)  {f : Addr} {fd : FuncData} (A : At K mg "_law_draw" "_law_draw" s__law_draw f fd) : Fx P w K mg base 1 "_law_draw" ["_law_pool_here", "_law_many"] (S__law_draw) := by
  refine ⟨f, fd, ok_def A.fn sc__law_draw [0] ?len ?body, A.mg, A.fn.kp, (A.fn.binds fun _ _ _ _ _ _ us hl => match us, hl with | [_, _], _ => rfl)⟩
  case body =>
    intro cdv A outer s H E hr
    refine ⟨_, (ass_cons (as_if (at_gt (ax_ixO 0 ax_int) ax_int) (ass_cons (as_set 2 sc__law_draw.nd (ax_mod (ax_ixO 0 ax_int) (ax_v 1)))
      (ass_cons (as_setI 0 (ax_fdiv (ax_ixO 0 ax_int) (ax_v 1)) ax_int)
      (ass_one (as_ret (ax_v 2))))) ass_nil)
      (ass_cons (as_setI 0 (ax_add (ax_ixO 0 ax_int) ax_int) ax_int)
      (ass_cons (as_set 3 sc__law_draw.nd (ax_mod (ax_powW (ax_add (ax_ixO 0 ax_int) (ax_mul ax_int (ax_ixO 0 ax_int))) ax_int) ax_int))
      (ass_cons (as_set 3 sc__law_draw.nd (ax_mod (ax_powW (ax_add (ax_v 3) (ax_mul ax_int (ax_ixO 0 ax_int))) ax_int) ax_int))
      (ass_one (as_ret (ax_mod (ax_fdiv (ax_v 3) ax_int) (ax_v 1)))))))), ?_⟩
    rintro es P ⟨s, ⟨a, b, c⟩, m, rfl, ⟨h1, h2, h3, h4, h5⟩, hs, m1, m2, h⟩
    show sSeq _ _ _ [enPool ⟨a, b, c⟩, .sh (.int m), .no, .no]
    simp only at h1 h2 h3 h4 h5
    simp [enPool, m1]
    by_cases hc : 0 < a
    · rw [if_pos hc]
      refine ⟨⟨m1, by omega⟩, ?_⟩
      exact h (a % m) ⟨a / m, b, c⟩ (Int.emod_nonneg _ (by omega)) (Int.emod_lt_of_pos _ m1) ⟨Int.ediv_nonneg h1 (by omega), h2, h3, h4, by simp only; omega⟩
    · rw [if_neg hc]
      have pw : ∀ i : Int, 0 ≤ i → i < 2 ^ 200 → CPowW i 3 := fun i i1 i2 => ⟨by decide, by decide, Nat.lt_of_lt_of_le (by omega : i.natAbs < 2 ^ 200) (Nat.pow_le_pow_right (by decide) (by decide))⟩
      have e1 := Int.emod_nonneg ((b + 104729 * (c + 1)) ^ 3) (b := 618970019642690137449562111) (by decide)
      have e2 := Int.emod_lt_of_pos ((b + 104729 * (c + 1)) ^ 3) (b := 618970019642690137449562111) (by decide)
      generalize (b + 104729 * (c + 1)) ^ 3 % 618970019642690137449562111 = y at e1 e2 ⊢
      generalize (y + 1299709 * (c + 1)) ^ 3 % 162259276829213363391578010288127 = z
      refine ⟨Or.inl ⟨by decide, by decide⟩, pw _ (by omega) (by omega), Or.inl ⟨by decide, by decide⟩, pw _ (by omega) (by omega), ⟨by decide, by decide⟩, ?_⟩
      exact h (z / 4096 % m) ⟨a, b, c + 1⟩ (Int.emod_nonneg _ (by omega)) (Int.emod_lt_of_pos _ m1) ⟨h1, h2, h3, by simp only; omega, by simp only; omega⟩
  case len =>
    rintro es P ⟨_, _, _, rfl, _⟩
    rfl
def S__law_action : AF := fun es P => ∃ (s : Nat) (p : Pool) (i m : Nat) (t o : Int), es = [enPool p, .sh (.int i), .sh (.int m), .sh (.int t), .sh (.int o)] ∧ PoolOk s p ∧ s ≤ 10000 ∧ 1 ≤ m ∧ m ≤ 6 ∧ 1 ≤ t ∧ t ≤ 1000 ∧ ∀ a p', actOk i m a = true → PoolOk (s + 10) p' → P (.sh (dAct a)) [enPool p', .no, .no, .no, .no]
def lawCodes : List Str := ["a", "b", "x", "1", "ab", "z9"]
theorem lawCodes_ok : ∀ c ∈ lawCodes, codeOk c = true := by decide +kernel
theorem draw_step {s : Nat} {p : Pool} {m : Int} {Q : En → List En → Prop} (ok : PoolOk s p) (hs : s ≤ 100000) (m1 : 0 < m) (m2 : m < 1000000) (h : ∀ (r : Nat) p', (r : Int) < m → PoolOk (s + 1) p' → Q (.sh (.int r)) [enPool p', .no]) : S__law_draw [enPool p, .sh (.int m)] Q :=
  ⟨s, p, m, rfl, ok, hs, m1, m2, fun r p' r1 r2 ok' => by
    obtain ⟨n, rfl⟩ : ∃ n : Nat, r = n := ⟨r.toNat, by omega⟩
    exact h n p' r2 ok'⟩
theorem pick {xs : List Str} {r : Nat} (h : r < xs.length) : ∃ c ∈ xs, atI (xs.map PyData.str) (r : Int) = some (.str c) := ⟨xs[r], List.getElem_mem h, by rw [atI_nat, List.getElem?_map, List.getElem?_eq_getElem h]; rfl⟩
def lawRules : List Str := ["time", "time", "other", "within"]
theorem lawRules_ok : ∀ rl ∈ lawRules, (rl == "time" || rl == "other" || rl == "within") = true := by decide +kernel
abbrev s__law_action : Stmt := top 60
theorem sc__law_action : FnScope ["_law_pool_here", "_law_layer", "_law_deep", "_law_top", "_law_often", "_law_codes", "_law_code", "_law_other", "_law_hold", "_law_way"] ["_law_pool_here", "_law_layer", "_law_deep", "_law_top", "_law_often"] (defScope s__law_action) := ⟨rfl, rfl, rfl, by decide +kernel, rfl, by decide +kernel, by decide +kernel⟩
theorem ok__law_action (B : Bl mg) (F__law_draw : Fx P w K mg base 1 "_law_draw" ["_law_pool_here", "_law_many"] (S__law_draw)) {f : Addr} {fd : FuncData} (A : At K mg "_law_action" "_law_action" s__law_action f fd) : Fx P w K mg base 2 "_law_action" ["_law_pool_here", "_law_layer", "_law_deep", "_law_top", "_law_often"] (S__law_action) := by
  refine ⟨f, fd, ok_def A.fn sc__law_action [0] ?len ?body, A.mg, A.fn.kp, (A.fn.binds fun _ _ _ _ _ _ us hl => match us, hl with | [_, _, _, _, _], _ => rfl)⟩
  case body =>
    intro cdv A outer s H E hr
    refine ⟨_, (ass_cons (as_set 5 sc__law_action.nd (ax_lst (axa_cons ax_str (axa_cons ax_str (axa_cons ax_str (axa_cons ax_str (axa_cons ax_str (axa_cons ax_str axa_nil))))))))
      (ass_cons (as_par (i := 6) (j := 7) rfl sc__law_action.nd (axa_cons (ax_ix (ax_v 5) (ax_fnP F__law_draw (hr.mono (by decide)) (by rfl) (pe_v 0) (pl_slot 0) (axa_cons ax_int axa_nil))) (axa_cons (ax_ix (ax_v 5) (ax_fnP F__law_draw (hr.mono (by decide)) (by rfl) (pe_v 0) (pl_slot 0) (axa_cons ax_int axa_nil))) axa_nil)))
      (ass_cons (as_if (at_lt (ax_fnP F__law_draw (hr.mono (by decide)) (by rfl) (pe_v 0) (pl_slot 0) (axa_cons ax_int axa_nil)) (ax_v 4)) (ass_cons (as_set 8 sc__law_action.nd (ax_tup (axa_cons ax_str (axa_cons (ax_v 7) axa_nil))))
      (ass_cons (as_if (at_bool (aw_and (at_gt (ax_v 2) ax_int) (aw_and1 (at_gt (ax_fnP F__law_draw (hr.mono (by decide)) (by rfl) (pe_v 0) (pl_slot 0) (axa_cons ax_int axa_nil)) ax_int)))) (ass_one (as_set 8 sc__law_action.nd (ax_tup (axa_cons ax_str (axa_cons (ax_add ax_int (ax_fnP F__law_draw (hr.mono (by decide)) (by rfl) (pe_v 0) (pl_slot 0) (axa_cons (ax_sub (ax_v 2) ax_int) axa_nil))) axa_nil))))) ass_nil)
      (ass_one (as_ret (ax_tup (axa_cons ax_str (axa_cons (ax_v 6) (axa_cons (ax_v 8) (axa_cons (ax_add ax_int (ax_fnP F__law_draw (hr.mono (by decide)) (by rfl) (pe_v 0) (pl_slot 0) (axa_cons (ax_v 3) axa_nil))) (axa_cons (ax_ix (ax_lst (axa_cons ax_str (axa_cons ax_str (axa_cons ax_str (axa_cons ax_str axa_nil))))) (ax_fnP F__law_draw (hr.mono (by decide)) (by rfl) (pe_v 0) (pl_slot 0) (axa_cons ax_int axa_nil))) axa_nil)))))))))) ass_nil)
      (ass_cons (as_set 9 sc__law_action.nd (ax_fnP F__law_draw (hr.mono (by decide)) (by rfl) (pe_v 0) (pl_slot 0) (axa_cons ax_int axa_nil)))
      (ass_cons (as_if (at_bool (aw_and (at_gt (ax_v 9) ax_int) (aw_and1 (at_gt (ax_v 2) ax_int)))) (ass_one (as_ret (ax_tup (axa_cons (ax_ix (ax_lst (axa_cons ax_str (axa_cons ax_str (axa_cons ax_str axa_nil)))) (ax_sub (ax_v 9) ax_int)) (axa_cons (ax_add ax_int (ax_fnP F__law_draw (hr.mono (by decide)) (by rfl) (pe_v 0) (pl_slot 0) (axa_cons (ax_sub (ax_v 2) ax_int) axa_nil))) axa_nil))))) ass_nil)
      (ass_cons (as_if (at_eq hr.units (ax_v 9) ax_int) (ass_one (as_ret ax_str)) ass_nil)
      (ass_one (as_ret (ax_if (at_bool (aw_and (at_eq hr.units (ax_v 9) ax_int) (aw_and1 (at_gt (ax_v 1) ax_int)))) ax_str (ax_tup (axa_cons ax_str (axa_cons (ax_v 6) axa_nil)))))))))))), ?_⟩
    rintro es P ⟨s, p, i, m, t, o, rfl, ok, hs, m1, m2, t1, t2, h⟩
    show sSeq _ _ _ [enPool p, .sh (.int i), .sh (.int m), .sh (.int t), .sh (.int o), .no, .no, .no, .no, .no]
    have hv : hv (enPool p) = true := rfl
    have fin : ∀ (c : Str) (hh : Hold) (r : Nat) (q : Pool), codeOk c = true → holdOk m hh = true → (r : Int) < t → PoolOk (s + 6) q → s + 6 ≤ 20000 → S__law_draw [enPool q, .sh (.int 4)] fun r4 es' => ∃ x_3, r4 = .sh (.int x_3) ∧ ∃ x_4, atI (lawRules.map PyData.str) x_3 = some x_4 ∧ P (.sh (.tuple [.str "dual", .str c, dHold hh, .int (1 + r), x_4])) (backs [0] 5 [es'.head?.getD .no, .no]) := fun c hh r q hc hhk hr okq hsq => by
      refine draw_step okq (by omega) (by decide) (by decide) fun r4 q4 h4 ok4 => ?_
      obtain ⟨rl, hrl, e⟩ := pick (xs := lawRules) (r := r4) (by show r4 < 4; omega)
      refine ⟨_, rfl, _, e, ?_⟩
      refine h (.dual c hh (1 + r) rl) q4 ?_ (ok4.up (by omega))
      have hrule := lawRules_ok rl hrl
      simp only [actOk, Bool.and_eq_true, decide_eq_true_eq]
      exact ⟨⟨⟨⟨hc, hhk⟩, by omega⟩, by omega⟩, hrule⟩
    simp
    refine ⟨rfl, draw_step ok (by omega) (by decide) (by decide) fun r1 p1 hr1 ok1 => ?_⟩
    obtain ⟨c, hc, e1⟩ := pick (xs := lawCodes) (r := r1) (by show r1 < 6; omega)
    refine ⟨_, rfl, _, e1, rfl, draw_step ok1 (by omega) (by decide) (by decide) fun r2 p2 hr2 ok2 => ?_⟩
    obtain ⟨c', hc', e2⟩ := pick (xs := lawCodes) (r := r2) (by show r2 < 6; omega)
    have k1 := lawCodes_ok c hc
    have k2 := lawCodes_ok c' hc'
    refine ⟨_, rfl, _, e2, rfl, draw_step ok2 (by omega) (by decide) (by decide) fun r3 p3 hr3 ok3 => ?_⟩
    refine ⟨_, rfl, ?_⟩
    split
    · split
      · rename_i q1 q2
        refine ⟨rfl, draw_step ok3 (by omega) (by decide) (by decide) fun r4 p4 hr4 ok4 => ⟨_, rfl, ?_⟩⟩
        split
        · refine ⟨rfl, draw_step ok4 (by omega) (by omega) (by omega) fun r5 p5 hr5 ok5 => ⟨_, rfl, rfl, draw_step ok5 (by omega) (by omega) (by omega) fun r6 p6 hr6 ok6 => ⟨_, rfl, rfl, ?_⟩⟩⟩
          have q := fin c (.layer (1 + r5)) r6 p6 k1 (by simp [holdOk]; omega) hr6 (ok6.up (by omega)) (by omega)
          exact q
        · refine ⟨rfl, draw_step ok4 (by omega) (by omega) (by omega) fun r6 p6 hr6 ok6 => ⟨_, rfl, rfl, ?_⟩⟩
          have q := fin c (.code c') r6 p6 k1 k2 hr6 (ok6.up (by omega)) (by omega)
          exact q
      · refine ⟨rfl, draw_step ok3 (by omega) (by omega) (by omega) fun r6 p6 hr6 ok6 => ⟨_, rfl, rfl, ?_⟩⟩
        have q := fin c (.code c') r6 p6 k1 k2 hr6 (ok6.up (by omega)) (by omega)
        exact q
    · refine ⟨rfl, draw_step ok3 (by omega) (by decide) (by decide) fun r4 p4 hr4 ok4 => ⟨_, rfl, _, rfl, ?_⟩⟩
      have okF := ok4.up (by omega : s + 1 + 1 + 1 + 1 ≤ s + 10)
      have low : r4 ≤ 3 ∨ m ≤ 1 → P (.sh (.str "none")) [enPool p4, .no, .no, .no, .no] := fun _ => h .none p4 rfl okF
      have rest : ∃ d, En.sh (PyData.int r4) = En.sh d ∧ (d.canLay0 = true ∧ d.depth ≤ 64) ∧ if d.eqv (PyData.int 3) = true then P (.sh (.str "none")) [enPool p4, .no, .no, .no, .no] else ∃ d, En.sh (PyData.int r4) = En.sh d ∧ (d.canLay0 = true ∧ d.depth ≤ 64) ∧ if d.eqv (PyData.int 2) = true then (if 0 < i then P (.sh (.str "through")) [enPool p4, .no, .no, .no, .no] else P (.sh (.tuple [.str "code", .str c])) [enPool p4, .no, .no, .no, .no]) else P (.sh (.tuple [.str "code", .str c])) [enPool p4, .no, .no, .no, .no] := by
        refine ⟨_, rfl, by simp, ?_⟩
        split
        · exact h .none p4 rfl okF
        · refine ⟨_, rfl, by simp, ?_⟩
          split
          · split
            · rename_i q
              exact h .through p4 (by simp [actOk, q]) okF
            · exact h (.code c) p4 k1 okF
          · exact h (.code c) p4 k1 okF
      split
      · split
        · rename_i q1 q2 q3
          have hm : (m : Int) - 1 = ((m - 1 : Nat) : Int) := by omega
          have fin2 : ∀ (f : Nat → Act) (x : Str), (∀ n, dAct (f n) = .tuple [.str x, .int n]) → (∀ n, 1 ≤ n → n < m → actOk i m (f n) = true) → S__law_draw [enPool p4, .sh (.int ((m : Int) - 1))] fun r es' => ∃ x_1, r = En.sh (PyData.int x_1) ∧ P (.sh (.tuple [.str x, .int (1 + x_1)])) (backs [0] 5 [es'.head?.getD .no, .no]) := fun f x hf hok => by
            refine draw_step ok4 (by omega) (by omega) (by omega) fun r5 p5 hr5 ok5 => ⟨_, rfl, ?_⟩
            have q := h (f (1 + r5)) p5 (hok _ (by omega) (by omega)) (ok5.up (by omega))
            rw [hf] at q
            exact q
          refine ⟨_, rfl, _, rfl, ?_⟩
          have h456 : r4 = 4 ∨ r4 = 5 ∨ r4 = 6 := by omega
          rcases h456 with e | e | e <;> subst e
          · exact ⟨_, rfl, rfl, fin2 .layer "layer" (fun _ => rfl) fun n a b => by simp [actOk]; omega⟩
          · exact ⟨_, rfl, rfl, fin2 .lock "lock" (fun _ => rfl) fun n a b => by simp [actOk]; omega⟩
          · exact ⟨_, rfl, rfl, fin2 .once "once" (fun _ => rfl) fun n a b => by simp [actOk]; omega⟩
        · exact rest
      · exact rest
  case len =>
    rintro es P ⟨_, _, _, _, _, _, rfl, _⟩
    rfl
end HT2
set_option maxRecDepth 100000
set_option maxHeartbeats 4000000
namespace HT2
open PySem PySem.Spec PyProof.Rows L2 StX PL
variable {P : Program} {w : World} {K : PySem.W.Frag} {mg : Str → Option Value} {base : Heap}
def S__law_layout : AF := fun es P => ∃ (s : Nat) (p : Pool) (wd tl : Nat) (t o : Int), es = [enPool p, .sh (.int wd), .sh (.int tl), .sh (.int t), .sh (.int o)] ∧ PoolOk s p ∧ s ≤ 8000 ∧ 1 ≤ wd ∧ wd ≤ 8 ∧ 1 ≤ tl ∧ tl ≤ 6 ∧ 1 ≤ t ∧ t ≤ 1000 ∧ ∀ l p', LayOk l → wide l ≤ wd → PoolOk (s + 1000) p' → P (.sh (dLay l)) [enPool p', .no, .no, .no, .no]
def sc_lay_in : Scope := { kind := .function, names := [(".0", .local), ("_law_layer", .cell), ("range", .globalImplicit), ("_law_deep", .free), ("_law_many", .free), ("_law_often", .free), ("_law_pool_here", .free), ("_law_top", .free)], isGenerator := false, isCoroutine := false }
def sc_lay_in2 : Scope := { kind := .function, names := [(".0", .local), ("_law_key", .local), ("_law_action", .globalImplicit), ("_law_deep", .free), ("_law_layer", .free), ("_law_often", .free), ("_law_pool_here", .free), ("_law_top", .free)], isGenerator := false, isCoroutine := false }
abbrev s__law_layout : Stmt := top 61
theorem sc__law_layout : FnScope ["_law_pool_here", "_law_wide", "_law_tall", "_law_top", "_law_often", "_law_many", "_law_deep", "_law_layer", "_law_key"] ["_law_pool_here", "_law_wide", "_law_tall", "_law_top", "_law_often"] (defScope s__law_layout) := ⟨rfl, rfl, rfl, by decide +kernel, rfl, by decide +kernel, by decide +kernel⟩
theorem ok__law_layout (B : Bl mg) (F__law_draw : Fx P w K mg base 1 "_law_draw" ["_law_pool_here", "_law_many"] (S__law_draw)) (F__law_action : Fx P w K mg base 2 "_law_action" ["_law_pool_here", "_law_layer", "_law_deep", "_law_top", "_law_often"] (S__law_action)) {f : Addr} {fd : FuncData} (A : At K mg "_law_layout" "_law_layout" s__law_layout f fd) : Fx P w K mg base 3 "_law_layout" ["_law_pool_here", "_law_wide", "_law_tall", "_law_top", "_law_often"] (S__law_layout) := by
  refine ⟨f, fd, ok_def A.fn sc__law_layout [0] ?len ?body, A.mg, A.fn.kp, (A.fn.binds fun _ _ _ _ _ _ us hl => match us, hl with | [_, _, _, _, _], _ => rfl)⟩
  case body =>
    intro cdv A outer s H E hr
    refine ⟨_, (ass_cons (as_asg (ax_tup (axa_cons (ax_add ax_int (ax_fnP F__law_draw (hr.mono (by decide)) (by rfl) (pe_v 0) (pl_slot 0) (axa_cons (ax_v 1) axa_nil))) (axa_cons (ax_add ax_int (ax_fnP F__law_draw (hr.mono (by decide)) (by rfl) (pe_v 0) (pl_slot 0) (axa_cons (ax_v 2) axa_nil))) axa_nil))) (ag_tup (n := 2) rfl (ags_cons (ag_n 5 sc__law_layout.nd) (ags_cons (ag_n 6 sc__law_layout.nd) ags_nil))))
      (ass_one (as_ret (ax_sh (ax_lc (own := [("_law_layer", 7)]) rfl sc__law_layout.nd (ai_range1 (by rfl) B.range (axa_cons (ax_v 6) axa_nil)) (blkOk_by (show blkC ["_law_pool_here", "_law_wide", "_law_tall", "_law_top", "_law_often", "_law_many", "_law_deep", "_law_layer", "_law_key"] (defScope s__law_layout) _ [("_law_layer", 7)] = true from by decide +kernel)) (fun _ _ _ _ _ => (ag_n 7 sc__law_layout.nd)) (fun _ _ _ _ _ => ats_nil) (fun _ _ _ _ _ => ax_c (ax_sh (ax_lc (own := [("_law_key", 8)]) rfl sc__law_layout.nd (ai_range1 (by rfl) B.range (axa_cons (ax_v 5) axa_nil)) (blkOk_by (by show blkC ["_law_pool_here", "_law_wide", "_law_tall", "_law_top", "_law_often", "_law_many", "_law_deep", "_law_layer", "_law_key"] sc_lay_in sc_lay_in2 [("_law_key", 8)] = true; decide +kernel)) (fun _ _ _ _ _ => (ag_n 8 sc__law_layout.nd)) (fun _ _ _ _ _ => ats_nil) (fun _ _ _ _ _ => ax_c (ax_fnP F__law_action (hr.mono (by decide)) (by rfl) (pe_v 0) (pl_slot 0) (axa_cons (ax_v 7) (axa_cons (ax_v 6) (axa_cons (ax_v 3) (axa_cons (ax_v 4) axa_nil)))))))))))))), ?_⟩
    rintro es P ⟨s, p, wd, tl, t, o, rfl, ok, hs, w1, w2, tl1, tl2, t1, t2, h⟩
    show sSeq _ _ _ [enPool p, .sh (.int wd), .sh (.int tl), .sh (.int t), .sh (.int o), .no, .no, .no, .no]
    simp
    refine ⟨rfl, draw_step ok (by omega) (by omega) (by omega) fun r1 p1 hr1 ok1 => ⟨_, rfl, rfl, draw_step ok1 (by omega) (by omega) (by omega) fun r2 p2 hr2 ok2 => ⟨_, rfl, ?_⟩⟩⟩
    refine ⟨by omega, by omega, ?_⟩
    refine lc_pre (List.range (1 + r2)) (fun (n : Nat) => .int n) (fun q acc Γ => ∃ (rows : List (List Act)) (p' : Pool), acc = (rows.map dRow).map .sh ∧ rows.length = q.length ∧ (∀ i row, rows[i]? = some row → row.length = 1 + r1 ∧ ∀ a ∈ row, actOk i (1 + r2) a = true) ∧ PoolOk (s + 2 + 100 * q.length) p' ∧ Γ = [enPool p', .sh (.int wd), .sh (.int tl), .sh (.int t), .sh (.int o), .sh (.int (1 + r1)), .sh (.int (1 + r2)), .no, .no]) ?_ ⟨[], p2, rfl, rfl, (by intro i row hh; simp at hh), ok2, rfl⟩ ?_ ?_
    · rw [rangeD_map]
      simp
      congr 1
    · rintro q n q2 acc Γ2 e ⟨rows, p3, rfl, hlen, hrows, ok3, rfl⟩
      obtain ⟨rfl, hn⟩ := range_split e
      simp
      refine ⟨by omega, by omega, ?_⟩
      refine lc_pre (List.range (1 + r1)) (fun (n : Nat) => .int n) (fun q2 acc Γ => ∃ (acts : List Act) (p' : Pool), acc = (acts.map dAct).map .sh ∧ acts.length = q2.length ∧ (∀ a ∈ acts, actOk q.length (1 + r2) a = true) ∧ PoolOk (s + 2 + 100 * q.length + 10 * q2.length) p' ∧ Γ = [enPool p', .sh (.int wd), .sh (.int tl), .sh (.int t), .sh (.int o), .sh (.int (1 + r1)), .sh (.int (1 + r2)), .sh (.int q.length), .no]) ?_ ⟨[], p3, rfl, rfl, (by intro a hh; simp at hh), ok3, rfl⟩ ?_ ?_
      · rw [rangeD_map]
        simp
        congr 1
      · rintro q3 n q4 acc Γ3 e3 ⟨acts, p4, rfl, hl4, ha4, ok4, rfl⟩
        obtain ⟨rfl, hn3⟩ := range_split e3
        simp
        refine ⟨rfl, s + 2 + 100 * q.length + 10 * q3.length, p4, q.length, 1 + r2, t, o, rfl, ok4, by omega, by omega, by omega, t1, t2, fun a p5 ha ok5 => ?_⟩
        have z1 : acts.length < sizeLine := sz_lt (m := 16) (by omega)
        simp [z1]
        refine ⟨acts ++ [a], by simp, by simp [hl4], ?_, p5, ok5.up (by omega), rfl⟩
        intro b hb
        rcases List.mem_append.mp hb with z | z
        · exact ha4 b z
        · rw [List.mem_singleton.mp z]
          exact ha
      · rintro acc Γ3 ⟨acts, p4, rfl, hl4, ha4, ok4, rfl⟩
        rw [List.length_range] at hl4 ok4
        have z1 : rows.length < sizeLine := sz_lt (m := 16) (by omega)
        simp [z1]
        refine ⟨rows ++ [acts], by simp, by simp [hlen], ?_, p4, ok4.up (by omega), rfl⟩
        intro i row hrow
        by_cases hi : i < rows.length
        · rw [List.getElem?_append_left hi] at hrow
          exact hrows i row hrow
        · rw [List.getElem?_append_right (by omega)] at hrow
          have hi2 : i - rows.length = 0 := by
            have := (List.getElem?_eq_some_iff.mp hrow).1
            simp at this
            omega
          rw [hi2] at hrow
          simp at hrow
          subst hrow
          have hi3 : i = q.length := by omega
          subst hi3
          exact ⟨hl4, ha4⟩
    · rintro acc Γ2 ⟨rows, p3, rfl, hlen, hrows, ok3, rfl⟩
      rw [List.length_range] at hlen ok3
      have hw : ∀ r ∈ rows, r.length = 1 + r1 := fun r hr => by
        obtain ⟨i, hi⟩ := List.getElem?_of_mem hr
        exact (hrows i r hi).1
      have hwd : wide rows = 1 + r1 := by
        cases rows with
        | nil =>
          have : (0 : Nat) = 1 + r2 := hlen
          omega
        | cons r rest => exact hw r List.mem_cons_self
      refine ⟨_, rfl, _, unsh_map _, rfl, h rows p3 ⟨by omega, by omega, by omega, by omega, fun r hr => (hw r hr).trans hwd.symm, fun i r hr a ha => ?_⟩ (by omega) (ok3.up (by omega))⟩
      rw [hlen]
      exact (hrows i r hr).2 a ha
  case len =>
    rintro es P ⟨_, _, _, _, _, _, rfl, _⟩
    rfl
theorem StepsOk.snoc {m : Nat} {xs : List (Nat × Bool)} {x : Nat × Bool} (ok : StepsOk m xs) (h : stepOk m (xs.foldl heldF []) x) : StepsOk m (xs ++ [x]) := fun p y q e => by
  rcases List.eq_nil_or_concat q with hq | ⟨q', z, hq⟩
  · subst hq
    have e2 := List.append_inj' (t₁ := [x]) (t₂ := [y]) e rfl
    obtain ⟨e3, e4⟩ := e2
    cases e4
    subst e3
    exact h
  · subst hq
    have e1 : xs ++ [x] = (p ++ y :: q') ++ [z] := by simpa using e
    have e2 := List.append_inj' (t₁ := [x]) (t₂ := [z]) e1 rfl
    exact ok p y q' e2.1
theorem StepsOk.nil (m : Nat) : StepsOk m [] := fun p y q e => by simp at e
theorem held_from : ∀ (xs : List (Nat × Bool)) (h0 : List Nat) (k : Nat), k ∈ xs.foldl heldF h0 → k ∈ h0 ∨ ∃ x ∈ xs, x.1 = k := fun xs => by
  induction xs with
  | nil => exact fun h0 k h => Or.inl h
  | cons x xs ih =>
    intro h0 k h
    rcases ih _ k h with z | ⟨y, hy, e⟩
    · unfold heldF at z
      split at z
      · rcases List.mem_append.mp z with z | z
        · exact Or.inl z
        · exact Or.inr ⟨x, List.mem_cons_self, (List.mem_singleton.mp z).symm⟩
      · exact Or.inl (List.mem_filter.mp z).1
    · exact Or.inr ⟨y, List.mem_cons_of_mem _ hy, e⟩
theorem StepsOk.le {m : Nat} {xs : List (Nat × Bool)} (ok : StepsOk m xs) : ∀ x ∈ xs, x.1 ≤ m := fun x hx => by
  obtain ⟨p, q, e⟩ := List.append_of_mem hx
  exact (ok p x q e).1
theorem held_lt {m : Nat} {xs : List (Nat × Bool)} (ok : StepsOk m xs) (k : Nat) (h : k ∈ xs.foldl heldF []) : k ≤ m := by
  rcases held_from xs [] k h with z | ⟨x, hx, e⟩
  · cases z
  · exact e ▸ ok.le x hx
def S__law_order : AF := fun es P => ∃ (s : Nat) (p : Pool) (m n : Nat), es = [enPool p, .sh (.int m), .sh (.int n)] ∧ PoolOk s p ∧ s ≤ 10000 ∧ 1 ≤ m ∧ m ≤ 100 ∧ n ≤ 100 ∧ ∀ (order : List (Nat × Bool)) p', order.length = n → StepsOk (m - 1) order → PoolOk (s + 1000) p' → P (.sh (.list (order.map dStep))) [enPool p', .no, .no]
abbrev s__law_order : Stmt := top 62
theorem sc__law_order : FnScope ["_law_pool_here", "_law_many", "_law_size", "_law_down", "_law_found", "_law_turn", "_law_key", "_law_one"] ["_law_pool_here", "_law_many", "_law_size"] (defScope s__law_order) := ⟨rfl, rfl, rfl, by decide +kernel, rfl, by decide +kernel, by decide +kernel⟩
theorem ok__law_order (B : Bl mg) (F__law_draw : Fx P w K mg base 1 "_law_draw" ["_law_pool_here", "_law_many"] (S__law_draw)) {f : Addr} {fd : FuncData} (A : At K mg "_law_order" "_law_order" s__law_order f fd) : Fx P w K mg base 2 "_law_order" ["_law_pool_here", "_law_many", "_law_size"] (S__law_order) := by
  refine ⟨f, fd, ok_def A.fn sc__law_order [0] ?len ?body, A.mg, A.fn.kp, (A.fn.binds fun _ _ _ _ _ _ us hl => match us, hl with | [_, _, _], _ => rfl)⟩
  case body =>
    intro cdv A outer s H E hr
    refine ⟨_, (ass_cons (as_par (i := 3) (j := 4) rfl sc__law_order.nd (axa_cons (ax_lst axa_nil) (axa_cons (ax_lstO axa_nil) axa_nil)))
      (ass_cons (as_for PassesOwn.never rfl (ai_range1 (by rfl) B.range (axa_cons (ax_v 2) axa_nil)) (ag_n 5 sc__law_order.nd)
        (ass_cons (as_set 6 sc__law_order.nd (ax_fnP F__law_draw (hr.mono (by decide)) (by rfl) (pe_v 0) (pl_slot 0) (axa_cons (ax_v 1) axa_nil)))
      (ass_cons (as_if (at_bool (aw_and (at_ne hr.units (ax_v 3) (ax_lst axa_nil)) (aw_and1 (at_eq hr.units (ax_fnP F__law_draw (hr.mono (by decide)) (by rfl) (pe_v 0) (pl_slot 0) (axa_cons ax_int axa_nil)) ax_int)))) (ass_one (as_set 6 sc__law_order.nd (ax_ix (ax_v 3) (ax_fnP F__law_draw (hr.mono (by decide)) (by rfl) (pe_v 0) (pl_slot 0) (axa_cons (ax_callB call_len sndC_len (by rfl) B.len PySem.boot_len (axa_cons (ax_v 3) axa_nil)) axa_nil))))) ass_nil)
      (ass_cons (as_append 4 (ax_tup (axa_cons (ax_v 6) (axa_cons (ax_ix (ax_lst (axa_cons ax_str (axa_cons ax_str axa_nil))) (ax_callTy call_int1 sndC_int1 (by rfl) B.int (by decide +kernel) (axa_cons (ax_in (ax_v 6) (ax_v 3)) axa_nil))) axa_nil))))
      (ass_one (as_set 3 sc__law_order.nd (ax_cat (ax_sh (ax_lc (own := [("_law_one", 7)]) rfl sc__law_order.nd (ai_list (ax_v 3)) (blkOk_by (show blkC ["_law_pool_here", "_law_many", "_law_size", "_law_down", "_law_found", "_law_turn", "_law_key", "_law_one"] (defScope s__law_order) _ [("_law_one", 7)] = true from by decide +kernel)) (fun _ _ _ _ _ => (ag_n 7 sc__law_order.nd)) (fun _ _ _ _ _ => ats_c (ats_one (at_ne hr.units (ax_v 7) (ax_v 6)))) (fun _ _ _ _ _ => ax_c (ax_v 7)))) (ax_rep (ax_lst (axa_cons (ax_v 6) axa_nil)) (ax_callTy call_int1 sndC_int1 (by rfl) B.int (by decide +kernel) (axa_cons (ax_notin (ax_v 6) (ax_v 3)) axa_nil))))))))))
      (ass_one (as_ret (ax_sh (ax_mv 4)))))), ?_⟩
    rintro es P ⟨s, p, m, n, rfl, ok, hs, m1, m2, hn, h⟩
    show sSeq _ _ _ [enPool p, .sh (.int m), .sh (.int n), .no, .no, .no, .no, .no]
    simp
    refine ⟨by omega, ?_⟩
    refine for_t (List.range n) (fun (k : Nat) => .int ((0 : Int) + k)) (fun q Γ => ∃ (order : List (Nat × Bool)) (p' : Pool) (a b c : En), order.length = q.length ∧ StepsOk (m - 1) order ∧ PoolOk (s + 3 * q.length) p' ∧ Γ = [enPool p', .sh (.int m), .sh (.int n), .sh (dNats (order.foldl heldF [])), .lst ((order.map dStep).map .sh), a, b, c]) ?_ ⟨[], p, .no, .no, .no, rfl, StepsOk.nil _, ok, rfl⟩ ?_ ?_
    · rw [rangeD_map]
    · rintro q x q2 Γ2 e ⟨order, p', a, b, c, hl, sok, okp, rfl⟩
      obtain ⟨rfl, hx⟩ := range_split e
      have hdl := held_len (h0 := []) order
      simp at hdl
      have hord : order.length ≤ 100 := by omega
      have z1 : order.length < sizeLine := sz_lt (m := 100) (by omega)
      generalize hCD : sSeq (sAppend (slG 4) (slP 4) (aTup (aCons (aVar 6) (aCons (aOp rhoIx (aLst (aCons (aC (PyData.str (Str.ofString "down"))) (aCons (aC (PyData.str (Str.ofString "up"))) aNil))) (aCB (scC rhoInt1) (aCons (aOp (rhoIn false) (aVar 6) (aVar 3)) aNil))) aNil)))) (sAsg (aOp rhoCat (aSh (aLc (iLst (aVar 3)) (bN 7) (aTest (aOp (rhoEq true) (aVar 7) (aVar 6))) (aVar 7) [7])) (aOp rhoRep (aLst (aCons (aVar 6) aNil)) (aCB (scC rhoInt1) (aCons (aOp (rhoIn true) (aVar 6) (aVar 3)) aNil)))) (bN 3)) = CD
      have fin : ∀ (k : Nat) (p1 : Pool) (c : En) (Δ : AEnds), k < m → PoolOk (s + 3 * (q.length + 1)) p1 → (∀ (o2 : List (Nat × Bool)) (a b c : En), o2.length = q.length + 1 → StepsOk (m - 1) o2 → Δ.nx [enPool p1, .sh (.int m), .sh (.int n), .sh (dNats (o2.foldl heldF [])), .lst ((o2.map dStep).map .sh), a, b, c]) → CD Δ [enPool p1, .sh (.int m), .sh (.int n), .sh (dNats (order.foldl heldF [])), .lst ((order.map dStep).map .sh), .sh (.int q.length), .sh (.int k), c] := fun k p1 c Δ hk okk hΔ => by
        subst hCD
        have hsnoc : ∀ d : Bool, (d = true ↔ k ∉ order.foldl heldF []) → StepsOk (m - 1) (order ++ [(k, d)]) ∧ (order ++ [(k, d)]).foldl heldF [] = heldF (order.foldl heldF []) (k, d) := fun d hd => ⟨sok.snoc ⟨by show k ≤ m - 1; omega, hd⟩, by rw [List.foldl_append]; rfl⟩
        generalize order.foldl heldF [] = dn at hdl hsnoc ⊢
        have hfl := nats_fl dn
        have hin := nats_in dn k
        have hdz : dn.length < sizeLine := sz_lt (m := 100) (by omega)
        simp [hfl, z1]
        have hfl2 : ∀ x ∈ (dn.map fun (n : Nat) => PyData.int n), fl x = true := List.all_eq_true.mp hfl
        by_cases hc : k ∈ dn
        · obtain ⟨s1, s2⟩ := hsnoc false (by simp [hc])
          refine Or.inr ⟨⟨_, ⟨k, hc, rfl⟩, by simp⟩, ?_⟩
          refine lc_f dn (fun (n : Nat) => .int n) (fun (n : Nat) => .int n) (fun x => decide (x ≠ k)) rfl hdz ?_ ?_
          · intro x hx KT KF k1 k2
            by_cases hxk : x = k
            · simp [hxk]
              exact k2 [enPool p1, .sh (.int m), .sh (.int n), .sh (dNats dn), .lst (order.map (En.sh ∘ dStep) ++ [.sh (.tuple [.int k, .str "up"])]), .sh (.int q.length), .sh (.int k), .sh (.int k)] (by simp [hxk]) rfl
            · have hxk' : ¬ ((x : Int) = k) := by omega
              simp [hxk']
              exact k1 [enPool p1, .sh (.int m), .sh (.int n), .sh (dNats dn), .lst (order.map (En.sh ∘ dStep) ++ [.sh (.tuple [.int k, .str "up"])]), .sh (.int q.length), .sh (.int k), .sh (.int x)] (by simp [hxk]) rfl
          · refine ⟨_, rfl, _, unsh_map _, _, rfl, _, rfl, _, rfl, _, Or.inl rfl, rfl, hfl2, Or.inl ⟨⟨_, List.mem_map.mpr ⟨k, hc, rfl⟩, by simp⟩, ?_, by simp, ?_⟩⟩
            · rw [List.length_map]
              exact Nat.le_trans (List.length_filter_le _ _) (Nat.le_of_lt hdz)
            · have q9 := hΔ (order ++ [(k, false)]) (.sh (.int q.length)) (.sh (.int k)) .no (by simp; omega) s1
              rw [s2] at q9
              simpa [heldF] using q9
        · obtain ⟨s1, s2⟩ := hsnoc true (by simp [hc])
          have hne : ∀ a, a ∈ dn → ¬ ((a : Int) = k) := fun a ha e => hc ((by omega : a = k) ▸ ha)
          refine Or.inl ⟨hne, ?_⟩
          refine lc_m dn (fun (n : Nat) => .int n) (fun (n : Nat) => .int n) rfl hdz ?_ ?_
          · intro x hx KT KF k1
            simp [hne x hx]
            exact k1 [enPool p1, .sh (.int m), .sh (.int n), .sh (dNats dn), .lst (order.map (En.sh ∘ dStep) ++ [.sh (.tuple [.int k, .str "down"])]), .sh (.int q.length), .sh (.int k), .sh (.int x)] rfl
          · refine ⟨_, rfl, _, unsh_map _, _, rfl, _, rfl, _, rfl, _, Or.inl rfl, rfl, hfl2, Or.inr ⟨?_, ?_, by simp, ?_⟩⟩
            · intro x hx
              obtain ⟨a, ha, rfl⟩ := List.mem_map.mp hx
              simp
              exact hne a ha
            · rw [List.length_map]
              exact sz_of (m := 101) (by omega)
            · have q9 := hΔ (order ++ [(k, true)]) (.sh (.int q.length)) (.sh (.int k)) .no (by simp; omega) s1
              rw [s2] at q9
              simpa [heldF] using q9
      have ne := nats_nil (order.foldl heldF [])
      simp only [dNats_eq] at ne
      simp [ne]
      refine ⟨rfl, draw_step okp (by omega) (by omega) (by omega) fun k p1 hk ok1 => ?_⟩
      by_cases hdn : order.foldl heldF [] = []
      · refine Or.inl ⟨hdn, ?_⟩
        have q9 := fun Δ => fin k p1 c Δ (by omega) (ok1.up (by omega))
        simp at q9
        exact q9 _ fun o2 a b c h1 h2 => ⟨o2, h1, h2, p1, ok1.up (by omega), a, b, c, rfl⟩
      · refine Or.inr ⟨hdn, rfl, draw_step ok1 (by omega) (by decide) (by decide) fun r p2 hr2 ok2 => ?_⟩
        refine ⟨_, rfl, by simp, ?_⟩
        split
        · refine ⟨rfl, draw_step ok2 (by omega) (by have := List.length_pos_iff.mpr hdn; omega) (by omega) fun r3 p3 hr3 ok3 => ⟨_, rfl, ?_⟩⟩
          obtain ⟨k2, hk2⟩ : ∃ k2, (order.foldl heldF [])[r3]? = some k2 := ⟨_, List.getElem?_eq_getElem (by omega)⟩
          have hlt := held_lt sok k2 (List.mem_of_getElem? hk2)
          refine ⟨.int k2, by rw [atI_nat, List.getElem?_map, hk2]; rfl, ?_⟩
          have q9 := fun Δ => fin k2 p3 c Δ (by omega) (ok3.up (by omega))
          simp at q9
          exact q9 _ fun o2 a b c h1 h2 => ⟨o2, h1, h2, p3, ok3.up (by omega), a, b, c, rfl⟩
        · have q9 := fun Δ => fin k p2 c Δ (by omega) (ok2.up (by omega))
          simp at q9
          exact q9 _ fun o2 a b c h1 h2 => ⟨o2, h1, h2, p2, ok2.up (by omega), a, b, c, rfl⟩
    · rintro Γ2 ⟨order, p', a, b, c, hl, sok, okp, rfl⟩
      rw [List.length_range] at hl okp
      exact ⟨_, rfl, rfl, _, _, rfl, unsh_map _, rfl, h order p' hl sok (okp.up (by omega))⟩
  case len =>
    rintro es P ⟨_, _, _, _, rfl, _⟩
    rfl
end HT2
set_option maxRecDepth 100000
set_option maxHeartbeats 4000000
namespace HT2
open PySem PySem.Spec PyProof.Rows L2 StX PL
variable {P : Program} {w : World} {K : PySem.W.Frag} {mg : Str → Option Value} {base : Heap}
abbrev DR := List Int × Option Int
def dDR (x : DR) : PyData := .tuple [dInts x.1, optD x.2]
@[simp] theorem dDR_eq (x : DR) : dDR x = .tuple [dInts x.1, optD x.2] := rfl
def firstD (t : Int) : Option Int → Int
  | none => 0
  | some l => max 0 (l - t)
def oneD (t : Int) (x : DR) (o : Int) : DR := (x.1 ++ [o], some (t + o))
def stepD (half : List Nat) (far : Int) (e : Ev) (x : DR) : List DR :=
  if half.contains e.k then (List.range (far + 1 - firstD e.t x.2).toNat).map fun (n : Nat) => oneD e.t x (firstD e.t x.2 + n) else [(x.1 ++ [0], x.2)]
def rowsD (half : List Nat) (far : Int) (rec : Rec) : List DR := rec.foldl (fun rows e => rows.flatMap (stepD half far e)) [([], none)]
def delsF (half : List Nat) (far : Int) (rec : Rec) : List (List Int) := (rowsD half far rec).map (·.1)
structure DrOk (m : Nat) (x : DR) : Prop where
  len : x.1.length = m
  lo : ∀ l, x.2 = some l → 0 ≤ l ∧ l ≤ 1000010
theorem firstD_ok {m : Nat} {x : DR} (ok : DrOk m x) {t : Int} (h : 0 ≤ t) : 0 ≤ firstD t x.2 ∧ firstD t x.2 ≤ 1000010 := by
  unfold firstD
  split
  · omega
  · rename_i l hl
    have := ok.lo l hl
    omega
theorem stepD_ok {half : List Nat} {far : Int} {e : Ev} {m : Nat} {x : DR} (ok : DrOk m x) (h1 : 0 ≤ e.t) (h2 : e.t ≤ 1000000) (f1 : 0 ≤ far) (f2 : far ≤ 4) : (∀ y ∈ stepD half far e x, DrOk (m + 1) y) ∧ (stepD half far e x).length ≤ 5 := by
  have hf := firstD_ok ok h1
  unfold stepD
  split
  · refine ⟨fun y hy => ?_, ?_⟩
    · obtain ⟨n, hn, rfl⟩ := List.mem_map.mp hy
      rw [List.mem_range] at hn
      refine ⟨by simp [oneD, ok.len], fun l hl => ?_⟩
      simp [oneD] at hl
      omega
    · rw [List.length_map, List.length_range]
      omega
  · refine ⟨fun y hy => ?_, by simp⟩
    rw [List.mem_singleton.mp hy]
    exact ⟨by simp [ok.len], ok.lo⟩
theorem rowsD_ok {half : List Nat} {far : Int} (f1 : 0 ≤ far) (f2 : far ≤ 4) : ∀ (rec : Rec), (∀ e ∈ rec, 0 ≤ e.t ∧ e.t ≤ 1000000) → (∀ y ∈ rowsD half far rec, DrOk rec.length y) ∧ (rowsD half far rec).length ≤ 5 ^ rec.length := by
  have gen : ∀ (rec : Rec) (rows : List DR) (m j : Nat), (∀ e ∈ rec, 0 ≤ e.t ∧ e.t ≤ 1000000) → (∀ y ∈ rows, DrOk m y) → rows.length ≤ 5 ^ j → (∀ y ∈ rec.foldl (fun rows e => rows.flatMap (stepD half far e)) rows, DrOk (m + rec.length) y) ∧ (rec.foldl (fun rows e => rows.flatMap (stepD half far e)) rows).length ≤ 5 ^ (j + rec.length) := by
    intro rec
    induction rec with
    | nil => exact fun rows m j _ h1 h2 => ⟨h1, h2⟩
    | cons e rec ih =>
      intro rows m j he h1 h2
      have hee := he e List.mem_cons_self
      have h3 : ∀ y ∈ rows.flatMap (stepD half far e), DrOk (m + 1) y := fun y hy => by
        obtain ⟨x, hx, hy2⟩ := List.mem_flatMap.mp hy
        exact (stepD_ok (h1 x hx) hee.1 hee.2 f1 f2).1 y hy2
      have h4 : ∀ vs : List DR, (∀ y ∈ vs, DrOk m y) → (vs.flatMap (stepD half far e)).length ≤ 5 * vs.length := fun vs => by
        induction vs with
        | nil => intro _; simp
        | cons v vs ihv =>
          intro hv
          have a1 := ihv fun y hy => hv y (List.mem_cons_of_mem _ hy)
          have a2 := (stepD_ok (half := half) (e := e) (hv v List.mem_cons_self) hee.1 hee.2 f1 f2).2
          rw [List.flatMap_cons, List.length_append, List.length_cons]
          omega
      have h5 := h4 rows h1
      have h6 : (rows.flatMap (stepD half far e)).length ≤ 5 ^ (j + 1) := by
        rw [Nat.pow_succ]
        omega
      have h7 := ih _ (m + 1) (j + 1) (fun e he' => he e (List.mem_cons_of_mem _ he')) h3 h6
      have e1 : m + (e :: rec).length = m + 1 + rec.length := by simp; omega
      have e2 : j + (e :: rec).length = j + 1 + rec.length := by simp; omega
      rw [e1, e2]
      exact h7
  intro rec he
  have h := gen rec [([], none)] 0 0 he (fun y hy => by rw [List.mem_singleton.mp hy]; exact ⟨rfl, fun l hl => by simp at hl⟩) (by simp)
  rw [Nat.zero_add] at h
  exact h
def R__law_delays : List PyData → (PyData → Prop) → Prop := fun ds P => ∃ (rec : Rec) (half : List Nat) (far : Int), ds = [dRec rec, dNats half, .int far] ∧ (∀ e ∈ rec, 0 ≤ e.t ∧ e.t ≤ 1000000) ∧ rec.length ≤ 6 ∧ 0 ≤ far ∧ far ≤ 4 ∧ P (.list ((delsF half far rec).map dInts))
abbrev s__law_delays : Stmt := top 63
theorem sc__law_delays : FnScope ["_law_record", "_law_half", "_law_far", "_law_rows", "_law_tick", "_law_key", "_law_way", "_law_longer", "_law_row", "_law_last", "_law_first", "_law_one"] ["_law_record", "_law_half", "_law_far"] (defScope s__law_delays) := ⟨rfl, rfl, rfl, by decide +kernel, rfl, by decide +kernel, by decide +kernel⟩
theorem ok__law_delays (B : Bl mg)  {f : Addr} {fd : FuncData} (A : At K mg "_law_delays" "_law_delays" s__law_delays f fd) : Fx P w K mg base 1 "_law_delays" ["_law_record", "_law_half", "_law_far"] (pf R__law_delays) := by
  refine ok_pf A sc__law_delays (A.fn.binds fun _ _ _ _ _ _ us hl => match us, hl with | [_, _, _], _ => rfl) ?len fun cdv A outer s H E hr => ⟨_, (ass_cons (as_set 3 sc__law_delays.nd (ax_lst (axa_cons (ax_tup (axa_cons (ax_lst axa_nil) (axa_cons ax_non axa_nil))) axa_nil)))
      (ass_cons (as_for PassesOwn.never rfl (ai_list (ax_v 0)) (ag_tup (n := 3) rfl (ags_cons (ag_n 4 sc__law_delays.nd) (ags_cons (ag_n 5 sc__law_delays.nd) (ags_cons (ag_n 6 sc__law_delays.nd) ags_nil))))
        (ass_cons (as_set 7 sc__law_delays.nd (ax_lstO axa_nil))
      (ass_cons (as_for PassesOwn.never rfl (ai_list (ax_v 3)) (ag_tup (n := 2) rfl (ags_cons (ag_n 8 sc__law_delays.nd) (ags_cons (ag_n 9 sc__law_delays.nd) ags_nil)))
        (ass_one (as_if (at_notin (ax_v 5) (ax_v 1)) (ass_one (as_append 7 (ax_tup (axa_cons (ax_cat (ax_v 8) (ax_lst (axa_cons ax_int axa_nil))) (axa_cons (ax_v 9) axa_nil))))) (ass_cons (as_set 10 sc__law_delays.nd (ax_if (at_isN (ax_v 9)) ax_int (ax_callB (call_max2 rfl) sndC_2 (by rfl) B.max (by decide +kernel) (axa_cons ax_int (axa_cons (ax_sub (ax_v 9) (ax_v 4)) axa_nil)))))
      (ass_one (as_set 7 sc__law_delays.nd (ax_catO (ax_sh (ax_mv 7)) (ax_sh (ax_lc (own := [("_law_one", 11)]) rfl sc__law_delays.nd (ai_range2 (by rfl) B.range (axa_cons (ax_v 10) (axa_cons (ax_add (ax_v 2) ax_int) axa_nil))) (blkOk_by (show blkC ["_law_record", "_law_half", "_law_far", "_law_rows", "_law_tick", "_law_key", "_law_way", "_law_longer", "_law_row", "_law_last", "_law_first", "_law_one"] (defScope s__law_delays) _ [("_law_one", 11)] = true from by decide +kernel)) (fun _ _ _ _ _ => (ag_n 11 sc__law_delays.nd)) (fun _ _ _ _ _ => ats_nil) (fun _ _ _ _ _ => ax_c (ax_tup (axa_cons (ax_cat (ax_v 8) (ax_lst (axa_cons (ax_v 11) axa_nil))) (axa_cons (ax_add (ax_v 4) (ax_v 11)) axa_nil)))))))))))))
      (ass_one (as_set 3 sc__law_delays.nd (ax_sh (ax_mv 7)))))))
      (ass_one (as_ret (ax_sh (ax_lc (own := [("_law_row", 8), ("_law_last", 9)]) rfl sc__law_delays.nd (ai_list (ax_v 3)) (blkOk_by (show blkC ["_law_record", "_law_half", "_law_far", "_law_rows", "_law_tick", "_law_key", "_law_way", "_law_longer", "_law_row", "_law_last", "_law_first", "_law_one"] (defScope s__law_delays) _ [("_law_row", 8), ("_law_last", 9)] = true from by decide +kernel)) (fun _ _ _ _ _ => ag_c (ag_tup (n := 2) rfl (ags_cons (ag_n 8 sc__law_delays.nd) (ags_cons (ag_n 9 sc__law_delays.nd) ags_nil)))) (fun _ _ _ _ _ => ats_nil) (fun _ _ _ _ _ => ax_c (ax_v 8)))))))), ?body⟩
  case len =>
    rintro ds P ⟨_, _, _, rfl, _⟩
    rfl
  case body =>
    rintro ds Q ⟨rec, half, far, rfl, he, hz, f1, f2, h⟩
    show sSeq _ _ _ [.sh (dRec rec), .sh (dNats half), .sh (.int far), .no, .no, .no, .no, .no, .no, .no, .no, .no]
    have hfl := nats_fl half
    have hin := nats_in half
    simp [hfl]
    refine for_t rec dEv (fun p Γ => ∃ a b c d e f g h, Γ = [.sh (dRec rec), .sh (dNats half), .sh (.int far), .sh (.list ((rowsD half far p).map dDR)), a, b, c, d, e, f, g, h]) rfl ⟨_, _, _, _, _, _, _, _, rfl⟩ ?_ ?_
    · rintro p ⟨et, ek, ed⟩ p2 Γ2 e ⟨a, b, c, d, e', f, g, h', rfl⟩
      have hee := he ⟨et, ek, ed⟩ (by rw [e]; simp)
      simp only at hee
      have er : rowsD half far (p ++ [⟨et, ek, ed⟩]) = (rowsD half far p).flatMap (stepD half far ⟨et, ek, ed⟩) := by
        unfold rowsD
        rw [List.foldl_append]
        rfl
      rw [er]
      obtain ⟨ro1, ro2⟩ := rowsD_ok f1 f2 (half := half) p fun x hx => he x (by rw [e]; exact List.mem_append_left _ hx)
      have hpl : p.length ≤ 5 := by
        have := congrArg List.length e
        simp at this
        omega
      have ro3 : (rowsD half far p).length ≤ 3125 := Nat.le_trans ro2 (Nat.pow_le_pow_right (by decide) hpl)
      generalize rowsD half far p = rows at ro1 ro3 ⊢
      simp
      refine for_t rows dDR (fun q Γ => ∃ a b c d, Γ = [.sh (dRec rec), .sh (dNats half), .sh (.int far), .sh (.list (rows.map dDR)), .sh (.int et), .sh (.int ek), .sh (dWay ed), .lst (((q.flatMap (stepD half far ⟨et, ek, ed⟩)).map dDR).map .sh), a, b, c, d]) rfl ⟨_, _, _, _, rfl⟩ ?_ ?_
      · rintro q x q2 Γ3 e3 ⟨a2, b2, c2, d2, rfl⟩
        have okx := ro1 x (by rw [e3]; simp)
        have hacc : (q.flatMap (stepD half far ⟨et, ek, ed⟩)).length + 5 ≤ 20000 := by
          have h4 : ∀ vs : List DR, (∀ y ∈ vs, DrOk p.length y) → (vs.flatMap (stepD half far ⟨et, ek, ed⟩)).length ≤ 5 * vs.length := fun vs => by
            induction vs with
            | nil => intro _; simp
            | cons v vs ihv =>
              intro hv
              have a1 := ihv fun y hy => hv y (List.mem_cons_of_mem _ hy)
              have a2 := (stepD_ok (half := half) (e := ⟨et, ek, ed⟩) (hv v List.mem_cons_self) hee.1 hee.2 f1 f2).2
              rw [List.flatMap_cons, List.length_append, List.length_cons]
              omega
          have h5 := h4 q fun y hy => ro1 y (by rw [e3]; exact List.mem_append_left _ hy)
          have h6 := congrArg List.length e3
          simp only [List.length_append, List.length_cons] at h6
          omega
        have es : (q ++ [x]).flatMap (stepD half far ⟨et, ek, ed⟩) = q.flatMap (stepD half far ⟨et, ek, ed⟩) ++ stepD half far ⟨et, ek, ed⟩ x := by simp
        rw [es]
        have hst := (stepD_ok (half := half) (e := ⟨et, ek, ed⟩) okx hee.1 hee.2 f1 f2).2
        generalize q.flatMap (stepD half far ⟨et, ek, ed⟩) = acc at hacc ⊢
        have z1 : acc.length < sizeLine := Nat.lt_of_lt_of_le (by omega : acc.length < 20000) (by decide)
        obtain ⟨row, last⟩ := x
        have hrl : row.length + 1 ≤ sizeLine := szb (m := 10) (by have := okx.len; simp only at this; omega) (by decide)
        have hfo := firstD_ok okx hee.1
        simp only at hfo
        simp [hfl, hin, z1, hrl]
        by_cases hc : ek ∈ half
        · have e7 : stepD half far ⟨et, ek, ed⟩ (row, last) = (List.range (far + 1 - firstD et last).toNat).map fun (n : Nat) => oneD et (row, last) (firstD et last + n) := by simp [stepD, hc]
          rw [e7] at hst ⊢
          rw [List.length_map, List.length_range] at hst
          refine Or.inl ⟨⟨_, ⟨ek, hc, rfl⟩, by simp⟩, ?_⟩
          cases last with
          | none =>
            have e8 : firstD et none = 0 := rfl
            rw [e8] at hst hfo ⊢
            simp
            refine ⟨by omega, ?_⟩
            refine lc_m (List.range (far + 1).toNat) (fun (n : Nat) => .int (0 + n)) (fun n => dDR (oneD et (row, none) (0 + n))) (rangeD_map _ _) ?_ ?_ ?_
            · rw [List.length_range]
              exact Nat.lt_of_le_of_lt (by omega : _ ≤ 5) (by decide)
            · intro n hn KT KF kk
              simp [hrl]
              have q9 := kk [.sh (dRec rec), .sh (dNats half), .sh (.int far), .sh (.list (rows.map dDR)), .sh (.int et), .sh (.int ek), .sh (dWay ed), .no, .sh (dInts row), .sh (optD none), .sh (.int 0), .sh (.int (0 + n))] rfl
              simp [oneD] at q9
              exact q9
            · refine ⟨_, rfl, _, unsh_map _, ?_, by simp, .sh (dInts row), .sh (optD none), .sh (.int 0), .no, ?_⟩
              · rw [List.length_map, List.length_range]
                exact szb (m := 20000) (by omega) (by decide)
              · simp [Function.comp_def]
          | some l =>
            have e8 : (if et < l then l - et else 0) = firstD et (some l) := by
              show _ = max 0 (l - et)
              split <;> omega
            refine ⟨_, rfl, ?_⟩
            simp only [e8]
            refine ⟨by omega, ?_⟩
            refine lc_m (List.range (far + 1 - firstD et (some l)).toNat) (fun (n : Nat) => .int (firstD et (some l) + n)) (fun n => dDR (oneD et (row, (some l)) (firstD et (some l) + n))) (rangeD_map _ _) ?_ ?_ ?_
            · rw [List.length_range]
              exact Nat.lt_of_le_of_lt (by omega : _ ≤ 5) (by decide)
            · intro n hn KT KF kk
              simp [hrl]
              have q9 := kk [.sh (dRec rec), .sh (dNats half), .sh (.int far), .sh (.list (rows.map dDR)), .sh (.int et), .sh (.int ek), .sh (dWay ed), .no, .sh (dInts row), .sh (optD (some l)), .sh (.int (firstD et (some l))), .sh (.int (firstD et (some l) + n))] rfl
              simp [oneD] at q9
              exact q9
            · refine ⟨_, rfl, _, unsh_map _, ?_, by simp, .sh (dInts row), .sh (optD (some l)), .sh (.int (firstD et (some l))), .no, ?_⟩
              · rw [List.length_map, List.length_range]
                exact szb (m := 20000) (by omega) (by decide)
              · simp [Function.comp_def]
        · have e7 : stepD half far ⟨et, ek, ed⟩ (row, last) = [(row ++ [0], last)] := by simp [stepD, hc]
          rw [e7]
          refine Or.inr ⟨fun a' ha' e' => hc ((by omega : a' = ek) ▸ ha'), ?_⟩
          simp
      · rintro Γ3 ⟨a2, b2, c2, d2, rfl⟩
        simp
    · rintro Γ2 ⟨a, b, c, d, e', f, g, h', rfl⟩
      obtain ⟨ro1, ro2⟩ := rowsD_ok f1 f2 (half := half) rec he
      have ro3 : (rowsD half far rec).length ≤ 15625 := Nat.le_trans ro2 (Nat.pow_le_pow_right (by decide) hz)
      simp
      refine lc_m (rowsD half far rec) dDR (fun x => dInts x.1) rfl (Nat.lt_of_le_of_lt ro3 (by decide)) ?_ ?_
      · intro x hx KT KF k
        simp
        exact k [.sh (dRec rec), .sh (dNats half), .sh (.int far), .sh (.list ((rowsD half far rec).map dDR)), a, b, c, d, .sh (dInts x.1), .sh (optD x.2), g, h'] rfl
      · simp
        simpa [delsF, Function.comp_def] using h
def evD (rec : Rec) (i : Nat) : Bool := (rec[i]?.map (·.d)).getD false
def dKI (x : Int × Nat) : PyData := .tuple [.int x.1, .int (x.2 : Nat)]
@[simp] theorem dKI_eq (x : Int × Nat) : dKI x = .tuple [.int x.1, .int (x.2 : Nat)] := rfl
def leKI (a b : Int × Nat) : Bool := decide (a.1 < b.1 ∨ (a.1 = b.1 ∧ a.2 ≤ b.2))
def keyed (rec : Rec) (ds : List Int) : List (Int × Nat) := (List.range rec.length).map fun i => (evT rec i + ds[i]?.getD 0, i)
def sortKI (l : List (Int × Nat)) : List (Int × Nat) := l.mergeSort leKI
def arrivedF (rec : Rec) (ds : List Int) : Rec := (sortKI (keyed rec ds)).map fun x => ⟨x.1, evK rec x.2, evD rec x.2⟩
theorem leKI_data (a b : Int × Nat) : leKI a b = PySem.W.dataLe false id (dKI a) (dKI b) := by
  show _ = !PySem.W.dataLt (dKI b) (dKI a)
  rw [dKI_eq, dKI_eq, PySem.W.dataLt_ii, Bool.eq_iff_iff]
  simp [leKI]
  omega
theorem sortKI_data (l : List (Int × Nat)) : (l.map dKI).mergeSort (PySem.W.dataLe false id) = (sortKI l).map dKI := by
  unfold sortKI
  rw [List.map_mergeSort (s := PySem.W.dataLe false id) (f := dKI)]
  exact fun a _ b _ => leKI_data a b
def R__law_arrived : List PyData → (PyData → Prop) → Prop := fun ds P => ∃ (rec : Rec) (dl : List Int), ds = [dRec rec, dInts dl] ∧ dl.length = rec.length ∧ rec.length ≤ 400 ∧ P (dRec (arrivedF rec dl))
abbrev s__law_arrived : Stmt := top 64
theorem sc__law_arrived : FnScope ["_law_record", "_law_delays_here", "_law_rows", "_law_spot", "_law_tick"] ["_law_record", "_law_delays_here"] (defScope s__law_arrived) := ⟨rfl, rfl, rfl, by decide +kernel, rfl, by decide +kernel, by decide +kernel⟩
theorem ok__law_arrived (B : Bl mg)  {f : Addr} {fd : FuncData} (A : At K mg "_law_arrived" "_law_arrived" s__law_arrived f fd) : Fx P w K mg base 1 "_law_arrived" ["_law_record", "_law_delays_here"] (pf R__law_arrived) := by
  refine ok_pf A sc__law_arrived (A.fn.binds fun _ _ _ _ _ _ us hl => match us, hl with | [_, _], _ => rfl) ?len fun cdv A outer s H E hr => ⟨_, (ass_cons (as_set 2 sc__law_arrived.nd (ax_callB (cr_sortD hr.units) sndC_sort (by rfl) B.sorted (by decide +kernel) (axa_cons (ax_sh (ax_lc (own := [("_law_spot", 3)]) rfl sc__law_arrived.nd (ai_range1 (by rfl) B.range (axa_cons (ax_callB call_len sndC_len (by rfl) B.len PySem.boot_len (axa_cons (ax_v 0) axa_nil)) axa_nil)) (blkOk_by (show blkC ["_law_record", "_law_delays_here", "_law_rows", "_law_spot", "_law_tick"] (defScope s__law_arrived) _ [("_law_spot", 3)] = true from by decide +kernel)) (fun _ _ _ _ _ => (ag_n 3 sc__law_arrived.nd)) (fun _ _ _ _ _ => ats_nil) (fun _ _ _ _ _ => ax_c (ax_tup (axa_cons (ax_add (ax_ix (ax_ix (ax_v 0) (ax_v 3)) ax_int) (ax_ix (ax_v 1) (ax_v 3))) (axa_cons (ax_v 3) axa_nil)))))) axa_nil)))
      (ass_one (as_ret (ax_sh (ax_lc (own := [("_law_tick", 4), ("_law_spot", 3)]) rfl sc__law_arrived.nd (ai_list (ax_v 2)) (blkOk_by (show blkC ["_law_record", "_law_delays_here", "_law_rows", "_law_spot", "_law_tick"] (defScope s__law_arrived) _ [("_law_tick", 4), ("_law_spot", 3)] = true from by decide +kernel)) (fun _ _ _ _ _ => ag_c (ag_tup (n := 2) rfl (ags_cons (ag_n 4 sc__law_arrived.nd) (ags_cons (ag_n 3 sc__law_arrived.nd) ags_nil)))) (fun _ _ _ _ _ => ats_nil) (fun _ _ _ _ _ => ax_c (ax_catT (ax_tup (axa_cons (ax_v 4) axa_nil)) (ax_tail (ax_ix (ax_v 0) (ax_v 3)))))))))), ?body⟩
  case len =>
    rintro ds P ⟨_, _, rfl, _⟩
    rfl
  case body =>
    rintro ds Q ⟨rec, dl, rfl, hl, hz, h⟩
    show sSeq _ _ _ [.sh (dRec rec), .sh (dInts dl), .no, .no, .no]
    simp
    refine ⟨by omega, ?_⟩
    refine lc_m (List.range rec.length) (fun (n : Nat) => .int n) (fun i => dKI (evT rec i + dl[i]?.getD 0, i)) (by rw [rangeD_map]; simp) (by rw [List.length_range]; exact sz_lt hz) ?_ ?_
    · intro n hn KT KF kk
      rw [List.mem_range] at hn
      obtain ⟨x, hx⟩ : ∃ x, rec[n]? = some x := ⟨_, List.getElem?_eq_getElem hn⟩
      obtain ⟨y, hy⟩ : ∃ x, dl[n]? = some x := ⟨_, List.getElem?_eq_getElem (by omega)⟩
      have q9 := kk [.sh (dRec rec), .sh (dInts dl), .no, .sh (.int n), .no] rfl
      simp [evT, hx, hy] at q9
      simp [hx, hy]
      exact q9
    · have e1 : ((List.range rec.length).map fun i => dKI (evT rec i + dl[i]?.getD 0, i)) = (keyed rec dl).map dKI := by unfold keyed; rw [List.map_map]; rfl
      rw [e1]
      have hal : PySem.W.AllAlike ((keyed rec dl).map dKI) := PySem.W.AllAlike.of (enc := dKI) fun b b' => by simp [PySem.W.alike, PySem.W.alikeAll]
      have hsr : PySem.W.Sortable ((keyed rec dl).map dKI) := PySem.W.Sortable.tuples (enc := dKI) fun b => ⟨_, _, rfl⟩
      have hdp : ∀ d ∈ (keyed rec dl).map dKI, d.depth ≤ 16 := fun d hd => by
        obtain ⟨x, _, rfl⟩ := List.mem_map.mp hd
        simp
      have hlen : (sortKI (keyed rec dl)).length = rec.length := by simp [sortKI, keyed]
      have hmem : ∀ x ∈ sortKI (keyed rec dl), x.2 < rec.length := fun x hx => by
        have h1 := List.mem_mergeSort.mp hx
        unfold keyed at h1
        obtain ⟨i, hi, e⟩ := List.mem_map.mp h1
        rw [List.mem_range] at hi
        subst e
        exact hi
      refine ⟨_, rfl, _, unsh_map _, hal, hsr, hdp, by simp, _, rfl, _, rfl, ?_⟩
      rw [sortKI_data]
      refine lc_m (sortKI (keyed rec dl)) dKI (fun x => dEv ⟨x.1, evK rec x.2, evD rec x.2⟩) rfl (by rw [hlen]; exact sz_lt hz) ?_ ?_
      · rintro ⟨t, i⟩ hx KT KF kk
        have hi := hmem _ hx
        simp only at hi
        obtain ⟨y, hy⟩ : ∃ x, rec[i]? = some x := ⟨_, List.getElem?_eq_getElem hi⟩
        have e2 : evK rec i = y.k := by simp [evK, hy]
        have e3 : evD rec i = y.d := by simp [evD, hy]
        have q9 := kk [.sh (dRec rec), .sh (dInts dl), .sh (.list ((sortKI (keyed rec dl)).map dKI)), .sh (.int i), .sh (.int t)] rfl
        simp [e2, e3] at q9
        simp [hy]
        exact q9
      · refine ⟨_, rfl, _, unsh_map _, by simp, ?_⟩
        have e4 : ((sortKI (keyed rec dl)).map fun x => dEv ⟨x.1, evK rec x.2, evD rec x.2⟩) = (arrivedF rec dl).map dEv := by unfold arrivedF; rw [List.map_map]; rfl
        rw [e4]
        exact h
end HT2
set_option maxRecDepth 100000
set_option maxHeartbeats 1000000
/-! sets of nested keys: two small questions of the search -/
namespace SN
open PySem PyProof.Rows L2
variable {prog : Program} {w : World}
def HashByAt (prog : Program) (w : World) (n : Nat) (s : Shared) (v : Value) : Prop := ∀ (A : Around) (E : Value → Shared → Prop) (Q : Bool → Shared → Prop), (∀ b, Q b s) → wpAny (model prog w) A (hashByValue n v) Q E s
theorem HashByAt.tuple {n : Nat} {s : Shared} {a : Addr} {o : Obj} {vs : Array Value} {m : Nat} (ho : s.heap.get? a = some o) (hc : o.cls = .type "tuple") (hd : o.data = .seq vs m) (hq : ∀ n, ∀ v ∈ vs.toList, HashByAt prog w n s v) : HashByAt prog w n s (.ref a) := fun A E Q h => by
  have hT : s.TypeIs (.ref a) "tuple" := ⟨o, ho, hc⟩
  cases n with
  | zero => exact wpAny_pure (h _)
  | succ n =>
    unfold hashByValue
    refine wpAny_bind (wpAny_specialOf hT F.slot_tuple_hash.lookup ?_)
    show wpAny _ _ (seqItems? (.ref a) >>= _) _ _ s
    refine wpAny_bind (wpAny_seqItems ho hd ?_)
    refine wpAny_bind ?_
    show wpAny _ _ (forIn vs _ _) _ _ s
    rw [← Array.forIn_toList]
    refine wpAny_forIn_list _ (fun rest r s' => s' = s ∧ ∀ v ∈ rest, HashByAt prog w n s v) _ ?_ ?_ _ _ ⟨rfl, hq n⟩
    · rintro v rest r s' ⟨rfl, hall⟩
      refine wpAny_bind (hall v List.mem_cons_self _ _ _ fun b => ?_)
      cases b with
      | true =>
        simp only [Bool.not_true, Bool.false_eq_true, if_false]
        exact wpAny_pure ⟨rfl, fun u hu' => hall u (List.mem_cons_of_mem _ hu')⟩
      | false =>
        simp only [Bool.not_false, if_true]
        refine wpAny_pure ?_
        exact wpAny_pure (h _)
    · rintro ⟨r1, r2⟩ s' ⟨rfl, _⟩
      cases r1 with
      | none => exact wpAny_pure (h _)
      | some b => exact wpAny_pure (h _)
mutual
theorem hashBy_key : ∀ (k : NestedKey) (v : Value) (n : Nat) (s : Shared), NestedIs s.heap k v → HashByAt prog w n s v
  | .none, _, n, s, x => by
    cases x
    intro A E Q h
    cases n <;> exact wpAny_pure (h _)
  | .num i, _, n, s, x => by
    cases x
    · intro A E Q h
      cases n <;> exact wpAny_pure (h _)
    · intro A E Q h
      cases n <;> exact wpAny_pure (h _)
  | .text y, _, n, s, x => by
    cases x
    intro A E Q h
    cases n <;> exact wpAny_pure (h _)
  | .tup ks, _, n, s, x => by
    cases x with
    | tup hg hc hd hk => exact .tuple hg hc hd (fun n => hashBy_keys ks _ n s hk)
theorem hashBy_keys : ∀ (ks : List NestedKey) (vs : List Value) (n : Nat) (s : Shared), NestedAll s.heap ks vs → ∀ v ∈ vs, HashByAt prog w n s v
  | [], _, n, s, x, v, hv => by cases x; cases hv
  | k :: ks, _, n, s, x, v, hv => by
    cases x with
    | cons x1 x2 =>
      rcases List.mem_cons.mp hv with e | hv
      · rw [e]; exact hashBy_key k _ n s x1
      · exact hashBy_keys ks _ n s x2 v hv
end
def AClassAt (prog : Program) (w : World) (n : Nat) (s : Shared) (v : Value) : Prop := ∀ (A : Around) (E : Value → Shared → Prop) (Q : Bool → Shared → Prop), Q false s → wpAny (model prog w) A (ofAClassStatement n v) Q E s
theorem AClassAt.tuple {n : Nat} {s : Shared} {a : Addr} {o : Obj} {vs : Array Value} {m : Nat} (ho : s.heap.get? a = some o) (hc : o.cls = .type "tuple") (hd : o.data = .seq vs m) (hq : ∀ v ∈ vs.toList, AClassAt prog w n s v) : AClassAt prog w (n + 1) s (.ref a) := fun A E Q h => by
  have hT : s.TypeIs (.ref a) "tuple" := ⟨o, ho, hc⟩
  unfold ofAClassStatement
  refine wpAny_bind (wpAny_typeOf hT ?_)
  dsimp only
  have e : (("tuple" : String) == "tuple") = true := by decide
  simp only [e, if_true, Bool.not_true, Bool.false_eq_true, if_false]
  try refine wpAny_bind (wpAny_pure ?_)
  try simp only [Bool.not_true, Bool.false_eq_true, if_false]
  show wpAny _ _ (seqItems? (.ref a) >>= _) _ _ s
  refine wpAny_bind (wpAny_seqItems ho hd ?_)
  dsimp only
  refine wpAny_bind ?_
  show wpAny _ _ (forIn vs _ _) _ _ s
  rw [← Array.forIn_toList]
  refine wpAny_forIn_list _ (fun rest r s' => r.1 = none ∧ s' = s ∧ ∀ v ∈ rest, AClassAt prog w n s v) _ ?_ ?_ _ _ ⟨rfl, rfl, hq⟩
  · rintro v rest r s' ⟨hr, rfl, hall⟩
    refine wpAny_bind (hall v List.mem_cons_self _ _ _ ?_)
    simp only [Bool.false_eq_true, if_false]
    exact wpAny_pure ⟨rfl, rfl, fun u hu' => hall u (List.mem_cons_of_mem _ hu')⟩
  · rintro ⟨r1, r2⟩ s' ⟨hr, rfl, _⟩
    simp only at hr
    subst hr
    exact wpAny_pure h
mutual
theorem aclass_key : ∀ (k : NestedKey) (v : Value) (n : Nat) (s : Shared), NestedIs s.heap k v → k.depth ≤ n → AClassAt prog w n s v
  | .none, _, n, s, x, _ => by
    cases x
    intro A E Q h
    cases n <;> exact wpAny_pure h
  | .num i, _, n, s, x, _ => by
    cases x
    · intro A E Q h
      cases n <;> exact wpAny_pure h
    · intro A E Q h
      cases n <;> exact wpAny_pure h
  | .text y, _, n, s, x, _ => by
    cases x
    intro A E Q h
    cases n <;> exact wpAny_pure h
  | .tup ks, _, n, s, x, hn => by
    cases x with
    | tup hg hc hd hk =>
      simp only [NestedKey.depth] at hn
      cases n with
      | zero => omega
      | succ n => exact .tuple hg hc hd (aclass_keys ks _ n s hk (by omega))
theorem aclass_keys : ∀ (ks : List NestedKey) (vs : List Value) (n : Nat) (s : Shared), NestedAll s.heap ks vs → NestedKey.depthAll ks ≤ n → ∀ v ∈ vs, AClassAt prog w n s v
  | [], _, n, s, x, _, v, hv => by cases x; cases hv
  | k :: ks, _, n, s, x, hn, v, hv => by
    cases x with
    | cons x1 x2 =>
      simp only [NestedKey.depthAll] at hn
      rcases List.mem_cons.mp hv with e | hv
      · rw [e]; exact aclass_key k _ n s x1 (by omega)
      · exact aclass_keys ks _ n s x2 (by omega) v hv
end
end SN
set_option maxRecDepth 100000
set_option maxHeartbeats 2000000
/-! the set of nested keys: searching and adding -/
namespace SN
open PySem PyProof.Rows L2
abbrev IsN (P : Program) (w : World) (h : Heap) (k : NestedKey) (a : Addr) : Prop := (nestedKind P w).is h k a
def rowsN (w : World) (L : List (Addr × NestedKey)) : List (Int × Value) := L.map fun p => (p.2.hash w, Value.ref p.1)
structure SetN (P : Program) (w : World) (h : Heap) (a : Addr) (L : List (Addr × NestedKey)) (es : Array (Int × Value)) (ep : Nat) (t : SetTable) : Prop where
  ob : ∃ o, h.get? a = some o ∧ o.ExactSet ∧ o.data = .set es ep t
  rows : es.toList = rowsN w L
  tab : TabOk t (L.map fun p => p.2.hash w)
  nd : (L.map (·.2)).Nodup
  tup : ∀ p ∈ L, IsN P w h p.2 p.1
  led : w.params.followText "set-order" = true ∨ t.led = true
  room : L.length * 5 < t.mask * 3
  few : L.length < 64
section
variable {P : Program} {w : World} {A : Around} {E : Value → Shared → Prop} {s : Shared} {a : Addr} {L : List (Addr × NestedKey)} {es : Array (Int × Value)} {ep : Nat} {t : SetTable}
theorem rowsN_len (L : List (Addr × NestedKey)) : (rowsN w L).length = L.length := by simp [rowsN]
theorem rows_size (h : es.toList = rowsN w L) : es.size = L.length := by
  rw [← Array.length_toList, h, rowsN_len]
theorem SetN.size {h : Heap} (R : SetN P w h a L es ep t) : es.size = L.length := rows_size R.rows
theorem SetN.psz {h : Heap} (R : SetN P w h a L es ep t) : t.place.size = L.length := by
  have q := R.tab.sz
  rwa [List.length_map] at q
theorem fitsN {n : Nat} (hd : t.dummies = #[]) (h1 : t.place.size = n) (h2 : n ≤ t.mask) : t.fits n = true := by
  unfold SetTable.fits SetTable.fill
  rw [hd, Bool.and_eq_true, beq_iff_eq, decide_eq_true_eq]
  show t.place.size = n ∧ t.place.size + 0 ≤ t.mask
  omega
theorem SetN.fits {h : Heap} (R : SetN P w h a L es ep t) : t.fits es.size = true :=
  fitsN R.tab.dm (R.psz.trans R.size.symm) (by have := R.size; have := R.room; omega)
theorem SetN.entry {h : Heap} (R : SetN P w h a L es ep t) {i : Nat} {p : Addr × NestedKey} (hp : L[i]? = some p) : es[i]? = some (p.2.hash w, Value.ref p.1) := by
  rw [← Array.getElem?_toList, R.rows]
  simp [rowsN, hp]
theorem SetN.calm {h : Heap} (R : SetN P w h a L es ep t) : ¬ t.gaveWay = true := by
  unfold SetTable.gaveWay
  rw [mask_odd R.tab.mok]
  decide
/-- a search among nested tuples shows nothing -/
theorem seenN {k : NestedKey} {b : Addr} {Q : Bool → Shared → Prop} (hk : IsN P w s.heap k b) {ys : List Value} (hy : ∀ y ∈ ys, ∃ k' c, y = Value.ref c ∧ IsN P w s.heap k' c) (h : Q false s) :
    wpAny (model P w) A (searchCouldBeSeen (.ref b) ys) Q E s := by
  unfold searchCouldBeSeen
  refine wpAny_bind (wpAny_forIn_list _ (fun rest r s' => r.1 = none ∧ s' = s ∧ ∀ y ∈ rest, ∃ k' c, y = Value.ref c ∧ IsN P w s.heap k' c) _ ?_ ?_ _ _ ⟨rfl, rfl, hy⟩)
  · rintro v rest r s' ⟨hr, rfl, hall⟩
    obtain ⟨k', c, rfl, hc⟩ := hall v List.mem_cons_self
    have rest' : ∀ y ∈ rest, ∃ k' c, y = Value.ref c ∧ IsN P w s'.heap k' c := fun u hu' => hall u (List.mem_cons_of_mem _ hu')
    dsimp only
    split
    · exact wpAny_pure ⟨rfl, rfl, rest'⟩
    · refine wpAny_bind (quiet_key k _ 8 _ hk.1 hk.2 _ _ _ ?_)
      simp only [Bool.not_true, Bool.false_eq_true, if_false]
      refine wpAny_bind (quiet_key k' _ 8 _ hc.1 hc.2 _ _ _ ?_)
      simp only [Bool.not_true, Bool.false_eq_true, if_false]
      refine wpAny_bind (aclass_key k _ 8 _ hk.1 hk.2 _ _ _ ?_)
      simp only [Bool.false_eq_true, if_false]
      refine wpAny_bind (aclass_key k' _ 8 _ hc.1 hc.2 _ _ _ ?_)
      simp only [Bool.false_eq_true, if_false]
      exact wpAny_pure ⟨rfl, rfl, rest'⟩
  · rintro ⟨r1, r2⟩ s' ⟨hr, rfl, _⟩
    simp only at hr
    subst hr
    exact wpAny_pure h
theorem nth_dummy {m : Nat} : ∀ (n : Nat) (p : SetTable.Probe), p.dummy = none → (nth m p n).dummy = none
  | 0, _, h => h
  | n + 1, p, h => nth_dummy n (adv m p) (by unfold adv; split <;> exact h)
/-- the state on the way of hash h -/
abbrev pos (m : Nat) (h : Int) (c : Nat) : SetTable.Probe := nth m (runAt m (SetTable.bits h % (m + 1)) (SetTable.bits h)) c
theorem pos_add (m : Nat) (h : Int) (c q : Nat) : nth m (pos m h c) q = pos m h (c + q) := (nth_add m c _ q).symm
theorem SetN.hashAt {H : Heap} (R : SetN P w H a L es ep t) {i : Nat} {p : Addr × NestedKey} (hp : L[i]? = some p) : (es[i]?.map (·.1)).getD 0 = p.2.hash w := by
  rw [R.entry hp]
  rfl
theorem SetN.owner {H : Heap} (R : SetN P w H a L es ep t) {i j : Nat} (hi : t.place.toList[i]? = some j) : ∃ p, L[i]? = some p ∧ p ∈ L := by
  have h1 : i < t.place.toList.length := (List.getElem?_eq_some_iff.mp hi).1
  rw [Array.length_toList, R.psz] at h1
  exact ⟨L[i], List.getElem?_eq_getElem h1, List.getElem_mem h1⟩
/-- the search from the c-th step of the way on -/
theorem searchN_from (R : SetN P w s.heap a L es ep t) {x : Addr} {k : NestedKey} (hx : IsN P w s.heap k x) (hu : A.units + 8 < cLine) {h : Int} (hk : k.hash w = h) {K : Nat} (hKf : K < 10 * SetTable.turns t.mask)
    (hK : way t.mask h K ∉ t.place.toList) (hKb : ∀ c, c < K → way t.mask h c ∈ t.place.toList) {Q : SetFound → Shared → Prop} (hin : k ∈ L.map (·.2) → Q (.there none) s) (hout : k ∉ L.map (·.2) → Q (.free (way t.mask h K) false) s) :
    ∀ (f c : Nat) (stand : Option SetTable.Probe), stand.getD (t.probeStart h) = pos t.mask h c → c ≤ K → K - c < f →
      (∀ (i : Nat) (p : Addr × NestedKey), L[i]? = some p → p.2 = k → ∃ c', c ≤ c' ∧ c' < K ∧ t.place.toList[i]? = some (way t.mask h c')) →
      wpAny (model P w) A (setSearchFrom a (.ref x) h true f stand) Q E s := by
  intro f
  induction f with
  | zero => intro c stand _ _ hf; exact absurd hf (Nat.not_lt_zero _)
  | succ f ih =>
    intro c stand hst hc hf hre
    obtain ⟨o, ho, hex, hd⟩ := R.ob
    have at_ : ∀ q, (nth t.mask (pos t.mask h c) q).j = way t.mask h (c + q) := fun q => congrArg SetTable.Probe.j (pos_add t.mask h c q)
    have spec := go_spec t R.tab.ris R.tab.dm (fun i => (es[i]?.map (·.1)).getD 0) h (10 * SetTable.turns t.mask) (K - c) (pos t.mask h c) (nth_dummy c _ rfl) (by omega)
      (fun q hq => by rw [at_]; exact hKb (c + q) (by omega)) (by rw [at_, show c + (K - c) = K by omega]; exact hK)
    rw [setSearchFrom_succ]
    refine wpAny_bind (wpAny_setState_of ho hd R.fits ?_)
    dsimp only
    refine wp_if_neg R.calm ?_
    try refine wpAny_bind (wpAny_pure ?_)
    rw [hst]
    rcases spec with ⟨q, i, hq, hi, hh, hno, hpr⟩ | ⟨hno, hpr⟩
    · rw [show t.probe (fun i => (es[i]?.map (·.1)).getD 0) h (pos t.mask h c) = _ from hpr, at_, pos_add]
      dsimp only
      rw [at_] at hi
      obtain ⟨p, hp, hm⟩ := R.owner hi
      have go : wpAny (model P w) A (searchRest a (.ref x) h true f es t (way t.mask h (c + q)) i (pos t.mask h (c + (q + 1)))) Q E s := by
        unfold searchRest
        rw [R.entry hp]
        dsimp only
        refine wpAny_bind (wpAny_holding ((nestedKind P w).eqBool hu (R.tup p hm) hx ?_))
        refine wpAny_bind (wpAny_setState_of ho hd R.fits ?_)
        dsimp only
        by_cases e : p.2 = k
        · refine wp_if_pos (by simp [e]) (wpAny_pure (hin (List.mem_map.mpr ⟨p, hm, e⟩)))
        · refine wp_if_neg (by simp [e]) ?_
          try refine wpAny_bind (wpAny_pure ?_)
          have hsl : t.slot (way t.mask h (c + q)) = .live i := slot_live R.tab.ris hi
          rw [sameMem]
          dsimp only
          simp only [if_true, hsl, R.entry hp]
          refine wpAny_bind (wpAny_isSame_ref_self (wpAny_bind (wpAny_pure ?_)))
          simp only [if_true]
          refine wp_if_neg (by simp [e]) (ih (c + (q + 1)) _ rfl (by omega) (by omega) fun i0 p0 h0 hk0 => ?_)
          obtain ⟨c', a1, a2, a3⟩ := hre i0 p0 h0 hk0
          refine ⟨c', ?_, a2, a3⟩
          rcases Nat.lt_trichotomy c' (c + q) with z | z | z
          · refine absurd ((R.hashAt h0).trans (by rw [hk0, hk])) (hno (c' - c) i0 (by omega) ?_)
            rw [at_, show c + (c' - c) = c' by omega]
            exact a3
          · rw [z] at a3
            have s0 := slot_live R.tab.ris a3
            rw [hsl] at s0
            injection s0 with s0
            rw [← s0, hp] at h0
            cases h0
            exact absurd hk0 e
          · omega
      by_cases hl : t.led = true
      · refine wp_if_neg (by simp [hl]) ?_
        try refine wpAny_bind (wpAny_pure ?_)
        exact go
      · refine wp_if_pos (by simp [hl]) (wpAny_bind (seenN hx (fun y hy => ?_) ?_))
        · obtain ⟨e, he, rfl⟩ := List.mem_map.mp hy
          have he1 : e ∈ es ∧ e.1 = h := by simpa using he
          have he2 : e ∈ es.toList := by simpa using he1.1
          rw [R.rows] at he2
          obtain ⟨p2, hp2, rfl⟩ := List.mem_map.mp he2
          exact ⟨p2.2, p2.1, rfl, R.tup p2 hp2⟩
        · refine wp_if_neg (by decide) ?_
          try refine wpAny_bind (wpAny_pure ?_)
          exact go
    · rw [show t.probe (fun i => (es[i]?.map (·.1)).getD 0) h (pos t.mask h c) = _ from hpr, at_, show c + (K - c) = K by omega]
      dsimp only
      refine wpAny_pure (hout fun hm => ?_)
      obtain ⟨p0, h0, hk0⟩ := List.mem_map.mp hm
      obtain ⟨i0, hi0, e0⟩ := List.getElem_of_mem h0
      have h00 : L[i0]? = some p0 := by rw [List.getElem?_eq_getElem hi0, e0]
      obtain ⟨c', a1, a2, a3⟩ := hre i0 p0 h00 hk0
      refine absurd ((R.hashAt h00).trans (by rw [hk0, hk])) (hno (c' - c) i0 (by omega) ?_)
      rw [at_, show c + (c' - c) = c' by omega]
      exact a3
/-- the search that adding makes -/
theorem searchN (R : SetN P w s.heap a L es ep t) {x : Addr} {k : NestedKey} (hx : IsN P w s.heap k x) (hu : A.units + 8 < cLine) {h : Int} (hk : k.hash w = h) {Q : SetFound → Shared → Prop} (hin : k ∈ L.map (·.2) → Q (.there none) s)
    (hout : ∀ K, k ∉ L.map (·.2) → way t.mask h K ∉ t.place.toList → (∀ c, c < K → way t.mask h c ∈ t.place.toList) → Q (.free (way t.mask h K) false) s) : wpAny (model P w) A (setSearch a (.ref x) h true) Q E s := by
  have room := R.room
  obtain ⟨K, hKf, hK, hKb⟩ := R.tab.first (by rw [List.length_map]; omega) h
  have big : K < 100000 := by
    have : 10 * SetTable.turns t.mask ≤ 1420 := by
      unfold SetTable.turns
      rcases R.tab.mok with e | e | e <;> omega
    omega
  unfold setSearch
  refine searchN_from R hx hu hk hKf hK hKb hin (fun hn => hout K hn hK hKb) 100000 0 none rfl (Nat.zero_le _) (by omega) fun i p hp e => ?_
  have hi : (L.map fun p => p.2.hash w)[i]? = some h := by rw [List.getElem?_map, hp, ← hk, ← e]; rfl
  have hil : i < t.place.toList.length := by
    have h1 : i < L.length := (List.getElem?_eq_some_iff.mp hp).1
    rw [Array.length_toList, R.psz]
    exact h1
  have hj := List.getElem?_eq_getElem hil
  obtain ⟨c, hc, e⟩ := R.tab.before hK hi hj
  exact ⟨c, Nat.zero_le _, hc, by rw [hj, e]⟩
end
end SN
set_option maxRecDepth 100000
set_option maxHeartbeats 2000000
/-! the set of nested keys: adding -/
namespace SN
open PySem PyProof.Rows L2
section
variable {P : Program} {w : World} {A : Around} {E : Value → Shared → Prop} {s : Shared} {a : Addr} {L : List (Addr × NestedKey)} {es : Array (Int × Value)} {ep : Nat} {t : SetTable}
/-- a tuple isn't the set -/
theorem IsN.other {h h' : Heap} {k : NestedKey} {b : Addr} {o : Obj} (x : IsN P w h k b) (ho : h.get? a = some o) (hd : o.data = .set es ep t) (hs : Heap.SameBut a h h') : IsN P w h' k b :=
  nestedKind_stays.stays (fun c u vs n hu hv => (hs.2 c fun e => by
    subst e
    rw [ho] at hu
    cases hu
    rw [hd] at hv
    cases hv).trans hu) x
theorem IsN.keep {h h' : Heap} {k : NestedKey} {b : Addr} (x : IsN P w h k b) (hk : ∀ c o, h.get? c = some o → h'.get? c = some o) : IsN P w h' k b := nestedKind_stays.stays (fun c u _ _ hu _ => hk c u hu) x
theorem rowsN_perm_of {order : List Nat} (hr : es.toList = rowsN w L) (hp : order.Perm (List.range L.length)) :
    ∃ L2, order.filterMap (es[·]?) = rowsN w L2 ∧ L2.Perm L ∧ (L2.map fun p => p.2.hash w) = order.map fun i => (es.map (·.1)).getD i 0 := by
  refine ⟨order.filterMap (L[·]?), ?_, ?_, ?_⟩
  · have e : ∀ l : List Nat, l.filterMap (es[·]?) = rowsN w (l.filterMap (L[·]?)) := fun l => by
      unfold rowsN
      rw [List.map_filterMap]
      congr 1
      funext i
      rw [← Array.getElem?_toList, hr]
      simp [rowsN]
    exact e order
  · have h1 := hp.filterMap (L[·]?)
    have h2 : ∀ M : List (Addr × NestedKey), (List.range M.length).filterMap (M[·]?) = M := fun M => by
      induction M with
      | nil => rfl
      | cons x r ih =>
        rw [List.length_cons, List.range_succ_eq_map, List.filterMap_cons_some (by rfl : (x :: r)[0]? = some x), List.filterMap_map]
        exact congrArg _ ih
    rw [h2] at h1
    exact h1
  · have e : ∀ l : List Nat, (∀ i ∈ l, i < L.length) → ((l.filterMap (L[·]?)).map fun p => p.2.hash w) = l.map fun i => (es.map (·.1)).getD i 0 := fun l hl => by
      induction l with
      | nil => rfl
      | cons i r ih =>
        have hi := hl i List.mem_cons_self
        have he : es[i]? = some (L[i].2.hash w, Value.ref L[i].1) := by
          rw [← Array.getElem?_toList, hr]
          simp [rowsN, hi]
        rw [List.filterMap_cons_some (List.getElem?_eq_getElem hi), List.map_cons, List.map_cons, ih fun j hj => hl j (List.mem_cons_of_mem _ hj)]
        congr 1
        simp [Array.getD_eq_getD_getElem?, he]
    exact e order fun i hi => List.mem_range.mp (hp.mem_iff.mp hi)
/-- the table laid anew, larger -/
theorem relayN {o : Obj} (ho : s.heap.get? a = some o) (hex : o.ExactSet) (hd : o.data = .set es ep t) (hrows : es.toList = rowsN w L) (hsz : t.place.size = es.size) (hdm : t.dummies = #[]) (hfl : es.size ≤ t.mask)
    (nd : (L.map (·.2)).Nodup) (tup : ∀ p ∈ L, IsN P w s.heap p.2 p.1) (ld : w.params.followText "set-order" = true ∨ t.led = true) (few : L.length < 64) {wanted M : Nat}
    (hw : SetTable.sizeAbove wanted - 1 = M) (hM : MaskOk M) (hw2 : SetTable.sizeAbove wanted ≤ 128) (hn : L.length * 5 < M * 3) {Q : Unit → Shared → Prop}
    (hQ : ∀ h' L' es' ep' t', Heap.SameBut a s.heap h' → SetN P w h' a L' es' ep' t' → L'.Perm L → Q () { s with heap := h' }) : wpAny (model P w) A (setRelay a wanted) Q E s := by
  have hsl := rows_size hrows
  obtain ⟨t', order, e, hp, T, em, el, _, ed⟩ := relaid_ok t (hs := es.map (·.1)) (wanted := wanted) hw hM (by rw [Array.size_map, hsl]; omega)
  rw [Array.size_map, hsl] at hp
  obtain ⟨L2, r1, r2, r3⟩ := rowsN_perm_of hrows hp
  rw [← r3] at T
  have r1' : (order.filterMap (es[·]?)).toList = rowsN w L2 := by
    rw [Array.toList_filterMap]
    exact r1
  have hs2 : (order.filterMap (es[·]?)).size = es.size := by rw [rows_size r1', r2.length_eq, hsl]
  rw [setRelay_eq]
  refine wpAny_bind (wpAny_setState_of ho hd (fitsN hdm hsz hfl) ?_)
  dsimp only
  refine wp_if_neg (by rw [sizeLine_eq]; omega) ?_
  try refine wpAny_bind (wpAny_pure ?_)
  rw [e]
  dsimp only
  refine wpAny_bind (wp_if_neg (by rw [hs2]; simp) ?_)
  try refine wpAny_bind (wpAny_pure ?_)
  refine wpAny_pure ?_
  dsimp only
  refine wpAny_storeSet_of ho hd ?_ (by rw [hs2, hsl, sizeLine_eq]; omega)
  have sb : Heap.SameBut a s.heap (s.heap.update a (Obj.putSet (order.filterMap (es[·]?)) t')) := Heap.SameBut.update ..
  exact hQ _ L2 _ (ep + 1) t' sb ⟨⟨_, store_at ho hd, ⟨hex.1, hex.2.1, hex.2.2⟩, rfl⟩, r1', T, (r2.map (·.2)).nodup_iff.mpr nd, fun p hpm => (tup p (r2.mem_iff.mp hpm)).other ho hd sb, by rw [el]; exact ld, by rw [r2.length_eq, em]; exact hn, by rw [r2.length_eq]; exact few⟩ r2
end
end SN
set_option maxRecDepth 100000
set_option maxHeartbeats 2000000
namespace SN
open PySem PyProof.Rows L2
section
variable {P : Program} {w : World} {A : Around} {E : Value → Shared → Prop} {s : Shared} {a : Addr} {L : List (Addr × NestedKey)} {es : Array (Int × Value)} {ep : Nat} {t : SetTable}
theorem full_cases {t t1 : SetTable} {n : Nat} (ok : MaskOk t.mask) (em : t1.mask = t.mask) (ef : t1.fill = n + 1) (room : n * 5 < t.mask * 3) (few : n + 1 < 64) (hf : t1.tooFull = true) : (t.mask = 7 ∧ n = 4) ∨ (t.mask = 31 ∧ n = 18) := by
  unfold SetTable.tooFull at hf
  rw [decide_eq_true_eq, ef, em] at hf
  rcases ok with e | e | e <;> rw [e] at hf room
  · exact .inl ⟨e, by omega⟩
  · exact .inr ⟨e, by omega⟩
  · omega
/-- adding -/
theorem addN (R : SetN P w s.heap a L es ep t) {x : Addr} {k : NestedKey} (hx : IsN P w s.heap k x) (hu : A.units + 8 < cLine) (few : L.length + 1 < 64) {Q : Bool → Shared → Prop}
    (hQ : ∀ b h' L' es' ep' t', Heap.SameBut a s.heap h' → SetN P w h' a L' es' ep' t' → (k ∈ L.map (·.2) → L' = L) → (k ∉ L.map (·.2) → L'.Perm ((x, k) :: L)) → Q b { s with heap := h' }) :
    wpAny (model P w) A (setAddHashed a (.ref x) (k.hash w)) Q E s := by
  obtain ⟨o, ho, hex, hd⟩ := R.ob
  have hsl := R.size
  unfold setAddHashed
  refine wpAny_holding ?_
  rw [show (100000 : Nat) = 99999 + 1 from rfl, setAddHashedIn_succ]
  refine wpAny_bind (wpAny_setState_of ho hd R.fits ?_)
  dsimp only
  refine wp_if_neg (by simp [byScan, Value.scannable]) ?_
  try refine wpAny_bind (wpAny_pure ?_)
  refine wpAny_bind (searchN R hx hu rfl (fun hm => ?_) fun K hm hK hb => ?_)
  · dsimp only
    exact wpAny_pure (hQ false s.heap L es ep t (Heap.SameBut.refl a s.heap) R (fun _ => rfl) fun z => absurd hm z)
  · dsimp only
    refine wpAny_bind (wpAny_setState_of ho hd R.fits ?_)
    dsimp only
    obtain ⟨q1, q2, q3, q4, q5, _, _, _, q9⟩ := R.tab.put hK hb
    rw [List.length_map] at q9
    generalize hpt : t.put (way t.mask (k.hash w) K) = pt at q1 q3 q4 q5 q9 ⊢
    obtain ⟨t1, p⟩ := pt
    dsimp only at q1 q3 q4 q5 q9 ⊢
    subst q1
    have hin : (SetTable.insertAt es (SetTable.below t.place (way t.mask (k.hash w) K)) (k.hash w, Value.ref x)).toList = rowsN w (L.take (SetTable.below t.place (way t.mask (k.hash w) K)) ++ (x, k) :: L.drop (SetTable.below t.place (way t.mask (k.hash w) K))) := by
      rw [SetTable.toList_insertAt, R.rows]
      simp [rowsN]
    generalize SetTable.below t.place (way t.mask (k.hash w) K) = p at q2 q3 hin ⊢
    have pm := put_perm L p (x, k)
    have hhs : (L.take p ++ (x, k) :: L.drop p).map (fun p => p.2.hash w) = (L.map fun p => p.2.hash w).take p ++ k.hash w :: (L.map fun p => p.2.hash w).drop p := by simp
    rw [← hhs] at q3
    generalize SetTable.insertAt es p (k.hash w, Value.ref x) = es1 at hin ⊢
    generalize L.take p ++ (x, k) :: L.drop p = L1 at pm q3 hin
    have hlen : L1.length = L.length + 1 := pm.length_eq
    have hes := rows_size hin
    have nd1 : (L1.map (·.2)).Nodup := (pm.map (·.2)).nodup_iff.mpr (List.nodup_cons.mpr ⟨hm, R.nd⟩)
    have fin : ∀ t2 : SetTable, TabOk t2 (L1.map fun p => p.2.hash w) → t2.mask = t.mask → t2.led = t.led → t2.fill = L.length + 1 →
        wpAny (model P w) A (do
          storeSet a es1 t2
          if !false && t2.tooFull then setRelay a (SetTable.grown (es.size + 1))
          return true) Q E s := fun t2 T2 em el ef => by
      refine wpAny_bind (wpAny_storeSet_of ho hd ?_ (by rw [hes, hlen, sizeLine_eq]; omega))
      have sb : Heap.SameBut a s.heap (s.heap.update a (Obj.putSet es1 t2)) := Heap.SameBut.update ..
      have ho1 := store_at (es' := es1) (t' := t2) ho hd
      generalize s.heap.update a (Obj.putSet es1 t2) = h1 at sb ho1 ⊢
      have tup1 : ∀ p ∈ L1, IsN P w h1 p.2 p.1 := fun p hp => by
        rcases List.mem_cons.mp (pm.mem_iff.mp hp) with e | hp
        · rw [e]
          exact hx.other ho hd sb
        · exact (R.tup p hp).other ho hd sb
      have ld1 : w.params.followText "set-order" = true ∨ t2.led = true := by rw [el]; exact R.led
      by_cases hf : t2.tooFull = true
      · first
          | (refine wpAny_bind ?_; refine wp_if_pos (by simp [hf]) ?_)
          | (refine wp_if_pos (by simp [hf]) ?_; refine wpAny_bind ?_)
        rw [hsl]
        have cs := full_cases R.tab.mok em ef R.room few hf
        have psz := T2.sz
        rw [List.length_map] at psz
        have go : ∀ M, SetTable.sizeAbove (SetTable.grown (L.length + 1)) - 1 = M → MaskOk M → SetTable.sizeAbove (SetTable.grown (L.length + 1)) ≤ 128 → (L.length + 1) * 5 < M * 3 →
            wpAny (model P w) A (setRelay a (SetTable.grown (L.length + 1))) (fun _ s' => wpAny (model P w) A (pure true) Q E s') E { s with heap := h1 } := fun M m1 m2 m3 m4 =>
          relayN (s := { s with heap := h1 }) ho1 ⟨hex.1, hex.2.1, hex.2.2⟩ rfl hin (psz.trans hes.symm) T2.dm (by rw [hes, hlen, em]; rcases cs with ⟨e, e2⟩ | ⟨e, e2⟩ <;> omega) nd1 tup1 ld1 (by omega) m1 m2 m3 (by omega)
            fun h2 L2 es2 ep2 t3 sb2 R2 pm2 => wpAny_pure (hQ true h2 L2 es2 ep2 t3 (sb.trans sb2) R2 (fun z => absurd z hm) fun _ => pm2.trans pm)
        rcases cs with ⟨_, e2⟩ | ⟨_, e2⟩
        · exact go 31 (by rw [e2, size_20]) (.inr (.inl rfl)) (by rw [e2, size_20]; decide) (by omega)
        · exact go 127 (by rw [e2, size_76]) (.inr (.inr rfl)) (by rw [e2, size_76]; decide) (by omega)
      · first
          | refine wp_if_neg (by simp [hf]) ?_
          | (refine wpAny_bind ?_; refine wp_if_neg (by simp [hf]) ?_; refine wpAny_pure ?_)
        refine wpAny_pure (hQ true h1 L1 es1 (ep + 1) t2 sb ⟨⟨_, ho1, ⟨hex.1, hex.2.1, hex.2.2⟩, rfl⟩, hin, T2, nd1, tup1, ld1, ?_, by omega⟩ (fun z => absurd z hm) fun _ => pm)
        unfold SetTable.tooFull at hf
        rw [decide_eq_true_eq, ef] at hf
        rw [hlen]
        omega
    have both : ∀ b : Bool, wpAny (model P w) A (do
          storeSet a es1 (if b = true then t1 else { t1 with plain := false })
          if !false && (if b = true then t1 else { t1 with plain := false }).tooFull then setRelay a (SetTable.grown (es.size + 1))
          return true) Q E s := fun b => by
      cases b with
      | true => exact fin t1 q3 q4 q5 q9
      | false => exact fin { t1 with plain := false } ⟨q3.ris, q3.dm, q3.sz, q3.mok, q3.bd, q3.reach⟩ q4 q5 q9
    by_cases hp : t1.plain = true
    · first
        | (refine wpAny_bind ?_; refine wp_if_pos hp ?_; refine hashBy_key k _ 8 _ hx.1 _ _ _ fun b => ?_)
        | refine wp_if_pos hp (wpAny_bind (hashBy_key k _ 8 _ hx.1 _ _ _ fun b => ?_))
      exact both b
    · first
        | (refine wpAny_bind ?_; refine wp_if_neg hp ?_; refine wpAny_pure ?_)
        | refine wp_if_neg hp ?_
      exact both true
end
end SN
set_option maxRecDepth 100000
set_option maxHeartbeats 2000000
namespace SN
open PySem PyProof.Rows L2
section
variable {P : Program} {w : World} {A : Around} {E : Value → Shared → Prop} {s : Shared} {a : Addr} {L : List (Addr × NestedKey)} {es : Array (Int × Value)} {ep : Nat} {t : SetTable}
theorem SetN.isSet (R : SetN P w s.heap a L es ep t) : s.TypeIs (.ref a) "set" := let ⟨o, ho, hex, _⟩ := R.ob; ⟨o, ho, hex.1⟩
/-- set.add(s, x) -/
theorem call_addN (R : SetN P w s.heap a L es ep t) {x : Addr} {k : NestedKey} (hx : IsN P w s.heap k x) (hu : A.units + 16 < cLine) (few : L.length + 1 < 64) {Q : Value → Shared → Prop}
    (hQ : ∀ h' tk L' es' ep' t', Heap.SameBut a s.heap h' → SetN P w h' a L' es' ep' t' → (k ∈ L.map (·.2) → L' = L) → (k ∉ L.map (·.2) → L'.Perm ((x, k) :: L)) → s.toks ≤ tk → Q .none { s with heap := h', toks := tk }) :
    wpAny (model P w) A (call (.builtin "set.add") [.ref a, .ref x]) Q E s := by
  refine wpAny_call_entry F.slot_set_add R.isSet F.entry_set_add ?_ (F.args_set_add_2 _ _)
  unfold Builtin.«set.add» Builtin.Frozenset.oneOther
  simp only [List.isEmpty_nil, bind_assoc]
  unfold Builtin.Frozenset.addrOf setAdd
  refine wpAny_bind (wpAny_pure ?_)
  try dsimp only
  refine wpAny_bind (wpAny_pure ?_)
  try dsimp only
  refine wpAny_bind ?_
  refine wpAny_holding ?_
  refine wpAny_bind ((nestedKind P w).pyHash (by show _ + 8 < cLine; simp; omega) hx ?_)
  refine addN (s := { s with toks := s.toks + k.draws }) R hx (by simp; omega) few fun b h' L' es' ep' t' sb R' c1 c2 => ?_
  show wpAny _ _ (ret Value.none) _ _ _
  exact wpAny_pure ⟨_, rfl, hQ h' _ L' es' ep' t' sb R' c1 c2 (Nat.le_add_right _ _)⟩
theorem SetN.keep {h h' : Heap} (R : SetN P w h a L es ep t) (ha : ∀ o, h.get? a = some o → h'.get? a = some o) (ht : ∀ p ∈ L, IsN P w h' p.2 p.1) : SetN P w h' a L es ep t := by
  obtain ⟨o, ho, r⟩ := R.ob
  exact ⟨⟨o, ha o ho, r⟩, R.rows, R.tab, R.nd, ht, R.led, R.room, R.few⟩
/-- a new set -/
theorem SetN.fresh {h : Heap} (ho : h.get? a = some { cls := .type "set", dict := none, data := .set #[] 0 (.fresh 0 0 (!w.params.followText "set-order")) }) : SetN P w h a [] #[] 0 (.fresh 0 0 (!w.params.followText "set-order")) where
  ob := ⟨_, ho, ⟨rfl, rfl, rfl⟩, rfl⟩
  rows := rfl
  tab := ⟨List.Pairwise.nil, rfl, rfl, .inl rfl, fun x hx => (by cases hx), fun i h j hi => (by simp at hi)⟩
  nd := List.nodup_nil
  tup := fun p hp => (by cases hp)
  led := by
    show _ ∨ (!w.params.followText "set-order") = true
    cases w.params.followText "set-order"
    · exact .inr rfl
    · exact .inl rfl
  room := by
    show 0 * 5 < 7 * 3
    decide
  few := by
    show 0 < 64
    decide
/-- the set at a, without the tuples themselves -/
def SetO0 (w : World) (h : Heap) (a : Addr) (L : List (Addr × NestedKey)) : Prop := ∃ (es : Array (Int × Value)) (ep : Nat) (t : SetTable), (∃ o, h.get? a = some o ∧ o.ExactSet ∧ o.data = .set es ep t) ∧ es.toList = rowsN w L ∧ TabOk t (L.map fun p => p.2.hash w) ∧ (L.map (·.2)).Nodup ∧
    (w.params.followText "set-order" = true ∨ t.led = true) ∧ L.length * 5 < t.mask * 3 ∧ L.length < 64
def SetNO (w : World) (a : Addr) (L : List (Addr × NestedKey)) : HO := .ext fun h => SetO0 w h a L
theorem SetN.o0 {h : Heap} (R : SetN P w h a L es ep t) : SetO0 w h a L := ⟨es, ep, t, R.ob, R.rows, R.tab, R.nd, R.led, R.room, R.few⟩
theorem SetO0.full {h : Heap} (R : SetO0 w h a L) (ht : ∀ p ∈ L, IsN P w h p.2 p.1) : ∃ es ep t, SetN P w h a L es ep t := by
  obtain ⟨es, ep, t, h1, h2, h3, h4, h6, h7, h8⟩ := R
  exact ⟨es, ep, t, h1, h2, h3, h4, ht, h6, h7, h8⟩
theorem setNO_new {H : Hp} {h : Heap} (R : SetO0 w h a L) : ObjOk P w H h a (SetNO w a L) := by
  have ⟨es, ep, t, ⟨o, ho, r⟩, q⟩ := id R
  refine ⟨R, ⟨o, ho⟩, fun h1 h2 p k => ?_⟩
  have ⟨es', ep', t', ⟨o', ho', r'⟩, q'⟩ := (show SetO0 w h1 a L from p)
  exact ⟨es', ep', t', ⟨o', k o' ho', r'⟩, q'⟩
end
end SN
set_option maxRecDepth 100000
set_option maxHeartbeats 2000000
/-! sorting tuples of which one may be empty -/
namespace SN
open PySem PySem.W PySem.Calls PyProof.Rows SeqAt
section
variable {prog : Program} {w : World} {A : Around} {E : Value → Shared → Prop} {s : Shared}
theorem call_tuple_lt {Q : Value → Shared → Prop} {l b : Addr} {items items2 : Array Value} {e r : Nat → Bool} (hl : s.heap.IsTuple l items) (hb : s.heap.IsTuple b items2)
    (he : ∀ j (h1 : j < items.size) (h2 : j < items2.size), EqAt A.in1 s items[j] items2[j] (e j)) (hr : ∀ j (h1 : j < items.size) (h2 : j < items2.size), e j = false → RcLt A.in1 s items[j] items2[j] (r j))
    (h : Q (.bool (firstLt e r (decide (items.size < items2.size)) (List.range (min items.size items2.size)))) s) : wpAny (model prog w) A (call (.builtin "tuple.__lt__") [.ref l, .ref b]) Q E s := by
  obtain ⟨⟨cls, dd, data, sl⟩, ho, hc, n, hd⟩ := id hl
  obtain ⟨⟨cls2, dd2, data2, sl2⟩, ho2, hc2, n2, hd2⟩ := id hb
  simp only at hc hd hc2 hd2
  subst hc hd hc2 hd2
  exact call_meets F.slot_tuple_lt ⟨_, ho, rfl⟩ F.entry_tuple_lt (F.args_tuple_lt_2 _ _) (tuple_ltAt l b items items2 n n2 dd dd2 sl sl2 e r) ⟨ho, ho2, he, hr, h⟩
theorem general_lt (x y : Value) : keyLt' general' x y = oneLt' false x y := rfl
/-- one tuple against another, both known to be tuples -/
theorem oneLt_tup {xs ys : List PyData} {a b : Value} {as bs : List Addr} {Q : Bool → Shared → Prop} (ra : Reads s.heap a (.tuple xs) as) (rb : Reads s.heap b (.tuple ys) bs) (h : alike (.tuple xs) (.tuple ys) = true)
    (hu : A.units + min (PyData.tuple xs).depth (PyData.tuple ys).depth < cLine) (hq : Q (dataLt (.tuple xs) (.tuple ys)) s) : wpAny (model prog w) A (oneLt' true a b) Q E s := by
  have hal : alikeAll xs ys = true := by simpa [alike] using h
  cases ra with
  | @tuple l o vs n _ as₁ h1 h2 h3 h4 =>
    cases rb with
    | @tuple l' o' vs' n' _ bs₁ k1 k2 k3 k4 =>
      have n1 : vs.size = xs.length := by simpa using ReadsAll.length _ _ _ h4
      have n2 : vs'.size = ys.length := by simpa using ReadsAll.length _ _ _ k4
      rw [dataLt_tuple, ← firstLt_toks xs ys hal, ← n1, ← n2] at hq
      rw [oneLt'_eq]
      simp only [if_true]
      refine wpAny_bind (wpAny_cRoomFor (room_here hu) ?_)
      refine wpAny_bind (wpAny_callSpecialIfBound?_slot (T := "tuple") ⟨_, h1, h2⟩ F.slot_tuple_lt (call_tuple_lt (e := pairEq xs ys) (r := fun j => dataLt (xs.getD j .none) (ys.getD j .none)) ⟨_, h1, h2, _, h3⟩ ⟨_, k1, k2, _, k3⟩ (fun j j1 j2 => ?_) (fun j j1 j2 hj => ?_) ?_))
      · have := eqAt_alikeAll xs ys A.in1 s vs.toList vs'.toList _ _ h4 k4 hal (room_in hu) j (by simpa using j1) (by simpa using j2)
        simpa using this
      · have := rcLt_alikeAll xs ys A.in1 s vs.toList vs'.toList _ _ h4 k4 hal (room_in hu) j (by simpa using j1) (by simpa using j2) hj
        simpa using this
      · exact wpAny_truthy_bool hq
end
end SN
set_option maxRecDepth 100000
set_option maxHeartbeats 2000000
namespace SN
open PySem PySem.W PySem.Calls PyProof.Rows SeqAt
section
variable {prog : Program} {w : World} {A : Around} {E : Value → Shared → Prop} {s : Shared}
theorem mapM_fn {M : Model} {α β : Type} {f : α → Sem β} {g : α → β} : ∀ (l : List α) {Q : List β → Shared → Prop}, (∀ v ∈ l, ∀ (Q' : β → Shared → Prop), Q' (g v) s → wpAny M A (f v) Q' E s) → Q (l.map g) s → wpAny M A (l.mapM f) Q E s
  | [], _, _, h => by rw [List.mapM_nil]; exact wpAny_pure h
  | x :: l, Q, hf, h => by
    rw [List.mapM_cons]
    exact wpAny_bind (hf x (.head _) _ (wpAny_bind (mapM_fn l (Q := fun bs s' => wpAny M A (pure (g x :: bs)) Q E s') (fun v hv => hf v (.tail _ hv)) (wpAny_pure h))))
def firstV (h : Heap) (v : Value) : Option Value := match v with
  | .ref a => match h.get? a with
    | some o => match o.data with
      | .seq vs _ => vs[0]?
      | _ => none
    | none => none
  | _ => none
theorem kindE {vs : List Value} {Q : SortKind → Shared → Prop} (h2 : 2 ≤ vs.length) (hv : ∀ v ∈ vs, ∃ a o xs n, v = .ref a ∧ s.heap.get? a = some o ∧ o.cls = .type "tuple" ∧ o.data = .seq xs n) (hE : ∃ v ∈ vs, firstV s.heap v = none)
    (h : Q (if (firstV s.heap (vs.headD .none)).isSome then general' else oneType') s) : wpAny (model prog w) A (keyKind' vs.toArray) Q E s := by
  obtain ⟨v₁, v₂, rest, rfl⟩ : ∃ v₁ v₂ rest, vs = v₁ :: v₂ :: rest := by
    match vs, h2 with
    | [], h2 => simp at h2
    | [_], h2 => simp at h2
    | v₁ :: v₂ :: rest, _ => exact ⟨v₁, v₂, rest, rfl⟩
  have hT : ∀ v ∈ v₁ :: v₂ :: rest, s.TypeIs v "tuple" := fun v m => by
    obtain ⟨a, o, xs, n, rfl, h1, h2, h3⟩ := hv v m
    exact ⟨o, h1, h2⟩
  rw [keyKind'_eq, List.mapM_toArray, map_eq_pure_bind]
  refine wpAny_bind (wpAny_bind (mapM_fn (g := firstV s.heap) _ (fun v hm Q' hq => ?_) (wpAny_pure ?_)))
  · obtain ⟨a, o, xs, n, rfl, h1, h2, h3⟩ := hv v hm
    rw [kas_first_eq]
    refine wpAny_bind (wpAny_typeOf (hT _ hm) ?_)
    rw [if_neg (by simp)]
    refine wpAny_bind (listItems_at h1 h3 ?_)
    refine wpAny_pure ?_
    have e : firstV s.heap (.ref a) = xs[0]? := by simp [firstV, h1, h3]
    rw [← e]
    exact hq
  · rw [if_neg (by
      obtain ⟨v, hm, e⟩ := hE
      simp only [List.all_toArray, List.all_map]
      intro z
      have z' := List.all_eq_true.mp z v hm
      simp [e] at z')]
    by_cases hf : (firstV s.heap v₁).isSome = true
    · rw [if_pos (by simpa using hf)]
      exact wpAny_pure (by simpa [hf] using h)
    · rw [if_neg (by simpa using hf)]
      rw [oneTypeOnly'_eq, List.mapM_toArray, map_eq_pure_bind]
      refine wpAny_bind (wpAny_bind (wpAny_bind (mapM_fn (g := fun _ => Value.type "tuple") _ (fun v hm Q' hq => wpAny_typeOf (hT v hm) hq) (wpAny_pure ?_))))
      have hall : ((List.map (fun _ => Value.type "tuple") (v₁ :: v₂ :: rest)).toArray.all fun x => x == Value.type "tuple") = true := by
        simp only [List.all_toArray, List.all_map, List.all_eq_true]
        intro _ _
        exact beq_self_eq_true _
      have h0 : (List.map (fun _ => Value.type "tuple") (v₁ :: v₂ :: rest)).toArray[0]? = some (Value.type "tuple") := by simp
      rw [h0]
      simp only [hall, if_true]
      refine wpAny_pure ?_
      simp only [Option.isSome_some, if_true]
      exact wpAny_pure (by simpa [hf] using h)
end
end SN
set_option maxRecDepth 100000
set_option maxHeartbeats 2000000
namespace SN
open PySem PySem.W PySem.Calls PyProof.Rows SeqAt
section
variable {prog : Program} {w : World} {A : Around} {s : Shared}
theorem each_right {α β : Type} {R : α → β → Prop} : ∀ {as : List α} {bs : List β}, EachIs R as bs → ∀ b, b ∈ bs → ∃ a, a ∈ as ∧ R a b
  | _, _, .nil, _, hb => absurd hb (by simp)
  | _, _, .cons (a := a) h t, b, hb => by
    rcases List.mem_cons.mp hb with rfl | hb
    · exact ⟨a, List.mem_cons_self .., h⟩
    · obtain ⟨x, h1, h2⟩ := each_right t b hb
      exact ⟨x, List.mem_cons_of_mem _ h1, h2⟩
theorem sortsAt_tups {vs : List Value} {ds : List PyData} (e : EachIs (fun v d => ∃ as, Reads s.heap v d as) vs ds) (hal : AllAlike ds) (ht : ∀ d, d ∈ ds → ∃ xs, d = .tuple xs) (hu : ∀ d, d ∈ ds → A.units + d.depth < cLine) : SortsAt prog w A s (dataKind s.heap ds) vs := by
  by_cases hne : ∀ d, d ∈ ds → ∃ x r, d = .tuple (x :: r)
  · exact SortsAt.data e hal (.inl hne) hu
  · have room : ∀ {d d' : PyData}, d ∈ ds → A.units + min d.depth d'.depth < cLine := fun {d d'} hd => Nat.lt_of_le_of_lt (Nat.add_le_add_left (Nat.min_le_left _ _) _) (hu d hd)
    have he : ∃ v ∈ vs, firstV s.heap v = none := by
      have h0 : ∃ d, d ∈ ds ∧ ¬ ∃ x r, d = .tuple (x :: r) := Classical.byContradiction fun z => hne fun d hd => Classical.byContradiction fun y => z ⟨d, hd, y⟩
      obtain ⟨d, hd, hx⟩ := h0
      obtain ⟨xs, rfl⟩ := ht d hd
      cases xs with
      | cons x r => exact absurd ⟨x, r, rfl⟩ hx
      | nil =>
        obtain ⟨v, hv, as, r⟩ := each_right e _ hd
        refine ⟨v, hv, ?_⟩
        cases r with
        | @tuple a o xs n _ _ h1 h2 h3 h4 =>
          have n1 : xs.size = 0 := by simpa using ReadsAll.length _ _ _ h4
          simp [firstV, h1, h3, n1]
    refine ⟨fun v hv => ?_, (if (firstV s.heap (vs.headD .none)).isSome then general' else oneType'), ?_, fun h2 E Q hq => kindE h2 (fun v hv => ?_) he hq⟩
    · obtain ⟨d, hd, as, r⟩ := e.left v hv
      exact ⟨_, dataKind_some hal hd r⟩
    · intro E x y a b Q ha hb hq
      obtain ⟨d, as, hd, ra, rfl⟩ := dataKind_inv ha
      obtain ⟨d', as', hd', rb, rfl⟩ := dataKind_inv hb
      obtain ⟨xs, rfl⟩ := ht d hd
      obtain ⟨ys, rfl⟩ := ht d' hd'
      split
      · rw [general_lt]
        exact oneLt_alike (fun z => by cases z) ra rb (hal _ hd _ hd') (fun z => by cases z) (room hd) hq
      · rw [keyLt'_oneType]
        exact oneLt_tup ra rb (hal _ hd _ hd') (room hd) hq
    · obtain ⟨d, hd, as, r⟩ := e.left v hv
      obtain ⟨xs, rfl⟩ := ht d hd
      cases r with
      | @tuple a o xs n _ _ h1 h2 h3 h4 => exact ⟨_, _, _, _, rfl, h1, h2, h3⟩
end
end SN
set_option maxRecDepth 100000
set_option maxHeartbeats 2000000
namespace SN
open PySem PySem.W PySem.Calls PyProof.Rows L2
section
variable {P : Program} {w : World} {A : Around} {E : Value → Shared → Prop} {s : Shared} {a : Addr} {L : List (Addr × NestedKey)} {es : Array (Int × Value)} {ep : Nat} {t : SetTable} {κ : PyProof.Rows.KeyKind}
/-- sorted(set): a new list of the members, in some order -/
theorem sorted_setN (R : SetN P w s.heap a L es ep t) (hh : A.handled = none) {Q : Value → Shared → Prop}
    (hS : ∀ (s1 : Shared) (vs : List Value), (∀ b o, s.heap.get? b = some o → s1.heap.get? b = some o) → vs.Perm (L.map fun q => Value.ref q.1) → ∃ κ : PyProof.Rows.KeyKind, SortsAt P w A.in1.in1 s1 κ vs)
    (hQ : ∀ s' p (out : Array Value) (c : Nat), (∀ b o, s.heap.get? b = some o → s'.heap.get? b = some o) → s'.gens = s.gens → s'.os = s.os → s.heap.objs.size ≤ p → s'.heap.get? p = some (seqObj "list" out c) → out.toList.Perm (L.map fun q => Value.ref q.1) → Q (.ref p) s') :
    wpAny (model P w) A (call (.builtin "sorted") [.ref a]) Q E s := by
  obtain ⟨o, ho, hex, hd⟩ := R.ob
  have hsz := R.size
  have hfew := R.few
  refine Calls.call_function_entry kind_sorted plain_sorted entry_sorted (args_sorted1 _) ?_
  unfold Builtin.«sorted»
  refine wpAny_bind (m := checkCount "sorted" 1 1 _) (wpAny_pure ?_)
  refine wpAny_bind (collect_set (A := A.in1) hh ⟨o, ho, hex.1, hd⟩ R.fits (by unfold scanBound; omega) R.tab.ris R.led fun s1 vs k1 hz g1 o1 pm => ?_)
  have hes : es.toList.map (·.2) = L.map fun q => Value.ref q.1 := by
    rw [R.rows]
    simp [rowsN]
  rw [hes] at pm
  have hvl : vs.length ≤ sizeLine := by rw [pm.length_eq, List.length_map, sizeLine_eq]; omega
  refine wpAny_bind (wpAny_newList ?_ hvl)
  have hoL : (s1.heap.push (seqObj "list" vs.toArray 0)).get? s1.heap.objs.size = some (seqObj "list" vs.toArray 0) := Heap.get?_push_size _ rfl
  have k2 : ∀ b u, s.heap.get? b = some u → (sortingHeap (s1.heap.push (seqObj "list" vs.toArray 0)) s1.heap.objs.size vs).get? b = some u := fun b u e => by
    have q := k1 b u e
    exact sortingHeap_old (Nat.ne_of_lt (Heap.lt_size q)) (Heap.get?_push_of_some _ q)
  obtain ⟨κ, S⟩ := hS { s1 with heap := sortingHeap (s1.heap.push (seqObj "list" vs.toArray 0)) s1.heap.objs.size vs } vs k2 pm
  refine wpAny_bind (wpAny_holding (wpAny_call_entry slot_list_sort ⟨_, hoL, rfl⟩ entry_list_sort (list_sort_vals (s := { s1 with heap := s1.heap.push (seqObj "list" vs.toArray 0) }) hoL S hvl ⟨_, rfl, ?_⟩) (args_list_sort _)))
  obtain ⟨c, hc⟩ := sortedHeap_at (vs := vs) (out := (sortVals κ false vs vs).toArray) hoL
  refine wpAny_pure ⟨_, rfl, hQ _ s1.heap.objs.size _ c (fun b u e => ?_) g1 o1 hz hc ?_⟩
  · have q := k1 b u e
    have hlt := Heap.lt_size q
    show (sortedHeap (s1.heap.push (seqObj "list" vs.toArray 0)) s1.heap.objs.size vs _).get? b = some u
    rw [sortedHeap_old (Nat.ne_of_lt hlt) (by rw [size_push']; exact Nat.lt_succ_of_lt hlt)]
    exact Heap.get?_push_of_some _ q
  · have hp : (sortVals κ false vs vs).Perm vs := by
      unfold sortVals
      refine ((List.mergeSort_perm _ _).map _).trans ?_
      rw [List.map_snd_zip (Nat.le_refl _)]
    exact hp.trans pm
end
end SN
set_option maxRecDepth 100000
set_option maxHeartbeats 2000000
/-! data as nested keys -/
namespace SN
open PySem PyProof.Rows SeqAt
mutual
def keyN : PyData → NestedKey
  | .int i => .num i
  | .str x => .text x
  | .tuple xs => .tup (keyAllN xs)
  | .none => .none
  | .bool _ => .none
  | .list _ => .none
  | .dict _ => .none
def keyAllN : List PyData → List NestedKey
  | [] => []
  | d :: r => keyN d :: keyAllN r
end
mutual
def okN : PyData → Bool
  | .int _ => true
  | .str _ => true
  | .tuple xs => okAllN xs
  | .none => true
  | .bool _ => false
  | .list _ => false
  | .dict _ => false
def okAllN : List PyData → Bool
  | [] => true
  | d :: r => okN d && okAllN r
end
mutual
theorem reads_nested {h : Heap} : ∀ (d : PyData) (v : Value) (as : List Addr), Reads h v d as → okN d = true → NestedIs h (keyN d) v
  | .none, _, _, r, _ => by cases r; rw [keyN]; exact .none
  | .bool _, _, _, _, e => by simp [okN] at e
  | .int i, _, _, r, _ => by cases r; rw [keyN]; exact .int _ _
  | .str x, _, _, r, _ => by cases r; rw [keyN]; exact .text _ _
  | .list _, _, _, _, e => by simp [okN] at e
  | .dict _, _, _, _, e => by simp [okN] at e
  | .tuple xs, _, _, r, e => by
    rw [okN] at e
    rw [keyN]
    cases r with
    | tuple h1 h2 h3 h4 => exact .tup h1 h2 h3 (reads_nestedAll xs _ _ h4 e)
theorem reads_nestedAll {h : Heap} : ∀ (ds : List PyData) (vs : List Value) (as : List Addr), ReadsAll h vs ds as → okAllN ds = true → NestedAll h (keyAllN ds) vs
  | [], _, _, r, _ => by cases r; rw [keyAllN]; exact .nil
  | d :: ds, _, _, r, e => by
    rw [okAllN, Bool.and_eq_true] at e
    rw [keyAllN]
    cases r with
    | cons r1 r2 => exact .cons (reads_nested d _ _ r1 e.1) (reads_nestedAll ds _ _ r2 e.2)
end
mutual
theorem keyN_inj : ∀ (x y : PyData), okN x = true → okN y = true → keyN x = keyN y → x = y
  | .none, y, _, hy, e => by cases y <;> simp [okN] at hy <;> simp [keyN] at e <;> rfl
  | .bool _, _, hx, _, _ => by simp [okN] at hx
  | .int i, y, _, hy, e => by
    cases y <;> simp [okN] at hy <;> simp [keyN] at e
    rw [e]
  | .str i, y, _, hy, e => by
    cases y <;> simp [okN] at hy <;> simp [keyN] at e
    rw [e]
  | .list _, _, hx, _, _ => by simp [okN] at hx
  | .dict _, _, hx, _, _ => by simp [okN] at hx
  | .tuple xs, y, hx, hy, e => by
    cases y <;> simp [okN] at hx hy <;> simp [keyN] at e
    rw [keyAllN_inj xs _ hx hy e]
theorem keyAllN_inj : ∀ (xs ys : List PyData), okAllN xs = true → okAllN ys = true → keyAllN xs = keyAllN ys → xs = ys
  | [], ys, _, _, e => by cases ys <;> simp [keyAllN] at e <;> rfl
  | x :: xs, ys, hx, hy, e => by
    cases ys with
    | nil => simp [keyAllN] at e
    | cons y ys =>
      simp [okAllN] at hx hy
      simp [keyAllN] at e
      rw [keyN_inj x y hx.1 hy.1 e.1, keyAllN_inj xs ys hx.2 hy.2 e.2]
end
mutual
theorem keyN_depth : ∀ d : PyData, okN d = true → (keyN d).depth ≤ d.depth
  | .none, _ => by simp [keyN, NestedKey.depth]
  | .bool _, e => by simp [okN] at e
  | .int _, _ => by simp [keyN, NestedKey.depth]
  | .str _, _ => by simp [keyN, NestedKey.depth]
  | .list _, e => by simp [okN] at e
  | .dict _, e => by simp [okN] at e
  | .tuple xs, e => by
    rw [okN] at e
    rw [keyN, NestedKey.depth, PyData.depth]
    have := keyAllN_depth xs e
    omega
theorem keyAllN_depth : ∀ ds : List PyData, okAllN ds = true → NestedKey.depthAll (keyAllN ds) ≤ PyData.depthAll ds
  | [], _ => by simp [keyAllN, NestedKey.depthAll]
  | d :: r, e => by
    rw [okAllN, Bool.and_eq_true] at e
    rw [keyAllN, NestedKey.depthAll, PyData.depthAll]
    have := keyN_depth d e.1
    have := keyAllN_depth r e.2
    omega
end
end SN
set_option maxRecDepth 100000
set_option maxHeartbeats 2000000
/-! a set comprehension of nested tuples: one member put in -/
namespace SN
open PySem PySem.Spec PyProof.Rows L2 StX PL
/-- the members stand for data -/
def Held (K : PySem.W.Frag) (H : Hp) (L : List (Addr × NestedKey)) : Prop := ∀ p ∈ L, ∃ d, Dp K H (.ref p.1) d ∧ okN d = true ∧ d.depth ≤ 8 ∧ p.2 = keyN d
theorem isN_of {X : Cx} {pins : List (Addr × Obj)} {σ : L2.St} {H : Hp} {s : Shared} (I : Inv X pins σ H s) {a : Addr} {d : PyData} (h : Dp X.K H (.ref a) d) (ok : okN d = true) (hd : d.depth ≤ 8) : IsN X.prog X.w s.heap (keyN d) a := by
  obtain ⟨as, rd⟩ := Dp.reads I d (.ref a) (.ref a) h rfl
  exact ⟨reads_nested d _ _ rd ok, Nat.le_trans (keyN_depth d ok) hd⟩
theorem Held.isN {X : Cx} {pins : List (Addr × Obj)} {σ : L2.St} {H : Hp} {s : Shared} (I : Inv X pins σ H s) {L : List (Addr × NestedKey)} (h : Held X.K H L) : ∀ p ∈ L, IsN X.prog X.w s.heap p.2 p.1 := fun p hp => by
  obtain ⟨d, h1, h2, h3, h4⟩ := h p hp
  rw [h4]
  exact isN_of I h1 h2 h3
theorem addN_ok {X : Cx} {pins : List (Addr × Obj)} {σ : L2.St} {H : Hp} {s : Shared} {E : Value → Shared → Prop} {D : Addr} {L : List (Addr × NestedKey)} {x : Addr} {d : PyData} {Q : Value → Shared → Prop} (hu : X.A.units + 64 < cLine) (I : Inv X pins σ H s) (hD : H D = some (SetNO X.w D L))
    (hL : Held X.K H L) (hx : Dp X.K H (.ref x) d) (ok : okN d = true) (hd : d.depth ≤ 8) (few : L.length + 1 < 64)
    (h : ∀ s' L', (keyN d ∈ L.map (·.2) → L' = L) → (keyN d ∉ L.map (·.2) → L'.Perm ((x, keyN d) :: L)) → (L'.map (·.2)).Nodup → Inv X pins σ (upd H D (SetNO X.w D L')) s' → Q .none s') : wpAny (model X.prog X.w) X.A (call (.builtin "set.add") [.ref D, .ref x]) Q E s := by
  have h0 : SetO0 X.w s.heap D L := (I.hok D _ hD).1
  obtain ⟨es, ep, t, R⟩ := SetO0.full (P := X.prog) h0 (hL.isN I)
  refine call_addN R (isN_of I hx ok hd) (by omega) few fun h' tk L' es' ep' t' sb R' c1 c2 _ => ?_
  have he : ∃ u, h'.get? D = some u := by
    have ⟨o, ho, _⟩ := R'.ob
    exact ⟨o, ho⟩
  exact h _ L' c1 c2 R'.nd (I.write (e := D) (t' := tk) (by rw [hD]; trivial) (.inl rfl) (fun b u hb hu => (sb.2 b hb).trans hu) he (setNO_new (P := X.prog) R'.o0))
end SN
set_option maxRecDepth 100000
set_option maxHeartbeats 4000000
/-! {elt for target in iter if ..}, elt a nested tuple -/
namespace SN
open PySem PySem.Spec PyProof.Rows L2 StX PL PpSet
section
variable {X : Cx}
/-- D the new set -/
def tScN (w : World) (K : PySem.W.Frag) (wi : TI) (g : TG) (tt : TT) (te : TE) (vs : List Nat) : TE := fun σ H Q => wi σ H fun J H1 => ∀ D, H1 D = none → ∃ W : Nat → Nat → Hp → Prop, (∃ m, W 0 m (upd H1 D (SetNO w D []))) ∧ ∀ i m H, W i m H →
  (J.stop i H ∧ Q (.ref D) H) ∨ (J.go i H ∧ ∃ Nx : Hp → Prop, (∀ H', Nx H' → ∃ m', m' < m ∧ W (i + 1) m' H') ∧ ∀ x H', J.yld i H x H' → g x (wipe σ vs) H' fun σ2 H2 => wipe σ2 vs = wipe σ vs ∧ tt σ2 H2 fun b H3 =>
    if b = true then te σ2 H3 fun y H4 => ∃ (a : Addr) (d : PyData) (L : List (Addr × NestedKey)), y = .ref a ∧ H4 D = some (SetNO w D L) ∧ Held K H4 L ∧ Dp K H4 (.ref a) d ∧ okN d = true ∧ d.depth ≤ 8 ∧ L.length + 1 < 64 ∧
      ∀ L', (keyN d ∈ L.map (·.2) → L' = L) → (keyN d ∉ L.map (·.2) → L'.Perm ((a, keyN d) :: L)) → (L'.map (·.2)).Nodup → Nx (upd H4 D (SetNO w D L')) else Nx H3)
theorem scN_core {pins : List (Addr × Obj)} {s : Shared} {σ : L2.St} {H : Hp} {Q : VK} {elt tg iter : Expr} {ifs : List Expr} {scope : Scope} {own : List (PySem.Str × Nat)} {pos pos' : Pos} {wi : TI} {g : TG} {tt : TT} {te : TE} {use : Option (Value → Sem Unit)} {Qf : Value → Shared → Prop}
    (hu : X.A.units + 64 < cLine) (hc : X.calm = true) (hN : X.N.Nodup) (I : Inv X pins σ H s) (hi : PI X tg iter wi) (ok : BlkOk X.N X.env.scope scope own)
    (hg : ∀ (s : Shared) (H : Hp) (C : Addr) (cl : List (PySem.Str × Addr)) (fp : List Addr), PG (X.blk s H scope (compEnvC scope cl C X.env) fp) tg g) (ht : ∀ (s : Shared) (H : Hp) (C : Addr) (cl : List (PySem.Str × Addr)) (fp : List Addr), PTs (X.blk s H scope (compEnvC scope cl C X.env) fp) ifs tt)
    (he : ∀ (s : Shared) (H : Hp) (C : Addr) (cl : List (PySem.Str × Addr)) (fp : List Addr), PE (X.blk s H scope (compEnvC scope cl C X.env) fp) elt te) (hs : ∀ x, foldedSetIterable iter X.env x = pure x)
    (h : tScN X.w X.K wi g tt te (own.map (·.2)) σ H Q)
    (hRR : ∀ D C s' m H', Inv X pins σ H' s' → Q (.ref D) H' → s'.heap.Ns C m → FpOk X pins H' C → compPost (model X.prog X.w) X.A X.xe use Qf (.ref D) C (.ok .next) s') :
    wpAny (model X.prog X.w) X.A (comprehension (.SetComp elt [⟨tg, iter, ifs, 0⟩] scope pos) scope X.env pos' (newSet (.type "set")) false (eval iter X.env) use) Qf X.xe s := by
  have hfree : ∀ y ∈ scope.names, y.2 = .free → ∃ c, X.env.cells.lookup y.1 = some c := fun y hy e => by
    rcases ok.free y hy e with k | k
    · exact I.ok.has _ (.inl k)
    · exact I.ok.has _ (.inr k)
  refine wpAny_comprehension_free (use := use) rfl hs (closure_ok hfree) ok.kind (fun y hy e => by rw [ok.uniq y hy, e])
    (thn (hi.run pins s σ H _ I h) fun xv s1 hx => thn hx fun itv s2 h2 => ?_)
  obtain ⟨it, fp, tn, J, H2, e, I2, T, st2, f2, q⟩ := h2
  subst e
  refine newSet_ok (newEnv_comp ?_)
  generalize hD : s2.heap.objs.size = D
  have hDn : H2 D = none := I2.hok.fresh (Nat.le_of_eq hD)
  obtain ⟨W, ⟨m0, w0⟩, turn⟩ := q D hDn
  generalize hs3 : ({ s2 with heap := s2.heap.push { cls := .type "set", dict := none, data := .set #[] 0 (.fresh 0 0 (!X.w.params.followText "set-order")) } } : Shared) = s3
  have I3 : Inv X pins σ (upd H2 D (SetNO X.w D [])) s3 := by
    rw [← hs3]
    refine I2.laid (t' := s2.toks) (fun b o e => Heap.get?_push_of_some _ e) (Nat.le_of_eq hD) ?_
    rw [← hD]
    exact setNO_new (SetN.fresh (P := X.prog) (Heap.get?_push_size _ rfl)).o0
  have h3 : s3.heap = s2.heap.push { cls := .type "set", dict := none, data := .set #[] 0 (.fresh 0 0 (!X.w.params.followText "set-order")) } := by rw [← hs3]
  have sz : ∀ b ∈ fp, b < s2.heap.objs.size := fun b hb => by
    obtain ⟨o, e, _⟩ := T.obj _ _ st2 b hb
    exact Heap.lt_size e
  have f3 : ∀ b ∈ fp, FpOk X pins (upd H2 D (SetNO X.w D [])) b ∧ b < s3.heap.objs.size := fun b hb => by
    have hlt := sz b hb
    refine ⟨⟨?_, (f2 b hb).2⟩, by rw [h3, Heap.size_push]; exact Nat.lt_succ_of_lt hlt⟩
    rw [upd_ne (by rw [← hD]; exact Nat.ne_of_lt hlt)]
    exact (f2 b hb).1
  have st3 : tn 0 s3.heap := T.keep _ _ _ st2 fun b _ o e => by rw [h3]; exact Heap.get?_push_of_some _ e
  have I4 := block_start I3 ok hN f3
  have pg := hg s3 (upd H2 D (SetNO X.w D [])) s3.heap.objs.size (cellsFrom (s3.heap.objs.size + 1) scope.names (cloFrom X.env.cells scope.names [])) fp
  have pt := ht s3 (upd H2 D (SetNO X.w D [])) s3.heap.objs.size (cellsFrom (s3.heap.objs.size + 1) scope.names (cloFrom X.env.cells scope.names [])) fp
  have pe := he s3 (upd H2 D (SetNO X.w D [])) s3.heap.objs.size (cellsFrom (s3.heap.objs.size + 1) scope.names (cloFrom X.env.cells scope.names [])) fp
  show codeAny _ _ (.compStart (.SetComp elt [⟨tg, iter, ifs, 0⟩] scope pos) 0 (.ref it) (.ref D) (compEnvC scope (cellsFrom (s3.heap.objs.size + 1) scope.names (cloFrom X.env.cells scope.names [])) s3.heap.objs.size X.env)) (compPost (model X.prog X.w) X.A X.xe use Qf (.ref D) s3.heap.objs.size) { s3 with heap := pushCells (s3.heap.push { cls := .type "dict", data := .dict #[] }) scope.names }
  have nfp : ∀ b ∈ fp, (upd H2 D (SetNO X.w D [])) b = none := fun b hb => (f3 b hb).1.1
  generalize hce : compEnvC scope (cellsFrom (s3.heap.objs.size + 1) scope.names (cloFrom X.env.cells scope.names [])) s3.heap.objs.size X.env = ce at I4 pg pt pe ⊢
  have cL : ce.locals = s3.heap.objs.size := by subst hce; rfl
  generalize hH3 : upd H2 D (SetNO X.w D []) = H3 at I3 I4 pg pt pe w0 nfp f3
  generalize hs4 : ({ s3 with heap := pushCells (s3.heap.push { cls := .type "dict", data := .dict #[] }) scope.names } : Shared) = s4 at I4 ⊢
  have st4 : tn 0 s4.heap := T.keep _ _ _ st3 fun b _ o e => by rw [← hs4]; exact pushCells_keeps _ _ _ _ (Heap.get?_push_of_some _ e)
  have stat : ∀ {σ' : L2.St} {H' : Hp} {s' : Shared}, Inv (X.blk s3 H3 scope ce fp) [] σ' H' s' → (∀ b ∈ fp, H' b = none) → ∀ b ∈ fp, FpOk (X.blk s3 H3 scope ce fp) [] H' b := fun {σ' H' s'} I' hn b hb =>
    ⟨hn b hb, (I'.ok.exf b hb).1, I'.ok.exfs b hb, .inl hb, fun x c e => (I'.ok.exf b hb).2 x c e, fun p hp => absurd (show p ∈ ([] : List (Addr × Obj)) ++ [] from hp) (by simp)⟩
  have loop : codeAny (model X.prog X.w) X.A (.compLoop (.SetComp elt [⟨tg, iter, ifs, 0⟩] scope pos) 0 (.ref it) (.ref D) ce) (compPost (model X.prog X.w) X.A X.xe use Qf (.ref D) s3.heap.objs.size) s4 := by
    refine compLoopS_any (fun n s' => ∃ i H', Inv (X.blk s3 H3 scope ce fp) [] (wipe σ (own.map (·.2))) H' s' ∧ tn i s'.heap ∧ (∀ b ∈ fp, H' b = none) ∧ W i n H') ?_ m0 ⟨0, H3, I4, st4, nfp, w0⟩
    rintro n s5 ⟨i, H5, I5, st5, n5, w5⟩
    rcases turn i n H5 w5 with ⟨stop, qq⟩ | ⟨go, Nx, hNx, step⟩
    · have td := T.done (X.blk s3 H3 scope ce fp) rfl rfl rfl hc i [] s5 _ H5 (fun _ _ => False) I5 (stat I5 n5) st5 stop
      refine thnF td fun r s6 ⟨hr, I6⟩ => ?_
      subst hr
      have I7 : Inv X pins σ H5 s6 := I3.call' (ch := fp) I6.os I6.base I6.hok I6.bare fun b hb => ⟨(f3 b hb).1.2.2.2.1, (f3 b hb).1.2.1, (f3 b hb).1.2.2.2.2.1, (f3 b hb).1.2.2.2.2.2⟩
      have nC : H5 s3.heap.objs.size = none := by
        have z : H5 ce.locals = none := I6.free
        rw [cL] at z
        exact z
      obtain ⟨m, hn, _⟩ := I6.loc
      have hn : s6.heap.Ns ce.locals m := hn
      rw [cL] at hn
      exact hRR D s3.heap.objs.size s6 m H5 I7 qq hn (I3.fpOk (Nat.le_refl _) nC)
    · have ti := T.item (X.blk s3 H3 scope ce fp) rfl rfl rfl hc i [] s5 _ H5 (fun _ _ => False) I5 (stat I5 n5) st5 go
      refine thnF ti fun r s6 ⟨u, hr, h6⟩ => ?_
      subst hr
      refine thnF h6 fun _ s7 ⟨x, H7, I7, r7, y7, st7, n7⟩ => ?_
      have I7' := I7.pinned (stat I7 n7) (T.obj _ _ st7)
      refine thnF (pg.run _ s7 _ H7 x u _ I7' r7 (step x H7 y7)) fun _ s8 ⟨σ8, H8, I8, hw8, q8⟩ => ?_
      refine thnF (pt.run _ s8 σ8 H8 _ I8 q8) fun b s9 ⟨H9, I9, q9⟩ => ?_
      have fin : ∀ {s' : Shared} {H' : Hp}, Inv (X.blk s3 H3 scope ce fp) ([] ++ pinsAt fp s7.heap) σ8 H' s' → Nx H' → ∃ m, m < n ∧ ∃ i H', Inv (X.blk s3 H3 scope ce fp) [] (wipe σ (own.map (·.2))) H' s' ∧ tn i s'.heap ∧ (∀ b ∈ fp, H' b = none) ∧ W i m H' := fun {s' H'} I' nx => by
        obtain ⟨m', hm, w'⟩ := hNx H' nx
        have pin' : ∀ b ∈ fp, ∀ o, s7.heap.get? b = some o → s'.heap.get? b = some o ∧ H' b = none := fun b hb o e =>
          let z := I'.pin (b, o) (List.mem_append_right _ (List.mem_append_right _ (mem_pinsAt hb e)))
          ⟨z.1, z.2.1⟩
        have hl : (wipe σ (own.map (·.2))).length = σ8.length := by rw [← hw8, wipe_length]
        refine ⟨m', hm, i + 1, H', (I'.unpinned (pins := [])).weak hl (fun j v e => ?_), T.keep _ _ _ st7 fun b hb o e => (pin' b hb o e).1, fun b hb => ?_, w'⟩
        · rw [← hw8] at e
          exact (wipe_some e).1
        · obtain ⟨o, e, _⟩ := T.obj _ _ st7 b hb
          exact (pin' b hb o e).2
      cases b with
      | false =>
        simp only [Bool.false_eq_true, if_false] at q9 ⊢
        exact fin I9 q9
      | true =>
        simp only [if_true] at q9 ⊢
        refine thnF (pe.run _ s9 σ8 H9 _ I9 q9) fun z s10 ⟨yv, H10, I10, r10, a, d, L, ey, hD10, hL, hx, okd, hdd, few, nx⟩ => ?_
        subst ey
        cases (show z = Value.ref a from r10)
        exact addN_ok (X := X.blk s3 H3 scope ce fp) hu I10 hD10 hL hx okd hdd few fun s11 L' c1 c2 nd I11 => fin I11 (nx L' c1 c2 nd)
  exact codeAny_compStart_set loop (T.self X.A 0 _ _ _ st4 loop)
/-- as a value -/
theorem pe_scN {elt tg iter : Expr} {ifs : List Expr} {scope : Scope} {own : List (PySem.Str × Nat)} {pos : Pos} {wi : TI} {g : TG} {tt : TT} {te : TE} (hu : X.A.units + 64 < cLine) (hc : X.calm = true) (hN : X.N.Nodup) (hi : PI X tg iter wi) (ok : BlkOk X.N X.env.scope scope own)
    (hg : ∀ (s : Shared) (H : Hp) (C : Addr) (cl : List (PySem.Str × Addr)) (fp : List Addr), PG (X.blk s H scope (compEnvC scope cl C X.env) fp) tg g) (ht : ∀ (s : Shared) (H : Hp) (C : Addr) (cl : List (PySem.Str × Addr)) (fp : List Addr), PTs (X.blk s H scope (compEnvC scope cl C X.env) fp) ifs tt)
    (he : ∀ (s : Shared) (H : Hp) (C : Addr) (cl : List (PySem.Str × Addr)) (fp : List Addr), PE (X.blk s H scope (compEnvC scope cl C X.env) fp) elt te) (hs : ∀ x, foldedSetIterable iter X.env x = pure x := by intro _; rfl) :
    PE X (.SetComp elt [⟨tg, iter, ifs, 0⟩] scope pos) (tScN X.w X.K wi g tt te (own.map (·.2))) := by
  refine ⟨fun pins s σ H Q I h => ?_⟩
  rw [eval_SetComp]
  refine scN_core hu hc hN I hi ok hg ht he hs h fun D C s' m H' I' q hn f => ⟨m, hn, fun h'' sb => ?_⟩
  obtain ⟨f0, f1, f2, f3, f4, f5⟩ := f
  exact ⟨.ref D, H', I'.turned (t' := s'.toks) (fun b o hb e => (sb.2 b hb).trans e) f0 f1 f3 f4 f5, rfl, q⟩
end
/-! ### the set as an owned thing -/
def setOw (w : World) (acc : List PyData) : Ow where
  rel := fun Hs H v F => ∃ (D : Addr) (L : List (Addr × NestedKey)), v = .ref D ∧ F = [D] ∧ H D = some (SetNO w D L) ∧ (L.map (fun p : Addr × NestedKey => p.2)).Perm (acc.map keyN) ∧ acc.Nodup ∧ (∀ d ∈ acc, okN d = true ∧ d.depth ≤ 8) ∧ ∀ p ∈ L, ∃ d ∈ acc, Dt Hs (.ref p.1) d ∧ p.2 = keyN d
  mono := fun {Hs Hs' H H' v F} ⟨D, L, e1, e2, h1, h2, h3, h4, h5⟩ x k => ⟨D, L, e1, e2, (k D (by rw [e2]; simp)).trans h1, h2, h3, h4, fun p hp => let ⟨d, hd, q, z⟩ := h5 p hp; ⟨d, hd, q.mono x, z⟩⟩
  live := fun {Hs H v F} ⟨D, L, e1, e2, h1, _⟩ b hb => by
    rw [e2] at hb
    rw [List.mem_singleton.mp hb, h1]
    exact fun z => nomatch z
theorem Sep.newSetN {H : Hp} {w : World} {D : Addr} {M : Ls} (s : Sep H M) (n : H D = none) : Sep (upd H D (SetNO w D [])) ((some (.ref D), .ow (setOw w [])) :: M) := by
  obtain ⟨Hs, F, x, r, nd, fr⟩ := s
  have np := x.back n
  have n1 := r.ne n
  refine ⟨Hs, [D] ++ F, x.updOut np, ⟨[D], F, rfl, enR_ow.mpr ⟨_, rfl, D, [], rfl, rfl, upd_same, List.Perm.refl _, List.nodup_nil, fun d h => absurd h List.not_mem_nil, fun p h => absurd h List.not_mem_nil⟩, r.mono Ex.rfl fun a h => upd_ne (n1 a h)⟩, ?_, fun a h => ?_⟩
  · exact List.nodup_cons.mpr ⟨fun h => n1 D h rfl, nd⟩
  · rcases List.mem_cons.mp h with z | z
    · rw [z]; exact np
    · exact fr a z
theorem mem_keys {L : List (Addr × NestedKey)} {acc : List PyData} {d : PyData} (hp : (L.map (fun p : Addr × NestedKey => p.2)).Perm (acc.map keyN)) (ok : ∀ d ∈ acc, okN d = true ∧ d.depth ≤ 8) (hd : okN d = true) : keyN d ∈ L.map (·.2) ↔ d ∈ acc := by
  rw [hp.mem_iff]
  constructor
  · intro h
    obtain ⟨e, he, q⟩ := List.mem_map.mp h
    rw [← keyN_inj e d (ok e he).1 hd q]
    exact he
  · exact fun h => List.mem_map.mpr ⟨d, h, rfl⟩
theorem Sep.addSet {K : PySem.W.Frag} {H : Hp} {w : World} {D : Addr} {v : V} {acc : List PyData} {xs : List PyData} {M : Ls} (s : Sep H ((some v, .sh (.tuple xs)) :: (some (.ref D), .ow (setOw w acc)) :: M)) (ok : okN (.tuple xs) = true) (hdp : (PyData.tuple xs).depth ≤ 8) :
    ∃ (a : Addr) (L : List (Addr × NestedKey)), v = .ref a ∧ H D = some (SetNO w D L) ∧ Held K H L ∧ Dp K H (.ref a) (.tuple xs) ∧ L.length = acc.length ∧
      ∀ L', (keyN (.tuple xs) ∈ L.map (·.2) → L' = L) → (keyN (.tuple xs) ∉ L.map (·.2) → L'.Perm ((a, keyN (.tuple xs)) :: L)) →
        (PyData.tuple xs ∈ acc ∧ Sep (upd H D (SetNO w D L')) ((some (.ref D), .ow (setOw w acc)) :: M)) ∨ (PyData.tuple xs ∉ acc ∧ Sep (upd H D (SetNO w D L')) ((some (.ref D), .ow (setOw w (acc ++ [.tuple xs]))) :: M)) := by
  obtain ⟨Hs, F, x, ⟨F1, F2, e, ⟨e1, v', ev, dt⟩, F3, F4, e4, r2, r3⟩, nd, fr⟩ := s
  subst e1 e4
  cases ev
  obtain ⟨v2, ev2, D2, L, eD, eF, hD, hp, hn, hok, hm⟩ := enR_ow.mp r2
  cases ev2
  cases eD
  subst eF e
  cases id dt with
  | @tup a ys _ ha hA =>
    have mk := mem_keys (L := L) hp hok ok
    have hl : L.length = acc.length := by have := hp.length_eq; simpa using this
    have nd1 : ([D] ++ F4).Nodup := nd
    have fr1 : ∀ b ∈ [D] ++ F4, Hs b = none := fr
    have np : Hs D = none := fr1 D (by simp)
    have nD : ∀ b ∈ F4, b ≠ D := fun b hb z => by
      subst z
      exact (List.nodup_cons.mp nd1).1 hb
    refine ⟨a, L, rfl, hD, fun p hp' => ?_, (dt.mono x).dp, hl, fun L' c1 c2 => ?_⟩
    · obtain ⟨d, hd, q, z⟩ := hm p hp'
      exact ⟨d, (q.mono x).dp, (hok d hd).1, (hok d hd).2, z⟩
    · by_cases h : PyData.tuple xs ∈ acc
      · refine Or.inl ⟨h, ?_⟩
        rw [c1 (mk.mpr h)]
        refine ⟨Hs, [D] ++ F4, x.updOut np, ⟨[D], F4, rfl, enR_ow.mpr ⟨_, rfl, D, L, rfl, rfl, upd_same, hp, hn, hok, hm⟩, r3.mono Ex.rfl fun b hb => upd_ne (nD b hb)⟩, nd1, fr1⟩
      · refine Or.inr ⟨h, ?_⟩
        have pm := c2 fun z => h (mk.mp z)
        refine ⟨Hs, [D] ++ F4, x.updOut np, ⟨[D], F4, rfl, enR_ow.mpr ⟨_, rfl, D, L', rfl, rfl, upd_same, ?_, ?_, ?_, ?_⟩, r3.mono Ex.rfl fun b hb => upd_ne (nD b hb)⟩, nd1, fr1⟩
        · rw [List.map_append]
          exact (pm.map _).trans ((hp.cons _).trans (List.perm_append_singleton _ _).symm)
        · exact (List.perm_append_singleton _ _).nodup_iff.mpr (List.nodup_cons.mpr ⟨h, hn⟩)
        · intro d hd
          rcases List.mem_append.mp hd with z | z
          · exact hok d z
          · rw [List.mem_singleton.mp z]
            exact ⟨ok, hdp⟩
        · intro p hp'
          rcases List.mem_cons.mp (pm.mem_iff.mp hp') with z | z
          · rw [z]
            exact ⟨_, by simp, dt, rfl⟩
          · obtain ⟨d, hd, q, zz⟩ := hm p z
            exact ⟨d, List.mem_append_left _ hd, q, zz⟩
/-! ### the rule -/
def scB (w : World) (β : AG) (τt : AT) (τe : AE) (vs : List Nat) (ds : List PyData) (Γ : Ga) (P : En → Ga → Prop) : Prop := ∃ I : Nat → List PyData → Ga → Prop, I 0 [] (wipeG Γ vs) ∧
  (∀ i d acc Γ2, ds[i]? = some d → I i acc Γ2 → β (.sh d) Γ2 fun Γ3 => τt Γ3 fun b Γ4 => if b = true then τe Γ4 fun r Γ5 => ∃ xs, r = .sh (.tuple xs) ∧ okN (.tuple xs) = true ∧ (PyData.tuple xs).depth ≤ 8 ∧ acc.length + 1 < 64 ∧ (.tuple xs ∈ acc → I (i + 1) acc (wipeG Γ5 vs)) ∧ (.tuple xs ∉ acc → I (i + 1) (acc ++ [.tuple xs]) (wipeG Γ5 vs)) else I (i + 1) acc (wipeG Γ4 vs)) ∧
  ∀ acc Γ2, I ds.length acc Γ2 → P (.ow (setOw w acc)) (wipeG Γ2 vs)
@[simp] def aSc (w : World) (ι : AI) (β : AG) (τt : AT) (τe : AE) (vs : List Nat) : AE := fun Γ P => ι Γ fun ds Γ1 => scB w β τt τe vs ds Γ1 P
theorem snd_sc {w : World} {K : PySem.W.Frag} {wi : TI} {ι : AI} {g : TG} {β : AG} {W : List Nat} {tt : TT} {τt : AT} {te : TE} {τe : AE} {vs : List Nat} (hi : SndI wi ι) (hg : SndG g β W) (ht : SndT tt τt) (he : Snd te τe) (hW : ∀ i ∈ W, i ∈ vs) : Snd (tScN w K wi g tt te vs) (aSc w ι β τt τe vs) := fun T Γ σ H Q P s p k =>
  hi T Γ σ H _ _ s p fun ds Γ1 S J H1 ⟨I, i0, it, ie⟩ s1 wk D nD => by
    let IV : Nat → Nat → Hp → Prop := fun i m H => m = ds.length - i ∧ i ≤ ds.length ∧ ∃ acc Γ2, I i acc Γ2 ∧ Sx ((some (.ref D), .ow (setOw w acc)) :: (S ++ T)) Γ2 (L2.wipe σ vs) H
    refine ⟨IV, ⟨ds.length, by omega, Nat.zero_le _, [], _, i0, ?_⟩, ?_⟩
    · have s2 := s1.wipe vs
      exact ⟨s2.1, Sep.newSetN s2.2 nD⟩
    · rintro i m H2 ⟨rfl, hle, acc, Γ2, iv, s2⟩
      obtain ⟨go, stop, yld⟩ := wk (((some (.ref D), .ow (setOw w acc)) :: T) ++ (L2.wipe σ vs).zip Γ2) H2 (by
        have q := s2.2
        exact q.perm (by
          rw [← List.append_assoc]
          refine List.Perm.append_right _ ?_
          exact (perm_mid [_] S T)))
      by_cases hlt : i < ds.length
      · refine Or.inr ⟨go i hlt, fun H' => IV (i + 1) (ds.length - (i + 1)) H', fun H' n => ⟨_, by omega, n⟩, fun x H' y => ?_⟩
        obtain ⟨d, hd, s3⟩ := yld i x H' hlt y
        have s4 : Sx ((some x, .sh d) :: ((some (.ref D), .ow (setOw w acc)) :: (S ++ T))) Γ2 (L2.wipe σ vs) H' := ⟨s2.1, s3.perm (by
          refine List.Perm.cons _ ?_
          rw [← List.append_assoc]
          exact List.Perm.append_right _ (perm_mid S [_] T))⟩
        refine hg _ Γ2 _ H' x _ _ _ s4 (it i d acc Γ2 hd iv) fun Γ3 σ3 H3 p3 s5 o3 => ?_
        have ew : L2.wipe σ3 vs = L2.wipe σ vs := by
          rw [wipe_eq o3.1 fun j hj => o3.2 j fun z => hj (hW j z), wipe_wipe]
        refine ⟨ew, ht _ Γ3 σ3 H3 _ _ s5 p3 fun b Γ4 H4 p4 s6 => ?_⟩
        cases b with
        | true =>
          refine iteT (he _ Γ4 σ3 H4 _ _ s6 p4 fun r Γ5 v H5 ⟨xs, er, okx, hdx, hz, p5, p6⟩ s7 => ?_)
          subst er
          have s70 : Sep H5 ((some v, .sh (.tuple xs)) :: (some (.ref D), .ow (setOw w acc)) :: ((S ++ T) ++ σ3.zip Γ5)) := s7.2
          obtain ⟨a, L, ev, hD, hL, hx, hl, add⟩ := Sep.addSet (K := K) s70 okx hdx
          refine ⟨a, _, L, ev, hD, hL, hx, okx, hdx, by omega, fun L' c1 c2 nd => ⟨rfl, hlt, ?_⟩⟩
          rcases add L' c1 c2 with ⟨h, s8⟩ | ⟨h, s8⟩
          · refine ⟨acc, _, p5 h, ?_⟩
            have s9 : Sx ((some (.ref D), .ow (setOw w acc)) :: (S ++ T)) Γ5 σ3 (upd H5 D (SetNO w D L')) := ⟨s7.1, s8⟩
            have s10 := s9.wipe vs
            rw [ew] at s10
            exact s10
          · refine ⟨acc ++ [.tuple xs], _, p6 h, ?_⟩
            have s9 : Sx ((some (.ref D), .ow (setOw w (acc ++ [.tuple xs]))) :: (S ++ T)) Γ5 σ3 (upd H5 D (SetNO w D L')) := ⟨s7.1, s8⟩
            have s10 := s9.wipe vs
            rw [ew] at s10
            exact s10
        | false =>
          refine iteF ⟨rfl, hlt, acc, _, p4, ?_⟩
          have s10 := s6.wipe vs
          rw [ew] at s10
          exact s10
      · have e : i = ds.length := by omega
        subst e
        refine Or.inl ⟨stop, k _ _ _ _ (ie acc Γ2 iv) ?_⟩
        have s3 := s2.wipe vs
        rw [wipe_wipe] at s3
        have s4 := s3.unwipe
        exact (s4.perm (perm_mid [_] S T)).popA
section
variable {X : Cx} {elt tg iter : Expr} {ifs : List Expr} {scope : Scope} {own : List (PySem.Str × Nat)} {pos : Pos} {wi : TI} {ι : AI} {g : TG} {β : AG} {W : List Nat} {tt : TT} {τt : AT} {te : TE} {τe : AE}
theorem ax_sc (hu : X.A.units + 64 < cLine) (hc : X.calm = true) (hN : X.N.Nodup) (hi : AXI X tg iter wi ι) (ok : BlkOk X.N X.env.scope scope own)
    (hg : ∀ (s : Shared) (H : Hp) (C : Addr) (cl : List (PySem.Str × Addr)) (fp : List Addr), AXG (X.blk s H scope (compEnvC scope cl C X.env) fp) tg g β W)
    (ht : ∀ (s : Shared) (H : Hp) (C : Addr) (cl : List (PySem.Str × Addr)) (fp : List Addr), AXTs (X.blk s H scope (compEnvC scope cl C X.env) fp) ifs tt τt)
    (he : ∀ (s : Shared) (H : Hp) (C : Addr) (cl : List (PySem.Str × Addr)) (fp : List Addr), AX (X.blk s H scope (compEnvC scope cl C X.env) fp) elt te τe)
    (hW : ∀ i ∈ W, i ∈ own.map (·.2) := by decide) (hs : ∀ x, foldedSetIterable iter X.env x = pure x := by intro _; rfl) :
    AX X (.SetComp elt [⟨tg, iter, ifs, 0⟩] scope pos) (tScN X.w X.K wi g tt te (own.map (·.2))) (aSc X.w ι β τt τe (own.map (·.2))) :=
  ⟨pe_scN hu hc hN hi.pi ok (fun s H C cl fp => (hg s H C cl fp).pg) (fun s H C cl fp => (ht s H C cl fp).pe) (fun s H C cl fp => (he s H C cl fp).pe) hs,
    snd_sc hi.snd (hg X.s_0 X.H_0 0 [] []).snd (ht X.s_0 X.H_0 0 [] []).snd (he X.s_0 X.H_0 0 [] []).snd hW⟩
end
/-! ### sorted(the set) -/
theorem perm_map_inv {α β : Type} {f : α → β} {l1 l2 : List β} (h : l1.Perm l2) : ∀ L : List α, l2 = L.map f → ∃ M : List α, M.Perm L ∧ l1 = M.map f := by
  induction h with
  | nil =>
    intro L e
    have z : L = [] := by
      cases L with
      | nil => rfl
      | cons a L => cases e
    exact ⟨[], by rw [z], rfl⟩
  | cons x _ ih =>
    intro L e
    cases L with
    | nil => cases e
    | cons a L =>
      rw [List.map_cons] at e
      obtain ⟨e1, e2⟩ := List.cons.inj e
      obtain ⟨M, p, q⟩ := ih L e2
      exact ⟨a :: M, p.cons a, by rw [List.map_cons, q, e1]⟩
  | swap x y l =>
    intro L e
    match L, e with
    | a :: b :: L, e =>
      rw [List.map_cons, List.map_cons] at e
      obtain ⟨e1, e2⟩ := List.cons.inj e
      obtain ⟨e2, e3⟩ := List.cons.inj e2
      exact ⟨b :: a :: L, List.Perm.swap _ _ _, by rw [List.map_cons, List.map_cons, e1, e2, e3]⟩
  | trans _ _ ih1 ih2 =>
    intro L e
    obtain ⟨M, p, q⟩ := ih2 L e
    obtain ⟨M2, p2, q2⟩ := ih1 M q
    exact ⟨M2, p2.trans p, q2⟩
def rSortN (w : World) : List V → Hp → VK → Prop := fun vs H Q => ∃ (D : Addr) (L : List (Addr × NestedKey)) (Hs : Hp) (ds : List PyData), vs = [.ref D] ∧ H D = some (SetNO w D L) ∧ Ex Hs H ∧ (∀ p ∈ L, ∃ d ∈ ds, Dt Hs (.ref p.1) d ∧ okN d = true ∧ d.depth ≤ 8 ∧ p.2 = keyN d) ∧
  PySem.W.AllAlike ds ∧ (∀ d ∈ ds, (∃ xs, d = .tuple xs) ∧ d.depth ≤ 8) ∧ ∀ (M : List (Addr × NestedKey)) l, M.Perm L → H l = none → Q (.ref l) (upd H l (.lst (M.map fun p => .ref p.1)))
theorem each_of {R : Value → PyData → Prop} {ds : List PyData} : ∀ (M : List (Addr × NestedKey)), (∀ p ∈ M, ∃ d ∈ ds, R (.ref p.1) d) → ∃ ds', PySem.W.EachIs R (M.map fun p => Value.ref p.1) ds' ∧ ∀ d ∈ ds', d ∈ ds
  | [], _ => ⟨[], .nil, fun _ h => absurd h List.not_mem_nil⟩
  | p :: M, h => by
    obtain ⟨d, hd, r⟩ := h p List.mem_cons_self
    obtain ⟨ds', h1, h2⟩ := each_of M fun q hq => h q (List.mem_cons_of_mem _ hq)
    refine ⟨d :: ds', .cons r h1, fun e he => ?_⟩
    rcases List.mem_cons.mp he with z | z
    · rw [z]; exact hd
    · exact h2 e z
theorem refs_vals : ∀ M : List (Addr × NestedKey), Vals (M.map fun p => V.ref p.1) (M.map fun p => Value.ref p.1)
  | [] => .nil
  | p :: M => .cons rfl (refs_vals M)
theorem cr_sortN {X : Cx} (hu : X.A.units + 64 < cLine) (hc : X.calm = true) : CallR X (.builtin "sorted") (rSortN X.w) := by
  intro pins s σ H vs us Q I r h
  obtain ⟨D, L, Hs, ds, rfl, hD, hx, hm, hal, htup, q⟩ := h
  rw [Vals.ref1 r]
  have hL : Held X.K H L := fun p hp => by
    obtain ⟨d, hd, h1, h2, h3, h4⟩ := hm p hp
    exact ⟨d, (h1.mono hx).dp, h2, h3, h4⟩
  have h0 : SetO0 X.w s.heap D L := (I.hok D _ hD).1
  obtain ⟨es, ep, t, R⟩ := SetO0.full (P := X.prog) h0 (hL.isN I)
  refine sorted_setN R (I.ok.hd hc) (fun s1 vs k pm => ?_) fun s' p out c k hg ho hp hget pm => ?_
  · obtain ⟨M, pM, eM⟩ := perm_map_inv pm L rfl
    subst eM
    obtain ⟨ds', h1, h2⟩ := each_of (R := fun v d => ∃ as, Reads s1.heap v d as) (ds := ds) M fun p hp => by
      obtain ⟨d, hd, g1, g2, g3, g4⟩ := hm p (pM.mem_iff.mp hp)
      obtain ⟨as, rd⟩ := Dp.reads I d (.ref p.1) (.ref p.1) (g1.mono hx).dp rfl
      exact ⟨d, hd, as, Reads.keeps k rd⟩
    exact ⟨_, sortsAt_tups h1 (fun d hd d' hd' => hal d (h2 d hd) d' (h2 d' hd')) (fun d hd => (htup d (h2 d hd)).1) fun d hd => by
      have := (htup d (h2 d hd)).2
      show X.A.units + 2 + d.depth < cLine
      omega⟩
  · obtain ⟨M, pM, eM⟩ := perm_map_inv pm L rfl
    have hl : M.length ≤ sizeLine := by
      have := R.few
      have h64 : (64 : Nat) ≤ sizeLine := by decide
      rw [pM.length_eq]
      omega
    refine ⟨.ref p, upd H p (.lst (M.map fun p => .ref p.1)), I.call' (ch := []) ho (Un.laid k hp (I.hok.fresh hp)) (I.hok.laid k hp ⟨by rw [List.length_map]; exact hl, out.toList, c, by rw [eM]; exact refs_vals M, hget⟩) (by rw [hg]; exact I.bare) (fun _ z => nomatch z), rfl, q M p pM (I.hok.fresh hp)⟩
theorem keys_back : ∀ {ds es : List PyData}, (∀ d ∈ ds, okN d = true) → (∀ d ∈ es, okN d = true) → ds.map keyN = es.map keyN → ds = es
  | [], [], _, _, _ => rfl
  | [], _ :: _, _, _, e => by cases e
  | _ :: _, [], _, _, e => by cases e
  | d :: ds, e :: es, h1, h2, q => by
    rw [List.map_cons, List.map_cons] at q
    obtain ⟨q1, q2⟩ := List.cons.inj q
    rw [keyN_inj d e (h1 d List.mem_cons_self) (h2 e List.mem_cons_self) q1, keys_back (fun d hd => h1 d (List.mem_cons_of_mem _ hd)) (fun d hd => h2 d (List.mem_cons_of_mem _ hd)) q2]
theorem data_of {Hs : Hp} {acc : List PyData} : ∀ (M : List (Addr × NestedKey)), (∀ p ∈ M, ∃ d ∈ acc, Dt Hs (.ref p.1) d ∧ p.2 = keyN d) → ∃ ds, DtA Hs (M.map fun p => V.ref p.1) ds ∧ M.map (·.2) = ds.map keyN ∧ ∀ d ∈ ds, d ∈ acc
  | [], _ => ⟨[], .nil, rfl, fun _ h => absurd h List.not_mem_nil⟩
  | p :: M, h => by
    obtain ⟨d, hd, r, z⟩ := h p List.mem_cons_self
    obtain ⟨ds, h1, h2, h3⟩ := data_of M fun q hq => h q (List.mem_cons_of_mem _ hq)
    refine ⟨d :: ds, .cons r h1, by rw [List.map_cons, List.map_cons, h2, z], fun e he => ?_⟩
    rcases List.mem_cons.mp he with z | z
    · rw [z]; exact hd
    · exact h3 e z
@[simp] def rhoSortN (w : World) : AC := fun es P => ∃ acc, es = [.ow (setOw w acc)] ∧ PySem.W.AllAlike acc ∧ (∀ d ∈ acc, ∃ xs, d = .tuple xs) ∧ ∀ ds, ds.Perm acc → P (.sh (.list ds))
theorem sndC_sortN {w : World} : SndC (rSortN w) (rhoSortN w) := fun L H xs es Q P hl s ⟨acc, e, hal, htup, p⟩ k => by
  obtain ⟨x, ex⟩ := one_of hl e
  subst e ex
  obtain ⟨Hs, F, xx, ⟨F1, F2, eF, r1, r2⟩, nd, fr⟩ := s
  obtain ⟨v, ev, D, M, eD, e1, hD, hp, hn, hok, hm⟩ := enR_ow.mp r1
  cases ev
  cases eD
  subst e1 eF
  refine ⟨D, M, Hs, acc, rfl, hD, xx, fun q hq => ?_, hal, fun d hd => ⟨htup d hd, (hok d hd).2⟩, fun N l pN hl => ?_⟩
  · obtain ⟨d, hd, h1, h2⟩ := hm q hq
    exact ⟨d, hd, h1, (hok d hd).1, (hok d hd).2, h2⟩
  · obtain ⟨ds, h1, h2, h3⟩ := data_of (Hs := Hs) (acc := acc) N fun q hq => hm q (pN.mem_iff.mp hq)
    have hpm : ds.Perm acc := by
      have q : (ds.map keyN).Perm (acc.map keyN) := by
        rw [← h2]
        exact (pN.map _).trans hp
      obtain ⟨O, o1, o2⟩ := perm_map_inv q acc rfl
      have : ds = O := keys_back (fun d hd => (hok d (h3 d hd)).1) (fun d hd => (hok d (o1.mem_iff.mp hd)).1) o2
      rw [this]
      exact o1
    refine k _ _ _ (p ds hpm) ?_
    have np := xx.back hl
    have nF : ∀ a ∈ F2, a ≠ l := r2.ne hl
    refine ⟨upd Hs l (.lst (N.map fun p => .ref p.1)), F2, xx.upd2, ⟨[], F2, rfl, ⟨rfl, _, rfl, .lst upd_same (h1.mono (Ex.new np))⟩, r2.mono (Ex.new np) fun a h => upd_ne (nF a h)⟩, (List.nodup_append.mp nd).2.1, fun a h => ?_⟩
    rw [upd_ne (nF a h)]
    exact fr a (List.mem_append_right _ h)
end SN
set_option maxRecDepth 100000
set_option maxHeartbeats 4000000
namespace HT2
open PySem PySem.Spec PyProof.Rows L2 StX PL
/-! ### numbers lifted: the least solution -/
def nv (xs : List Int) (i : Nat) : Int := xs[i]?.getD 0
def Sat (bs : List Bd) (ys : List Int) : Prop := ∀ b ∈ bs, nv ys b.i + b.d ≤ nv ys b.j
def Lq (xs ys : List Int) : Prop := xs.length = ys.length ∧ ∀ i, i < xs.length → nv xs i ≤ nv ys i
theorem Lq.rfl {xs : List Int} : Lq xs xs := ⟨Eq.refl _, fun _ _ => Int.le_refl _⟩
theorem Lq.trans {xs ys zs : List Int} (a : Lq xs ys) (b : Lq ys zs) : Lq xs zs := ⟨a.1.trans b.1, fun i h => Int.le_trans (a.2 i h) (b.2 i (a.1 ▸ h))⟩
theorem Lq.anti {xs ys : List Int} (a : Lq xs ys) (b : Lq ys xs) : xs = ys := by
  refine List.ext_getElem? fun i => ?_
  by_cases h : i < xs.length
  · have h1 := a.2 i h
    have h2 := b.2 i (a.1 ▸ h)
    have h' : i < ys.length := a.1 ▸ h
    unfold nv at h1 h2
    rw [List.getElem?_eq_getElem h, List.getElem?_eq_getElem h'] at h1 h2 ⊢
    exact congrArg some (Int.le_antisymm h1 h2)
  · rw [List.getElem?_eq_none (by omega), List.getElem?_eq_none (by rw [← a.1]; omega)]
theorem nv_set {xs : List Int} {j : Nat} {x : Int} (h : j < xs.length) (i : Nat) : nv (xs.set j x) i = if i = j then x else nv xs i := by
  unfold nv
  by_cases e : i = j
  · subst e
    rw [List.getElem?_set_self h, if_pos rfl]
    rfl
  · rw [List.getElem?_set_ne (fun z => e z.symm), if_neg e]
theorem relax_eq {xs : List Int} {b : Bd} (h : b.i < xs.length ∧ b.j < xs.length) : relax xs b = if nv xs b.j < nv xs b.i + b.d then (xs.set b.j (nv xs b.i + b.d), true) else (xs, false) := by
  unfold relax nv
  rw [List.getElem?_eq_getElem h.1, List.getElem?_eq_getElem h.2]
  rfl
theorem relax_ge {xs : List Int} {b : Bd} (h : b.i < xs.length ∧ b.j < xs.length) : Lq xs (relax xs b).1 ∧ nv xs b.i + b.d ≤ nv (relax xs b).1 b.j := by
  rw [relax_eq h]
  split
  · rename_i c
    refine ⟨⟨by simp, fun i _ => ?_⟩, ?_⟩
    · show nv xs i ≤ nv (xs.set b.j _) i
      rw [nv_set h.2]
      split
      · rename_i e
        subst e
        exact Int.le_of_lt c
      · exact Int.le_refl _
    · show _ ≤ nv (xs.set b.j _) b.j
      rw [nv_set h.2, if_pos rfl]
      exact Int.le_refl _
  · rename_i c
    exact ⟨Lq.rfl, Int.not_lt.mp c⟩
theorem relax_le {xs zs : List Int} {b : Bd} (h : b.i < xs.length ∧ b.j < xs.length) (l : Lq xs zs) (s : nv zs b.i + b.d ≤ nv zs b.j) : Lq (relax xs b).1 zs := by
  rw [relax_eq h]
  split
  · refine ⟨by simpa using l.1, fun i hi => ?_⟩
    show nv (xs.set b.j _) i ≤ _
    rw [nv_set h.2]
    split
    · rename_i e
      subst e
      exact Int.le_trans (Int.add_le_add_right (l.2 _ h.1) _) s
    · exact l.2 i (by simpa using hi)
  · exact l
theorem relax_no {xs : List Int} {b : Bd} (h : b.i < xs.length ∧ b.j < xs.length) (e : (relax xs b).2 = false) : (relax xs b).1 = xs ∧ nv xs b.i + b.d ≤ nv xs b.j := by
  rw [relax_eq h] at e ⊢
  split at e
  · cases e
  · rename_i c
    rw [if_neg c]
    exact ⟨rfl, Int.not_lt.mp c⟩
theorem relax_len' (xs : List Int) (b : Bd) : (relax xs b).1.length = xs.length := by
  unfold relax
  split
  · split
    · simp
    · rfl
  · rfl
theorem rnd_cons (b : Bd) (bs : List Bd) (st : List Int × Bool) : rnd (b :: bs) st = rnd bs ((relax st.1 b).1, st.2 || (relax st.1 b).2) := rfl
theorem rnd_ge {bs : List Bd} : ∀ {xs : List Int} {c : Bool}, bdsOk xs.length bs → Lq xs (rnd bs (xs, c)).1 ∧ ∀ b ∈ bs, nv xs b.i + b.d ≤ nv (rnd bs (xs, c)).1 b.j := by
  induction bs with
  | nil => exact fun _ => ⟨Lq.rfl, fun _ h => by cases h⟩
  | cons b bs ih =>
    intro xs c ok
    rw [rnd_cons]
    have hb := ok b List.mem_cons_self
    obtain ⟨r1, r2⟩ := relax_ge hb
    have hl := relax_len' xs b
    obtain ⟨i1, i2⟩ := ih (xs := (relax xs b).1) (c := c || (relax xs b).2) (fun b' h' => by rw [hl]; exact ok b' (List.mem_cons_of_mem _ h'))
    refine ⟨r1.trans i1, fun b' h' => ?_⟩
    rcases List.mem_cons.mp h' with e | h'
    · subst e
      exact Int.le_trans r2 (i1.2 _ (by rw [hl]; exact hb.2))
    · exact Int.le_trans (Int.add_le_add_right (r1.2 _ (ok b' (List.mem_cons_of_mem _ h')).1) _) (i2 b' h')
theorem rnd_le {bs : List Bd} : ∀ {xs zs : List Int} {c : Bool}, bdsOk xs.length bs → Lq xs zs → Sat bs zs → Lq (rnd bs (xs, c)).1 zs := by
  induction bs with
  | nil => exact fun _ l _ => l
  | cons b bs ih =>
    intro xs zs c ok l s
    rw [rnd_cons]
    refine ih (fun b' h' => by rw [relax_len']; exact ok b' (List.mem_cons_of_mem _ h')) (relax_le (ok b List.mem_cons_self) l (s b List.mem_cons_self)) fun b' h' => s b' (List.mem_cons_of_mem _ h')
theorem rnd_tt {bs : List Bd} : ∀ {xs : List Int}, (rnd bs (xs, true)).2 = true := by
  induction bs with
  | nil => exact fun {_} => rfl
  | cons b bs ih =>
    intro xs
    rw [rnd_cons, Bool.true_or]
    exact ih
theorem rnd_no {bs : List Bd} : ∀ {xs : List Int}, bdsOk xs.length bs → (rnd bs (xs, false)).2 = false → (rnd bs (xs, false)).1 = xs ∧ Sat bs xs := by
  induction bs with
  | nil => exact fun _ _ => ⟨rfl, fun _ h => by cases h⟩
  | cons b bs ih =>
    intro xs ok e
    rw [rnd_cons, Bool.false_or] at e ⊢
    have hb := ok b List.mem_cons_self
    cases q : (relax xs b).2 with
    | true =>
      rw [q] at e
      rw [rnd_tt] at e
      cases e
    | false =>
      obtain ⟨r1, r2⟩ := relax_no hb q
      rw [q] at e
      rw [r1] at e ⊢
      obtain ⟨i1, i2⟩ := ih (fun b' h' => ok b' (List.mem_cons_of_mem _ h')) e
      exact ⟨i1, fun b' h' => by
        rcases List.mem_cons.mp h' with z | z
        · subst z; exact r2
        · exact i2 b' z⟩
theorem rnd_sat {bs : List Bd} : ∀ {xs : List Int}, bdsOk xs.length bs → Sat bs xs → (rnd bs (xs, false)).2 = false := by
  induction bs with
  | nil => exact fun _ _ => rfl
  | cons b bs ih =>
    intro xs ok s
    rw [rnd_cons, Bool.false_or]
    have hb := ok b List.mem_cons_self
    have e : relax xs b = (xs, false) := by
      rw [relax_eq hb, if_neg (Int.not_lt.mpr (s b List.mem_cons_self))]
    rw [e]
    exact ih (fun b' h' => ok b' (List.mem_cons_of_mem _ h')) fun b' h' => s b' (List.mem_cons_of_mem _ h')
theorem liftN_sound {bs : List Bd} : ∀ (n : Nat) {xs ys : List Int}, bdsOk xs.length bs → liftN bs n xs = some ys → Lq xs ys ∧ Sat bs ys ∧ ∀ zs, Lq xs zs → Sat bs zs → Lq ys zs := by
  intro n
  induction n with
  | zero => intro xs ys _ e; cases e
  | succ n ih =>
    intro xs ys ok e
    have e' : (if (rnd bs (xs, false)).2 then liftN bs n (rnd bs (xs, false)).1 else some (rnd bs (xs, false)).1) = some ys := e
    cases q : (rnd bs (xs, false)).2 with
    | true =>
      rw [q, if_pos rfl] at e'
      obtain ⟨g1, g2⟩ := rnd_ge (c := false) ok
      obtain ⟨i1, i2, i3⟩ := ih (by rw [← g1.1]; exact ok) e'
      exact ⟨g1.trans i1, i2, fun zs l s => i3 zs (rnd_le ok l s) s⟩
    | false =>
      rw [q, if_neg (by decide)] at e'
      obtain ⟨r1, r2⟩ := rnd_no ok q
      rw [r1] at e'
      cases e'
      exact ⟨Lq.rfl, r2, fun zs l _ => l⟩
theorem lift_sound {bs : List Bd} {xs ys : List Int} (ok : bdsOk xs.length bs) (h : lift bs xs = some ys) : Lq xs ys ∧ Sat bs ys ∧ ∀ zs, Lq xs zs → Sat bs zs → Lq ys zs := liftN_sound _ ok h
/-! the count of numbers that are not yet final -/
theorem countP_lt {α : Type} {p q : α → Bool} : ∀ {l : List α}, (∀ x ∈ l, p x = true → q x = true) → (∃ x ∈ l, q x = true ∧ p x = false) → l.countP p < l.countP q
  | [], _, ⟨x, h, _⟩ => by cases h
  | a :: l, h, ⟨x, hx, h1, h2⟩ => by
    have hle : l.countP p ≤ l.countP q := List.countP_mono_left fun y hy => h y (List.mem_cons_of_mem _ hy)
    rw [List.countP_cons, List.countP_cons]
    rcases List.mem_cons.mp hx with e | hx
    · subst e
      rw [h1, h2]
      simp
      omega
    · have ih := countP_lt (l := l) (fun y hy => h y (List.mem_cons_of_mem _ hy)) ⟨x, hx, h1, h2⟩
      have := h a List.mem_cons_self
      by_cases ha : p a = true
      · rw [if_pos ha, if_pos (this ha)]
        omega
      · rw [if_neg ha]
        split <;> omega
def badN (ys zs : List Int) : Nat := (List.range zs.length).countP fun i => decide (nv ys i < nv zs i)
def Least (bs : List Bd) (xs zs : List Int) : Prop := Lq xs zs ∧ Sat bs zs ∧ ∀ ws, Lq xs ws → Sat bs ws → Lq ws zs → ws = zs
theorem mapIdx_nv {f : Nat → Int → Int} {zs : List Int} {i : Nat} (h : i < zs.length) : nv (zs.mapIdx f) i = f i (nv zs i) := by
  unfold nv
  rw [List.getElem?_mapIdx, List.getElem?_eq_getElem h]
  rfl
theorem bad_less {bs : List Bd} {xs ys zs : List Int} (ok : bdsOk xs.length bs) (m : Least bs xs zs) (h1 : Lq xs ys) (h2 : Lq ys zs) (hne : (rnd bs (ys, false)).2 = true) : badN (rnd bs (ys, false)).1 zs < badN ys zs := by
  have hxl := h1.1
  have hyl := h2.1
  have ok2 : bdsOk ys.length bs := by rw [← hxl]; exact ok
  obtain ⟨g1, g2⟩ := rnd_ge (c := false) ok2
  have g3 := rnd_le (c := false) ok2 h2 m.2.1
  generalize hr : (rnd bs (ys, false)).1 = rs at g1 g2 g3
  refine countP_lt (fun i hi c => ?_) ?_
  · have hi' := List.mem_range.mp hi
    have := g1.2 i (by omega)
    simp only [decide_eq_true_eq] at c ⊢
    omega
  · refine Classical.byContradiction fun no => ?_
    have no' : ∀ i, i < zs.length → nv ys i < nv zs i → nv rs i < nv zs i := fun i hi c => by
      refine Classical.byContradiction fun c2 => no ⟨i, List.mem_range.mpr hi, decide_eq_true c, decide_eq_false c2⟩
    have key := m.2.2 (zs.mapIdx fun i z => if nv ys i < z then z - 1 else z) ⟨by rw [List.length_mapIdx]; omega, fun i hi => ?_⟩ (fun b hb => ?_) ⟨by rw [List.length_mapIdx], fun i hi => ?_⟩
    · have all : ∀ i, i < zs.length → nv ys i = nv zs i := fun i hi => by
        have k := (mapIdx_nv (f := fun i z => if nv ys i < z then z - 1 else z) hi).symm.trans (congrArg (fun l => nv l i) key)
        have := h2.2 i (by omega)
        split at k <;> omega
      have e : ys = zs := Lq.anti h2 ⟨hyl.symm, fun i hi => by rw [all i hi]; exact Int.le_refl _⟩
      subst e
      rw [rnd_sat ok2 m.2.1] at hne
      cases hne
    · have l1 := h1.2 i hi
      have l2 := h2.2 i (by omega)
      rw [mapIdx_nv (by omega)]
      split <;> omega
    · have hb' := ok b hb
      have hi : b.i < zs.length := by omega
      have hj : b.j < zs.length := by omega
      rw [mapIdx_nv hi, mapIdx_nv hj]
      have s := m.2.1 b hb
      have l1 := h2.2 b.i (by omega)
      have l2 := h2.2 b.j (by omega)
      have n1 := no' b.j hj
      have n2 := g2 b hb
      split <;> split <;> omega
    · rw [List.length_mapIdx] at hi
      rw [mapIdx_nv hi]
      split <;> omega
theorem liftN_some {bs : List Bd} {xs zs : List Int} (ok : bdsOk xs.length bs) (m : Least bs xs zs) : ∀ (k : Nat) {ys : List Int}, Lq xs ys → Lq ys zs → badN ys zs ≤ k → ∃ rs, liftN bs (k + 1) ys = some rs := by
  intro k
  induction k with
  | zero =>
    intro ys h1 h2 hk
    unfold liftN
    cases q : (rnd bs (ys, false)).2 with
    | false => exact ⟨_, rfl⟩
    | true =>
      have := bad_less ok m h1 h2 q
      omega
  | succ k ih =>
    intro ys h1 h2 hk
    unfold liftN
    cases q : (rnd bs (ys, false)).2 with
    | false => exact ⟨_, rfl⟩
    | true =>
      have b1 := bad_less ok m h1 h2 q
      have ok2 : bdsOk ys.length bs := by rw [← h1.1]; exact ok
      rw [if_pos rfl]
      exact ih (h1.trans (rnd_ge ok2).1) (rnd_le ok2 h2 m.2.1) (by omega)
/-! the least solution exists -/
theorem sum_le {f g : Nat → Nat} : ∀ {l : List Nat}, (∀ i ∈ l, f i ≤ g i) → (l.map f).sum ≤ (l.map g).sum
  | [], _ => Nat.le_refl _
  | a :: l, h => by
    have := sum_le (l := l) fun i hi => h i (List.mem_cons_of_mem _ hi)
    have := h a List.mem_cons_self
    simp only [List.map_cons, List.sum_cons]
    omega
theorem sum_lt {f g : Nat → Nat} : ∀ {l : List Nat}, (∀ i ∈ l, f i ≤ g i) → (∃ i ∈ l, f i < g i) → (l.map f).sum < (l.map g).sum
  | [], _, ⟨_, h, _⟩ => by cases h
  | a :: l, h, ⟨i, hi, c⟩ => by
    have h1 := sum_le (l := l) fun i hi => h i (List.mem_cons_of_mem _ hi)
    have h2 := h a List.mem_cons_self
    simp only [List.map_cons, List.sum_cons]
    rcases List.mem_cons.mp hi with e | hi
    · subst e
      omega
    · have := sum_lt (l := l) (fun i hi => h i (List.mem_cons_of_mem _ hi)) ⟨i, hi, c⟩
      omega
theorem least_some {bs : List Bd} {xs : List Int} : ∀ (N : Nat) {zs : List Int}, Lq xs zs → Sat bs zs → ((List.range xs.length).map fun i => (nv zs i - nv xs i).toNat).sum ≤ N → ∃ ws, Least bs xs ws := by
  intro N
  induction N with
  | zero =>
    intro zs l s h
    refine ⟨zs, l, s, fun ws l2 s2 l3 => ?_⟩
    refine l3.anti (Lq.trans ⟨l.1.symm, fun i hi => ?_⟩ l2)
    refine Classical.byContradiction fun c => ?_
    have hi' : i < xs.length := by rw [l.1]; exact hi
    have := sum_lt (l := List.range xs.length) (f := fun _ => 0) (g := fun i => (nv zs i - nv xs i).toNat) (fun _ _ => Nat.zero_le _) ⟨i, List.mem_range.mpr hi', by omega⟩
    omega
  | succ N ih =>
    intro zs l s h
    by_cases hm : ∀ ws, Lq xs ws → Sat bs ws → Lq ws zs → ws = zs
    · exact ⟨zs, l, s, hm⟩
    · obtain ⟨ws, hw⟩ := Classical.not_forall.mp hm
      rw [Classical.not_imp, Classical.not_imp, Classical.not_imp] at hw
      obtain ⟨l2, s2, l3, ne⟩ := hw
      refine ih l2 s2 ?_
      have hx : ∃ i, i < xs.length ∧ nv ws i < nv zs i := by
        refine Classical.byContradiction fun c => ne ?_
        refine l3.anti ⟨l3.1.symm, fun i hi => ?_⟩
        refine Classical.byContradiction fun c2 => c ⟨i, by rw [l.1]; exact hi, by omega⟩
      obtain ⟨i, hi, c⟩ := hx
      have := sum_lt (l := List.range xs.length) (f := fun i => (nv ws i - nv xs i).toNat) (g := fun i => (nv zs i - nv xs i).toNat) (fun i hi => by
        have hi' := List.mem_range.mp hi
        have a1 := l2.2 i hi'
        have a2 := l3.2 i (by rw [← l2.1]; exact hi')
        omega) ⟨i, List.mem_range.mpr hi, by
        have a1 := l2.2 i hi
        omega⟩
      omega
theorem lift_some {bs : List Bd} {xs zs : List Int} (ok : bdsOk xs.length bs) (l : Lq xs zs) (s : Sat bs zs) : ∃ ys, lift bs xs = some ys := by
  obtain ⟨ws, m⟩ := least_some _ l s (Nat.le_refl _)
  refine liftN_some ok m xs.length Lq.rfl m.1 ?_
  unfold badN
  refine Nat.le_trans List.countP_le_length ?_
  rw [List.length_range, ← m.1.1]
  exact Nat.le_refl _
end HT2
set_option maxRecDepth 100000
set_option maxHeartbeats 4000000
namespace HT2
open PySem PySem.Spec PyProof.Rows L2 StX PL
/-! ### the ways of an order are its plays -/
def tmE (c : Int) (T : List Int) (e : (Nat × Bool) × Nat) : Ev := ⟨c + nv T e.2, e.1.1, e.1.2⟩
def timed (c : Int) (T : List Int) (order : List (Nat × Bool)) : Rec := order.zipIdx.map (tmE c T)
theorem timed_at {c : Int} {T : List Int} {order : List (Nat × Bool)} {n : Nat} {s : Nat × Bool} (h : order[n]? = some s) : (timed c T order)[n]? = some ⟨c + nv T n, s.1, s.2⟩ := by
  unfold timed
  rw [List.getElem?_map, List.getElem?_zipIdx, h]
  simp [tmE]
theorem timed_s (c : Int) (T : List Int) (order : List (Nat × Bool)) : (timed c T order).map Ev.s = order := by
  refine List.ext_getElem? fun n => ?_
  rw [List.getElem?_map]
  cases h : order[n]? with
  | none =>
    have : (timed c T order)[n]? = none := by
      rw [List.getElem?_eq_none_iff] at h ⊢
      simpa [timed] using h
    rw [this]
    rfl
  | some s =>
    rw [timed_at h]
    rfl
theorem timed_idx (c : Int) (T : List Int) (order : List (Nat × Bool)) : (timed c T order).zipIdx = order.zipIdx.map fun e => (tmE c T e, e.2) := by
  refine List.ext_getElem? fun n => ?_
  rw [List.getElem?_zipIdx, List.getElem?_map, List.getElem?_zipIdx]
  cases h : order[n]? with
  | none =>
    have : (timed c T order)[n]? = none := by
      rw [List.getElem?_eq_none_iff] at h ⊢
      simpa [timed] using h
    rw [this]
    rfl
  | some s =>
    rw [timed_at h]
    simp [tmE]
theorem decided_dual (rec : Rec) (n : Nat) (c : Str) (h : Hold) (t : Int) (r : Str) : decided rec n (.dual c h t r) = match sure rec n t r with
    | none => some false
    | some p => match rec[p]?, rec[n]? with
      | some x, some y => some (decide (x.k = y.k))
      | _, _ => some false := rfl
theorem choice_none {c : Int} {T : List Int} {order : List (Nat × Bool)} {n : Nat} {s : Nat × Bool} (hn : order[n]? = some s) {a : Act} (h : choiceF order n a = none) : carried a (decided (timed c T order) n a) = carried a (some false) := by
  cases a with
  | dual cd hd t r =>
    rw [decided_dual]
    unfold sure
    rw [timed_s]
    unfold choiceF at h
    cases hd : decider order n r with
    | none => rfl
    | some j =>
      obtain ⟨h1, h2⟩ := decider_lt hd
      obtain ⟨x, hx⟩ : ∃ x, order[j]? = some x := ⟨_, List.getElem?_eq_getElem h2⟩
      simp only [hd, hx, hn] at h
      simp only [timed_at hx, timed_at hn]
      have hne : ¬ x.1 = s.1 := fun z => by rw [if_pos z] at h; cases h
      split
      · rfl
      · rename_i e
        split at e
        · cases e
        · cases e
          simp only [timed_at hx, timed_at hn, decide_eq_false hne]
  | _ => rfl
theorem choice_some {c : Int} {T : List Int} {order : List (Nat × Bool)} {n : Nat} {s : Nat × Bool} (hn : order[n]? = some s) {a : Act} {j : Nat} {t : Int} (h : choiceF order n a = some (j, t)) : decided (timed c T order) n a = some (decide (nv T j - nv T n < t)) := by
  cases a with
  | dual cd hd t' r =>
    rw [decided_dual]
    unfold sure
    rw [timed_s]
    unfold choiceF at h
    cases hd : decider order n r with
    | none =>
      simp only [hd] at h
      cases h
    | some j' =>
      obtain ⟨h1, h2⟩ := decider_lt hd
      obtain ⟨x, hx⟩ : ∃ x, order[j']? = some x := ⟨_, List.getElem?_eq_getElem h2⟩
      simp only [hd, hx, hn] at h
      by_cases hk : x.1 = s.1
      · rw [if_pos hk] at h
        cases h
        simp only [timed_at hx, timed_at hn]
        by_cases hc : t ≤ c + nv T j - (c + nv T n)
        · rw [if_pos hc]
          have : ¬ nv T j - nv T n < t := by omega
          simp [this]
        · rw [if_neg hc]
          have : nv T j - nv T n < t := by omega
          simp [timed_at hx, timed_at hn, hk, this]
      · rw [if_neg hk] at h
        cases h
  | _ => cases h
theorem press_sat {T : List Int} {b : Bool} {n j : Nat} {t : Int} : Sat [pressB b n j t] T ↔ b = decide (nv T j - nv T n < t) := by
  unfold Sat pressB
  cases b
  · simp
    omega
  · simp
    omega
theorem Sat.snoc {bs : List Bd} {b : Bd} {T : List Int} : Sat (bs ++ [b]) T ↔ Sat bs T ∧ Sat [b] T := by
  unfold Sat
  constructor
  · exact fun h => ⟨fun x hx => h x (List.mem_append_left _ hx), fun x hx => h x (List.mem_append_right _ hx)⟩
  · rintro ⟨h1, h2⟩ x hx
    rcases List.mem_append.mp hx with z | z
    · exact h1 x z
    · exact h2 x z
def wWalk (order : List (Nat × Bool)) : List ((Nat × Bool) × Nat) → List Wst → List Wst
  | [], ws => ws
  | e :: q, ws => wWalk order q (ws.flatMap (wayStep order e.2 e.1.1 e.1.2))
theorem waysN_walk (order : List (Nat × Bool)) (q : List ((Nat × Bool) × Nat)) (x0 : Wst) : waysN order q x0 = wWalk order q [x0] := by
  unfold waysN
  generalize [x0] = ws
  induction q generalizing ws with
  | nil => rfl
  | cons e q ih => exact ih _
theorem wWalk_mem {order : List (Nat × Bool)} : ∀ (q : List ((Nat × Bool) × Nat)) (ws : List Wst) (y : Wst), y ∈ wWalk order q ws ↔ ∃ x ∈ ws, y ∈ wWalk order q [x]
  | [], ws, y => by simp [wWalk]
  | e :: q, ws, y => by
    unfold wWalk
    rw [wWalk_mem q]
    constructor
    · rintro ⟨z, hz, hy⟩
      obtain ⟨x, hx, hz2⟩ := List.mem_flatMap.mp hz
      refine ⟨x, hx, ?_⟩
      rw [wWalk_mem q]
      exact ⟨z, by simpa using hz2, hy⟩
    · rintro ⟨x, hx, hy⟩
      rw [wWalk_mem q] at hy
      obtain ⟨z, hz, hy⟩ := hy
      exact ⟨z, List.mem_flatMap.mpr ⟨x, hx, by simpa using hz⟩, hy⟩
theorem wWalk_cons {order : List (Nat × Bool)} {e : (Nat × Bool) × Nat} {q : List ((Nat × Bool) × Nat)} {x y : Wst} : y ∈ wWalk order (e :: q) [x] ↔ ∃ z ∈ wayStep order e.2 e.1.1 e.1.2 x, y ∈ wWalk order q [z] := by
  show y ∈ wWalk order q _ ↔ _
  rw [wWalk_mem]
  simp
/-- the ticks are the least above base -/
structure WGood (base : List Int) (x : Wst) : Prop where
  ok : bdsOk base.length x.bounds
  ge : Lq base x.ticks
  sat : Sat x.bounds x.ticks
  least : ∀ zs, Lq base zs → Sat x.bounds zs → Lq x.ticks zs
/-- what a step does -/
inductive WStep (order : List (Nat × Bool)) (n k : Nat) (d : Bool) (x : Wst) : Wst → Prop
  | up (h : d = false) : WStep order n k d x (playW x k d)
  | plain (h : d = true) (z : Nat × Act) (hz : look x.p k = some z) (hc : choiceF order n z.2 = none) : WStep order n k d x (playW x k d)
  | turned (h : d = true) (z : Nat × Act) (hz : look x.p k = some z) (j : Nat) (t : Int) (hc : choiceF order n z.2 = some (j, t)) (b : Bool) (ts : List Int) (hl : lift (x.bounds ++ [pressB b n j t]) x.ticks = some ts) :
    WStep order n k d x ⟨(pdown x.p k (carried z.2 (some b))).2, x.bounds ++ [pressB b n j t], ts, x.choice ++ [b], x.result ++ [(pdown x.p k (carried z.2 (some b))).1]⟩
theorem wayStep_mem {order : List (Nat × Bool)} {n k : Nat} {d : Bool} {x y : Wst} : y ∈ wayStep order n k d x ↔ WStep order n k d x y := by
  unfold wayStep
  cases d with
  | false =>
    rw [if_neg (by decide)]
    constructor
    · intro h
      rw [List.mem_singleton.mp h]
      exact .up rfl
    · intro h
      cases h with
      | up => exact List.mem_singleton.mpr rfl
      | plain h => cases h
      | turned h => cases h
  | true =>
    rw [if_pos rfl]
    cases hz : look x.p k with
    | none =>
      constructor
      · intro h; cases h
      · intro h
        cases h with
        | up h => cases h
        | plain h z hz' => rw [hz] at hz'; cases hz'
        | turned h z hz' => rw [hz] at hz'; cases hz'
    | some z =>
      simp only
      cases hc : choiceF order n z.2 with
      | none =>
        simp only
        constructor
        · intro h
          rw [List.mem_singleton.mp h]
          exact .plain rfl z hz hc
        · intro h
          cases h with
          | up h => cases h
          | plain h z hz' => exact List.mem_singleton.mpr rfl
          | turned h z' hz' j t hc' =>
            rw [hz] at hz'
            cases hz'
            rw [hc] at hc'
            cases hc'
      | some c =>
        obtain ⟨j, t⟩ := c
        simp only
        rw [List.mem_filterMap]
        constructor
        · rintro ⟨b, _, h⟩
          unfold turnF at h
          obtain ⟨ts, h1, h2⟩ := Option.map_eq_some_iff.mp h
          have e : turnedW x k b (pressB b n j t) ts = ⟨(pdown x.p k (carried z.2 (some b))).2, x.bounds ++ [pressB b n j t], ts, x.choice ++ [b], x.result ++ [(pdown x.p k (carried z.2 (some b))).1]⟩ := by
            unfold turnedW
            rw [hz]
          rw [e] at h2
          rw [← h2]
          exact .turned rfl z hz j t hc b ts h1
        · intro h
          cases h with
          | up h => cases h
          | plain h z' hz' hc' =>
            rw [hz] at hz'
            cases hz'
            rw [hc] at hc'
            cases hc'
          | turned h z' hz' j' t' hc' b ts hl =>
            rw [hz] at hz'
            cases hz'
            rw [hc] at hc'
            cases hc'
            refine ⟨b, by cases b <;> simp, ?_⟩
            unfold turnF turnedW
            rw [hl, hz]
            rfl
theorem wstep_good {base : List Int} {order : List (Nat × Bool)} {n k : Nat} {d : Bool} {x y : Wst} (g : WGood base x) (hn : n < base.length) (ho : order.length ≤ base.length) (s : WStep order n k d x y) : WGood base y ∧ ∀ T, Sat y.bounds T → Sat x.bounds T := by
  cases s with
  | up => exact ⟨⟨g.ok, g.ge, g.sat, g.least⟩, fun _ h => h⟩
  | plain => exact ⟨⟨g.ok, g.ge, g.sat, g.least⟩, fun _ h => h⟩
  | turned h z hz j t hc b ts hl =>
    have hj := choiceF_lt hc
    have hp := pressB_lt (b := b) (t := t) hn (show j < base.length by simp at hj; omega)
    have ok : bdsOk base.length (x.bounds ++ [pressB b n j t]) := fun b' hb' => by
      rcases List.mem_append.mp hb' with z | z
      · exact g.ok b' z
      · rw [List.mem_singleton.mp z]
        exact hp
    obtain ⟨l1, l2, l3⟩ := lift_sound (by rw [← g.ge.1]; exact ok) hl
    exact ⟨⟨ok, g.ge.trans l1, l2, fun zs h1 h2 => l3 zs (g.least zs h1 (Sat.snoc.mp h2).1) h2⟩, fun T h => (Sat.snoc.mp h).1⟩
theorem walk_good {base : List Int} {order : List (Nat × Bool)} (ho : order.length ≤ base.length) : ∀ (q : List ((Nat × Bool) × Nat)), (∀ e ∈ q, e.2 < base.length) → ∀ {x y : Wst}, WGood base x → y ∈ wWalk order q [x] → WGood base y ∧ ∀ T, Sat y.bounds T → Sat x.bounds T := fun q => by
  induction q with
  | nil =>
    intro _ x y g h
    rw [List.mem_singleton.mp h]
    exact ⟨g, fun _ h => h⟩
  | cons e q ih =>
    intro hq x y g h
    obtain ⟨z, h1, h2⟩ := wWalk_cons.mp h
    obtain ⟨g1, m1⟩ := wstep_good g (hq e List.mem_cons_self) ho (wayStep_mem.mp h1)
    obtain ⟨g2, m2⟩ := ih (fun e he => hq e (List.mem_cons_of_mem _ he)) g1 h2
    exact ⟨g2, fun T h => m1 T (m2 T h)⟩
/-- the same player and the same result -/
structure Same2 (x : Wst) (st : List Stp × Pst) : Prop where
  p : x.p = st.2
  r : x.result = st.1.map (·.2)
theorem wstep_same {c : Int} {T : List Int} {order : List (Nat × Bool)} {n k : Nat} {d : Bool} {x y : Wst} {st : List Stp × Pst} (hn : order[n]? = some (k, d)) (m : Same2 x st) (s : WStep order n k d x y) (hT : Sat y.bounds T) : Same2 y (stepF (timed c T order) st (tmE c T ((k, d), n), n)) := by
  obtain ⟨mp, mr⟩ := m
  unfold stepF tmE
  cases s with
  | up h =>
    subst h
    simp only [Bool.false_eq_true, if_false]
    exact ⟨by simp [playW, plainF, mp], by simp [playW, plainF, mp, mr]⟩
  | plain h z hz hc =>
    subst h
    rw [mp] at hz
    simp only [if_true, hz]
    rw [choice_none (c := c) (T := T) hn hc]
    exact ⟨by simp [playW, plainF, mp, hz], by simp [playW, plainF, mp, mr, hz]⟩
  | turned h z hz j t hc b ts hl =>
    subst h
    rw [mp] at hz
    have hb := press_sat.mp (Sat.snoc.mp hT).2
    simp only [if_true, hz]
    rw [choice_some (c := c) (T := T) hn hc, ← hb]
    exact ⟨by simp [mp], by simp [mp, mr]⟩
theorem walk_same {base : List Int} {c : Int} {T : List Int} {order : List (Nat × Bool)} (ho : order.length ≤ base.length) : ∀ (q : List ((Nat × Bool) × Nat)), (∀ e ∈ q, order[e.2]? = some e.1) → ∀ {x y : Wst} {st : List Stp × Pst}, WGood base x → Same2 x st → y ∈ wWalk order q [x] → Sat y.bounds T → Same2 y ((q.map fun e => (tmE c T e, e.2)).foldl (stepF (timed c T order)) st) := fun q => by
  induction q with
  | nil =>
    intro _ x y st g m h hT
    rw [List.mem_singleton.mp h]
    exact m
  | cons e q ih =>
    intro hq x y st g m h hT
    obtain ⟨z, h1, h2⟩ := wWalk_cons.mp h
    have hlt : ∀ e' ∈ e :: q, e'.2 < base.length := fun e' he' => by
      have := (List.getElem?_eq_some_iff.mp (hq e' he')).1
      omega
    have s1 := wayStep_mem.mp h1
    obtain ⟨g1, m1⟩ := wstep_good g (hlt e List.mem_cons_self) ho s1
    obtain ⟨g2, m2⟩ := walk_good ho q (fun e' he' => hlt e' (List.mem_cons_of_mem _ he')) g1 h2
    rw [List.map_cons, List.foldl_cons]
    exact ih (fun e' he' => hq e' (List.mem_cons_of_mem _ he')) g1 (wstep_same (c := c) (hq e List.mem_cons_self) m s1 (m2 T hT)) h2 hT
/-- whatever the ticks are, there is a way for them -/
theorem walk_full {l : Lay} {base : List Int} {T : List Int} {order : List (Nat × Bool)} (hk : ∀ e ∈ order, e.1 < wide l) (ho : order.length ≤ base.length) : ∀ (q : List ((Nat × Bool) × Nat)), (∀ e ∈ q, order[e.2]? = some e.1) → ∀ {x : Wst} {s : Nat}, WayOk l s base.length x → WGood base x → Lq base T → Sat x.bounds T → ∃ y ∈ wWalk order q [x], Sat y.bounds T := fun q => by
  induction q with
  | nil => exact fun _ {x s} _ _ _ h => ⟨x, List.mem_singleton.mpr rfl, h⟩
  | cons e q ih =>
    intro hq x s wo g hl hT
    obtain ⟨⟨k, d⟩, n⟩ := e
    have he : order[n]? = some (k, d) := hq _ List.mem_cons_self
    have hn : n < order.length := (List.getElem?_eq_some_iff.mp he).1
    have hkk : k < wide l := hk _ (List.mem_of_getElem? he)
    obtain ⟨z, s1, h1⟩ : ∃ z, WStep order n k d x z ∧ Sat z.bounds T := by
      cases d with
      | false => exact ⟨_, .up rfl, hT⟩
      | true =>
        obtain ⟨a, ha⟩ := look_some wo.p (k := k) (by rw [wo.lay]; exact hkk)
        cases hc : choiceF order n a.2 with
        | none => exact ⟨_, .plain rfl a ha hc, hT⟩
        | some ct =>
          obtain ⟨j, t⟩ := ct
          have hj := choiceF_lt hc
          have hp := pressB_lt (b := decide (nv T j - nv T n < t)) (t := t) (show n < base.length by omega) (show j < base.length by simp at hj; omega)
          have hS : Sat (x.bounds ++ [pressB (decide (nv T j - nv T n < t)) n j t]) T := Sat.snoc.mpr ⟨hT, press_sat.mpr rfl⟩
          obtain ⟨ts, hts⟩ := lift_some (bs := x.bounds ++ [pressB (decide (nv T j - nv T n < t)) n j t]) (xs := x.ticks) (zs := T) (fun b' hb' => by
            rw [← g.ge.1]
            rcases List.mem_append.mp hb' with z | z
            · exact g.ok b' z
            · rw [List.mem_singleton.mp z]
              exact hp) (g.least T hl hT) hS
          exact ⟨_, .turned rfl a ha j t hc _ ts hts, hS⟩
    have hz := wayStep_mem.mpr s1
    have wo1 := (wayStep_ok wo hkk hn ho d).1 z hz
    obtain ⟨g1, _⟩ := wstep_good g (show n < base.length by omega) ho s1
    obtain ⟨y, h2, h3⟩ := ih (fun e' he' => hq e' (List.mem_cons_of_mem _ he')) wo1 g1 hl h1
    exact ⟨y, wWalk_cons.mpr ⟨z, hz, h2⟩, h3⟩
end HT2
set_option maxRecDepth 100000
set_option maxHeartbeats 4000000
namespace HT2
open PySem PySem.Spec PyProof.Rows L2 StX PL
/-! ### what repr shows of outputs -/
abbrev cl (x : Str) : List Nat := x.cps.toList
theorem cl_app (x y : Str) : cl (x ++ y) = cl x ++ cl y := by
  unfold cl
  rw [PySem.Str.cps_append, Array.toList_append]
theorem cl_inj {x y : Str} (h : cl x = cl y) : x = y := PySem.W.str_of_cps h
def signC (n : Nat) : Bool := (decide (97 ≤ n) && decide (n ≤ 122)) || (decide (48 ≤ n) && decide (n ≤ 57))
theorem signs_ok : ∀ n ∈ signs.cps.toList, Builtin.Str.reprChar 39 n = [n] ∧ signC n = true := by decide +kernel
theorem code_sign {c : Str} (h : codeOk c = true) : (∀ n ∈ cl c, Builtin.Str.reprChar 39 n = [n] ∧ signC n = true) ∧ (cl c).length ≤ 8 := by
  unfold codeOk at h
  simp only [Bool.and_eq_true, List.all_eq_true, decide_eq_true_eq] at h
  refine ⟨fun n hn => signs_ok n (h.2 n hn), ?_⟩
  have := h.1.2
  simpa [Str.length] using this
theorem fold_repr (q : Nat) : ∀ (l : List Nat) (acc : Array Nat), (∀ n ∈ l, Builtin.Str.reprChar q n = [n]) → (l.foldl (fun out c => out ++ (Builtin.Str.reprChar q c).toArray) acc).toList = acc.toList ++ l
  | [], acc, _ => by simp
  | c :: l, acc, h => by
    rw [List.foldl_cons, h c List.mem_cons_self, fold_repr q l _ fun n hn => h n (List.mem_cons_of_mem _ hn)]
    simp
theorem repr_plain {x : Str} (h : ∀ n ∈ cl x, Builtin.Str.reprChar 39 n = [n] ∧ signC n = true) : cl (reprText x) = 39 :: (cl x ++ [39]) := by
  have h39 : x.cps.contains 39 = false := by
    cases e : x.cps.contains 39 with
    | false => rfl
    | true =>
      rw [Array.contains_iff_mem] at e
      have := (h 39 (by simpa [cl] using e)).2
      cases this
  have hq : reprQuote x = 39 := by
    unfold reprQuote
    rw [h39]
    rfl
  unfold reprText cl
  rw [hq, Array.toList_push, ← Array.foldl_toList, fold_repr 39 x.cps.toList _ fun n hn => (h n hn).1]
  simp
def wordC (s : Str) : List Nat := 40 :: 39 :: (cl s ++ [39, 44, 32, 39])
/-- without its last sign -/
def outU : Out → List Nat
  | .no => [40]
  | .press c => wordC "press" ++ (cl c ++ [39])
  | .release c => wordC "release" ++ (cl c ++ [39])
theorem word_sign : (∀ n ∈ cl "press", Builtin.Str.reprChar 39 n = [n] ∧ signC n = true) ∧ ∀ n ∈ cl "release", Builtin.Str.reprChar 39 n = [n] ∧ signC n = true := by decide +kernel
theorem shown_pair (a b : PyData) : cl (PyData.tuple [a, b]).shown = 40 :: (cl a.shown ++ [44, 32] ++ cl b.shown ++ [41]) := by
  rw [PyData.shown_tuple, PyData.shownAll_cons, PyData.shownAll_cons, PyData.shownAll_nil]
  show cl (("(" : Str) ++ (a.shown ++ ", " ++ b.shown) ++ (")" : Str)) = _
  rw [cl_app, cl_app, cl_app, cl_app]
  have e1 : cl ("(" : Str) = [40] := by decide +kernel
  have e2 : cl (", " : Str) = [44, 32] := by decide +kernel
  have e3 : cl (")" : Str) = [41] := by decide +kernel
  rw [e1, e2, e3]
  simp
theorem shown_out {o : Out} (h : outOk o) : cl (dOut o).shown = outU o ++ [41] := by
  cases o with
  | no =>
    show cl (PyData.tuple []).shown = _
    rw [PyData.shown_tuple, PyData.shownAll_nil]
    decide +kernel
  | press c =>
    have hc := (code_sign (show codeOk c = true from h)).1
    show cl (PyData.tuple [.str "press", .str c]).shown = _
    rw [shown_pair, PyData.shown_str, PyData.shown_str, repr_plain hc, repr_plain word_sign.1]
    simp [outU, wordC]
  | release c =>
    have hc := (code_sign (show codeOk c = true from h)).1
    show cl (PyData.tuple [.str "release", .str c]).shown = _
    rw [shown_pair, PyData.shown_str, PyData.shown_str, repr_plain hc, repr_plain word_sign.2]
    simp [outU, wordC]
theorem outU_no41 {o : Out} (h : outOk o) : 41 ∉ outU o := by
  have hw : 41 ∉ wordC "press" ∧ 41 ∉ wordC "release" := by decide +kernel
  cases o with
  | no => decide
  | press c =>
    have hc := (code_sign (show codeOk c = true from h)).1
    intro z
    rcases List.mem_append.mp z with z | z
    · exact hw.1 z
    · rcases List.mem_append.mp z with z | z
      · have := (hc 41 z).2
        cases this
      · simp at z
  | release c =>
    have hc := (code_sign (show codeOk c = true from h)).1
    intro z
    rcases List.mem_append.mp z with z | z
    · exact hw.2 z
    · rcases List.mem_append.mp z with z | z
      · have := (hc 41 z).2
        cases this
      · simp at z
theorem cut_at {x : Nat} : ∀ {u v r s : List Nat}, x ∉ u → x ∉ v → u ++ x :: r = v ++ x :: s → u = v ∧ r = s
  | [], [], r, s, _, _, e => ⟨rfl, (List.cons.inj e).2⟩
  | [], b :: v, r, s, _, h2, e => by
    have := (List.cons.inj e).1
    exact absurd (by simp [this]) h2
  | a :: u, [], r, s, h1, _, e => by
    have := (List.cons.inj e).1
    exact absurd (by simp [this]) h1
  | a :: u, b :: v, r, s, h1, h2, e => by
    obtain ⟨e1, e2⟩ := List.cons.inj e
    obtain ⟨k1, k2⟩ := cut_at (fun z => h1 (List.mem_cons_of_mem _ z)) (fun z => h2 (List.mem_cons_of_mem _ z)) e2
    exact ⟨by rw [e1, k1], k2⟩
theorem outU_inj {a b : Out} (h : outU a = outU b) : a = b := by
  have hp : wordC "press" = [40, 39, 112, 114, 101, 115, 115, 39, 44, 32, 39] := by decide +kernel
  have hr : wordC "release" = [40, 39, 114, 101, 108, 101, 97, 115, 101, 39, 44, 32, 39] := by decide +kernel
  have hc : ∀ {x y : Str}, x.cps = y.cps → x = y := fun {x y} e => cl_inj (by unfold cl; rw [e])
  cases a <;> cases b <;> simp [outU, hp, hr] at h <;> first | rfl | exact congrArg Out.press (hc h) | exact congrArg Out.release (hc h)
/-- the texts of outputs, joined -/
def tailC : List Out → List Nat
  | [] => []
  | o :: r => 44 :: 32 :: (outU o ++ 41 :: tailC r)
theorem tailC_inj : ∀ {xs ys : List Out}, (∀ o ∈ xs, outOk o) → (∀ o ∈ ys, outOk o) → tailC xs = tailC ys → xs = ys
  | [], [], _, _, _ => rfl
  | [], _ :: _, _, _, e => by cases e
  | _ :: _, [], _, _, e => by cases e
  | x :: xs, y :: ys, h1, h2, e => by
    unfold tailC at e
    have e2 := (List.cons.inj (List.cons.inj e).2).2
    obtain ⟨k1, k2⟩ := cut_at (outU_no41 (h1 x List.mem_cons_self)) (outU_no41 (h2 y List.mem_cons_self)) e2
    rw [outU_inj k1, tailC_inj (fun o ho => h1 o (List.mem_cons_of_mem _ ho)) (fun o ho => h2 o (List.mem_cons_of_mem _ ho)) k2]
def joinC : List Out → List Nat
  | [] => []
  | o :: r => outU o ++ 41 :: tailC r
theorem join_out : ∀ (o : Out) (xs : List Out), (∀ x ∈ o :: xs, outOk x) → cl (Str.join ", " (PyData.shownAll ((o :: xs).map dOut))) = outU o ++ 41 :: tailC xs
  | o, [], h => by
    rw [List.map_cons, List.map_nil, PyData.shownAll_cons, PyData.shownAll_nil]
    show cl (dOut o).shown = _
    rw [shown_out (h o List.mem_cons_self)]
    simp [tailC]
  | o, x :: xs, h => by
    have ih := join_out x xs fun y hy => h y (List.mem_cons_of_mem _ hy)
    rw [List.map_cons, PyData.shownAll_cons]
    have e : Str.join ", " ((dOut o).shown :: PyData.shownAll ((x :: xs).map dOut)) = (dOut o).shown ++ ", " ++ Str.join ", " (PyData.shownAll ((x :: xs).map dOut)) := by
      rw [List.map_cons, PyData.shownAll_cons]
      rfl
    have e2 : cl (", " : Str) = [44, 32] := by decide +kernel
    rw [e, cl_app, cl_app, ih, shown_out (h o List.mem_cons_self), e2]
    simp [tailC]
def keyS (o : List Out) : Str := (PyData.list (o.map dOut)).shown
theorem keyS_cl {o : List Out} (h : ∀ x ∈ o, outOk x) : cl (keyS o) = 91 :: (joinC o ++ [93]) := by
  unfold keyS
  rw [PyData.shown_list, cl_app, cl_app]
  have e1 : cl ("[" : Str) = [91] := by decide +kernel
  have e3 : cl ("]" : Str) = [93] := by decide +kernel
  rw [e1, e3]
  cases o with
  | nil =>
    have e4 : cl (Str.join ", " (PyData.shownAll (([] : List Out).map dOut))) = [] := by
      rw [List.map_nil, PyData.shownAll_nil]
      decide +kernel
    rw [e4]
    rfl
  | cons x xs =>
    rw [join_out x xs h]
    simp [joinC]
theorem keyS_inj {a b : List Out} (ha : ∀ x ∈ a, outOk x) (hb : ∀ x ∈ b, outOk x) (h : keyS a = keyS b) : a = b := by
  have e := congrArg cl h
  rw [keyS_cl ha, keyS_cl hb] at e
  have e2 : joinC a = joinC b := List.append_cancel_right (List.cons.inj e).2
  cases a with
  | nil =>
    cases b with
    | nil => rfl
    | cons y ys => simp [joinC] at e2
  | cons x xs =>
    cases b with
    | nil => simp [joinC] at e2
    | cons y ys =>
      unfold joinC at e2
      obtain ⟨k1, k2⟩ := cut_at (outU_no41 (ha x List.mem_cons_self)) (outU_no41 (hb y List.mem_cons_self)) e2
      rw [outU_inj k1, tailC_inj (fun o ho => ha o (List.mem_cons_of_mem _ ho)) (fun o ho => hb o (List.mem_cons_of_mem _ ho)) k2]
theorem outU_small {o : Out} (h : outOk o) : (outU o).length ≤ 24 ∧ ∀ n ∈ outU o, n < 256 := by
  have hp : wordC "press" = [40, 39, 112, 114, 101, 115, 115, 39, 44, 32, 39] := by decide +kernel
  have hr : wordC "release" = [40, 39, 114, 101, 108, 101, 97, 115, 101, 39, 44, 32, 39] := by decide +kernel
  have hs : ∀ n, signC n = true → n < 256 := fun n hn => by
    simp [signC] at hn
    omega
  cases o with
  | no => decide
  | press c =>
    obtain ⟨hc, hl⟩ := code_sign (show codeOk c = true from h)
    unfold outU
    rw [hp]
    refine ⟨by simp at hl ⊢; omega, fun n hn => ?_⟩
    rcases List.mem_append.mp hn with z | z
    · simp at z
      omega
    · rcases List.mem_append.mp z with z | z
      · exact hs n (hc n z).2
      · simp at z
        omega
  | release c =>
    obtain ⟨hc, hl⟩ := code_sign (show codeOk c = true from h)
    unfold outU
    rw [hr]
    refine ⟨by simp at hl ⊢; omega, fun n hn => ?_⟩
    rcases List.mem_append.mp hn with z | z
    · simp at z
      omega
    · rcases List.mem_append.mp z with z | z
      · exact hs n (hc n z).2
      · simp at z
        omega
theorem tailC_small : ∀ {xs : List Out}, (∀ o ∈ xs, outOk o) → (tailC xs).length ≤ 27 * xs.length ∧ ∀ n ∈ tailC xs, n < 256
  | [], _ => by simp [tailC]
  | x :: xs, h => by
    obtain ⟨a1, a2⟩ := outU_small (h x List.mem_cons_self)
    obtain ⟨b1, b2⟩ := tailC_small fun o ho => h o (List.mem_cons_of_mem _ ho)
    refine ⟨by simp [tailC]; omega, fun n hn => ?_⟩
    simp [tailC] at hn
    rcases hn with z | z | z | z | z
    · omega
    · omega
    · exact a2 n z
    · omega
    · exact b2 n z
theorem keyS_small {o : List Out} (h : ∀ x ∈ o, outOk x) : (keyS o).length ≤ 27 * o.length + 2 ∧ PyData.strOk (keyS o) = true := by
  have hj : (joinC o).length ≤ 27 * o.length ∧ ∀ n ∈ joinC o, n < 256 := by
    cases o with
    | nil => simp [joinC]
    | cons x xs =>
      obtain ⟨a1, a2⟩ := outU_small (h x List.mem_cons_self)
      obtain ⟨b1, b2⟩ := tailC_small fun o ho => h o (List.mem_cons_of_mem _ ho)
      refine ⟨by simp [joinC]; omega, fun n hn => ?_⟩
      simp [joinC] at hn
      rcases hn with z | z | z
      · exact a2 n z
      · omega
      · exact b2 n z
  have e := keyS_cl h
  constructor
  · have : (keyS o).length = (cl (keyS o)).length := by simp [Str.length, cl]
    rw [this, e]
    simp
    omega
  · unfold PyData.strOk
    rw [Array.all_eq_true']
    intro n hn
    have hn2 : n ∈ cl (keyS o) := by simpa [cl] using hn
    rw [e] at hn2
    have : n < 256 := by
      simp at hn2
      rcases hn2 with z | z | z
      · omega
      · exact hj.2 n z
      · omega
    simp
    omega
/-! ### sorted texts -/
theorem lt_irr : ∀ a : List Nat, ltCps a a = false
  | [] => rfl
  | x :: a => by simp [ltCps, lt_irr a]
theorem le_trans_c : ∀ {a b c : List Nat}, ltCps b a = false → ltCps c b = false → ltCps c a = false
  | [], b, c, _, _ => by cases c <;> rfl
  | x :: a, [], c, h, _ => by simp [ltCps] at h
  | x :: a, y :: b, [], _, h => by simp [ltCps] at h
  | x :: a, y :: b, z :: c, h1, h2 => by
    simp only [ltCps, Bool.or_eq_false_iff, Bool.and_eq_false_iff, decide_eq_false_iff_not, beq_eq_false_iff_ne] at h1 h2 ⊢
    refine ⟨by omega, ?_⟩
    by_cases e : z = x
    · right
      have e1 : y = x := by omega
      have e2 : z = y := by omega
      exact le_trans_c (h1.2.resolve_left (fun q => q e1)) (h2.2.resolve_left (fun q => q e2))
    · exact Or.inl e
theorem le_anti_c : ∀ {a b : List Nat}, ltCps b a = false → ltCps a b = false → a = b
  | [], [], _, _ => rfl
  | [], _ :: _, _, h => by simp [ltCps] at h
  | _ :: _, [], h, _ => by simp [ltCps] at h
  | x :: a, y :: b, h1, h2 => by
    simp only [ltCps, Bool.or_eq_false_iff, Bool.and_eq_false_iff, decide_eq_false_iff_not, beq_eq_false_iff_ne] at h1 h2
    have e : x = y := by omega
    rw [e, le_anti_c (h1.2.resolve_left (fun q => q e.symm)) (h2.2.resolve_left (fun q => q e))]
theorem rising_all : ∀ {l : List Str} {p : Str}, risingS p l = true → ∀ x ∈ l, ltCps (cl x) (cl p) = false
  | [], _, _, _, h => by cases h
  | y :: l, p, h, x, hx => by
    simp only [risingS, Bool.and_eq_true, Bool.not_eq_true'] at h
    rcases List.mem_cons.mp hx with e | hx
    · rw [e]; exact h.1
    · exact le_trans_c h.1 (rising_all h.2 x hx)
theorem sortedS_tail {x : Str} {l : List Str} (h : sortedS (x :: l) = true) : sortedS l = true := by
  cases l with
  | nil => rfl
  | cons y l =>
    simp only [sortedS, risingS, Bool.and_eq_true] at h ⊢
    exact h.2
theorem sortedS_uniq : ∀ {a b : List Str}, a.Perm b → sortedS a = true → sortedS b = true → a = b
  | [], b, p, _, _ => (List.nil_perm.mp p).symm
  | x :: a, [], p, _, _ => by
    have := p.length_eq
    simp at this
  | x :: a, y :: b, p, h1, h2 => by
    have e : x = y := by
      by_cases e : x = y
      · exact e
      · have hx : x ∈ b := by
          rcases List.mem_cons.mp (p.mem_iff.mp List.mem_cons_self) with z | z
          · exact absurd z e
          · exact z
        have hy : y ∈ a := by
          rcases List.mem_cons.mp (p.mem_iff.mpr List.mem_cons_self) with z | z
          · exact absurd z.symm e
          · exact z
        exact cl_inj (le_anti_c (rising_all h1 y hy) (rising_all h2 x hx))
    subst e
    rw [sortedS_uniq (p.cons_inv) (sortedS_tail h1) (sortedS_tail h2)]
end HT2
set_option maxRecDepth 100000
set_option maxHeartbeats 4000000
namespace HT2
open PySem PySem.Spec PyProof.Rows L2 StX PL
/-! ### rows that merge two lists -/
theorem merged_filter (p : Nat → Bool) : ∀ (n : Nat) (xs ys : List Nat), xs.length + ys.length ≤ n → (∀ x ∈ xs, p x = true) → (∀ y ∈ ys, p y = false) → ∀ r ∈ merged xs ys, r.filter p = xs ∧ r.filter (fun i => !p i) = ys := fun n => by
  have all_t : ∀ zs : List Nat, (∀ x ∈ zs, p x = true) → zs.filter p = zs ∧ zs.filter (fun i => !p i) = [] := fun zs h => by
    refine ⟨List.filter_eq_self.mpr h, List.filter_eq_nil_iff.mpr fun x hx => ?_⟩
    simp [h x hx]
  have all_f : ∀ zs : List Nat, (∀ x ∈ zs, p x = false) → zs.filter p = [] ∧ zs.filter (fun i => !p i) = zs := fun zs h => by
    refine ⟨List.filter_eq_nil_iff.mpr fun x hx => ?_, List.filter_eq_self.mpr fun x hx => ?_⟩ <;> simp [h x hx]
  induction n with
  | zero =>
    intro xs ys h hx hy r hr
    have e1 : xs = [] := List.length_eq_zero_iff.mp (by omega)
    have e2 : ys = [] := List.length_eq_zero_iff.mp (by omega)
    subst e1 e2
    simp [merged] at hr
    rw [hr]
    simp
  | succ n ih =>
    intro xs ys h hx hy r hr
    match xs, ys, h, hx, hy, hr with
    | [], ys, h, hx, hy, hr =>
      simp [merged] at hr
      rw [hr]
      exact all_f ys hy
    | x :: xs, [], h, hx, hy, hr =>
      simp [merged] at hr
      rw [hr]
      exact all_t _ hx
    | x :: xs, y :: ys, h, hx, hy, hr =>
      rw [merged] at hr
      rcases List.mem_append.mp hr with z | z
      · obtain ⟨r', h1, e⟩ := List.mem_map.mp z
        obtain ⟨i1, i2⟩ := ih xs (y :: ys) (by simp at h ⊢; omega) (fun a ha => hx a (List.mem_cons_of_mem _ ha)) hy r' h1
        rw [← e]
        simp [hx x List.mem_cons_self, i1]
        simpa using i2
      · obtain ⟨r', h1, e⟩ := List.mem_map.mp z
        obtain ⟨i1, i2⟩ := ih (x :: xs) ys (by simp at h ⊢; omega) hx (fun a ha => hy a (List.mem_cons_of_mem _ ha)) r' h1
        rw [← e]
        simp [hy y List.mem_cons_self, i1]
        simpa using i2
theorem merged_of (p : Nat → Bool) : ∀ (r xs ys : List Nat), r.filter p = xs → r.filter (fun i => !p i) = ys → r ∈ merged xs ys
  | [], xs, ys, h1, h2 => by
    simp at h1 h2
    subst h1 h2
    simp [merged]
  | i :: r, xs, ys, h1, h2 => by
    cases hp : p i with
    | true =>
      simp [hp] at h1 h2
      subst h1
      have ih := merged_of p r (r.filter p) ys rfl h2
      cases ys with
      | nil =>
        have e : r.filter p = r := List.filter_eq_self.mpr fun x hx => by
          have := List.filter_eq_nil_iff.mp h2 x hx
          simpa using this
        rw [e]
        simp [merged]
      | cons y ys =>
        rw [merged]
        exact List.mem_append_left _ (List.mem_map.mpr ⟨r, ih, rfl⟩)
    | false =>
      simp [hp] at h1 h2
      subst h2
      have ih := merged_of p r xs (r.filter fun i => !p i) h1 rfl
      cases xs with
      | nil =>
        have e : (r.filter fun i => !p i) = r := List.filter_eq_self.mpr fun x hx => by
          have := List.filter_eq_nil_iff.mp h1 x hx
          simpa using this
        rw [e]
        simp [merged]
      | cons x xs =>
        rw [merged]
        exact List.mem_append_right _ (List.mem_map.mpr ⟨r, ih, rfl⟩)
/-- is the event one of the half's -/
def inH (rec : Rec) (ks : List Nat) (i : Nat) : Bool := ks.contains (evK rec i)
theorem zip_filter {rec : Rec} (q : Nat → Bool) : (rec.zipIdx.filter fun x => q x.1.k).map (·.2) = (List.range rec.length).filter fun i => q (evK rec i) := by
  have gen : ∀ (zs : List (Ev × Nat)), (∀ x ∈ zs, rec[x.2]? = some x.1) → (zs.filter fun x => q x.1.k).map (·.2) = (zs.map (·.2)).filter fun i => q (evK rec i) := fun zs => by
    induction zs with
    | nil => exact fun _ => rfl
    | cons x zs ih =>
      intro h
      have e : evK rec x.2 = x.1.k := by simp [evK, h x List.mem_cons_self]
      have i := ih fun y hy => h y (List.mem_cons_of_mem _ hy)
      rw [List.map_cons, List.filter_cons, List.filter_cons, e]
      cases q x.1.k
      · simpa using i
      · simpa using i
  rw [gen rec.zipIdx fun x hx => List.mem_zipIdx_iff_getElem?.mp hx]
  congr 1
  refine List.ext_getElem? fun n => ?_
  rw [List.getElem?_map, List.getElem?_zipIdx]
  by_cases h : n < rec.length
  · rw [List.getElem?_range h, List.getElem?_eq_getElem h]
    simp
  · rw [List.getElem?_eq_none (by simpa using h), List.getElem?_eq_none (by rw [List.length_range]; omega)]
    rfl
theorem here_eq {rec : Rec} {ks : List Nat} : hereF rec ks = (List.range rec.length).filter fun i => !inH rec ks i := zip_filter fun k => !ks.contains k
theorem there_eq {rec : Rec} {ks : List Nat} : thereF rec ks = (List.range rec.length).filter (inH rec ks) := zip_filter fun k => ks.contains k
theorem merged_swap_filter {rec : Rec} {ks row : List Nat} (h : row ∈ merged (hereF rec ks) (thereF rec ks)) : row.filter (inH rec ks) = thereF rec ks ∧ row.filter (fun i => !inH rec ks i) = hereF rec ks := by
  have q := merged_filter (fun i => !inH rec ks i) _ (hereF rec ks) (thereF rec ks) (Nat.le_refl _) (fun x hx => by
    rw [here_eq] at hx
    exact (List.mem_filter.mp hx).2) (fun x hx => by
    rw [there_eq] at hx
    simp [(List.mem_filter.mp hx).2]) row h
  refine ⟨?_, q.1⟩
  have := q.2
  simpa using this
theorem perm_filters {α : Type} (p : α → Bool) : ∀ l : List α, l.Perm (l.filter p ++ l.filter fun x => !p x)
  | [] => List.Perm.refl _
  | x :: l => by
    have ih := perm_filters p l
    cases h : p x with
    | true =>
      simp [h]
      exact ih
    | false =>
      simp [h]
      exact (ih.cons x).trans (List.perm_middle.symm)
theorem row_perm {rec : Rec} {ks row : List Nat} (h : row ∈ merged (hereF rec ks) (thereF rec ks)) : row.Perm (List.range rec.length) := by
  obtain ⟨h1, h2⟩ := merged_swap_filter h
  have p1 := perm_filters (inH rec ks) row
  rw [h1, h2, there_eq, here_eq] at p1
  exact p1.trans (perm_filters (inH rec ks) (List.range rec.length)).symm
theorem row_of {rec : Rec} {ks row : List Nat} (h1 : row.filter (inH rec ks) = thereF rec ks) (h2 : row.filter (fun i => !inH rec ks i) = hereF rec ks) : row ∈ merged (hereF rec ks) (thereF rec ks) :=
  merged_of (fun i => !inH rec ks i) row _ _ h2 (by simpa using h1)
/-! ### the delays of the law -/
def rowsFrom (half : List Nat) (far : Int) (rec : Rec) (rows : List DR) : List DR := rec.foldl (fun rows e => rows.flatMap (stepD half far e)) rows
def sumD (x : Ev × Int) : Int := x.1.t + x.2
structure DelOk (half : List Nat) (far : Int) (rec : Rec) (dl : List Int) : Prop where
  len : dl.length = rec.length
  one : ∀ x ∈ rec.zip dl, if half.contains x.1.k = true then 0 ≤ x.2 ∧ x.2 ≤ far else x.2 = 0
  ord : (rec.zip dl).Pairwise fun x y => half.contains x.1.k = true → half.contains y.1.k = true → sumD x ≤ sumD y
theorem rowsFrom_mem {half : List Nat} {far : Int} : ∀ (rec : Rec) (rows : List DR) (y : DR), y ∈ rowsFrom half far rec rows ↔ ∃ x ∈ rows, y ∈ rowsFrom half far rec [x]
  | [], rows, y => by simp [rowsFrom]
  | e :: rec, rows, y => by
    have ih := rowsFrom_mem (half := half) (far := far) rec
    show y ∈ rowsFrom half far rec _ ↔ ∃ x ∈ rows, y ∈ rowsFrom half far rec _
    rw [ih]
    constructor
    · rintro ⟨z, hz, hy⟩
      obtain ⟨x, hx, hz2⟩ := List.mem_flatMap.mp hz
      refine ⟨x, hx, ?_⟩
      rw [ih]
      exact ⟨z, by simpa using hz2, hy⟩
    · rintro ⟨x, hx, hy⟩
      rw [ih] at hy
      obtain ⟨z, hz, hy⟩ := hy
      exact ⟨z, List.mem_flatMap.mpr ⟨x, hx, by simpa using hz⟩, hy⟩
theorem firstD_le {t d : Int} {o : Option Int} : firstD t o ≤ d ↔ 0 ≤ d ∧ ∀ l, o = some l → l ≤ t + d := by
  cases o with
  | none => simp [firstD]
  | some l =>
    simp [firstD]
    omega
theorem stepD_mem {half : List Nat} {far : Int} {e : Ev} {x y : DR} : y ∈ stepD half far e x ↔ (half.contains e.k = true ∧ ∃ d, 0 ≤ d ∧ d ≤ far ∧ (∀ l, x.2 = some l → l ≤ e.t + d) ∧ y = oneD e.t x d) ∨ (half.contains e.k = false ∧ y = (x.1 ++ [0], x.2)) := by
  unfold stepD
  cases h : half.contains e.k with
  | true =>
    rw [if_pos rfl]
    constructor
    · intro q
      obtain ⟨n, hn, rfl⟩ := List.mem_map.mp q
      rw [List.mem_range] at hn
      have := (firstD_le (t := e.t) (d := firstD e.t x.2 + n) (o := x.2)).mp (by omega)
      exact Or.inl ⟨rfl, _, this.1, by omega, this.2, rfl⟩
    · rintro (⟨_, d, h1, h2, h3, rfl⟩ | ⟨z, _⟩)
      · have := (firstD_le (t := e.t) (d := d) (o := x.2)).mpr ⟨h1, h3⟩
        refine List.mem_map.mpr ⟨(d - firstD e.t x.2).toNat, by rw [List.mem_range]; omega, ?_⟩
        have e1 : firstD e.t x.2 + ((d - firstD e.t x.2).toNat : Int) = d := by omega
        rw [e1]
      · cases z
  | false =>
    rw [if_neg (by decide)]
    simp
theorem rowsFrom_iff {half : List Nat} {far : Int} : ∀ (rec : Rec) (x y : DR), y ∈ rowsFrom half far rec [x] → ∃ dl, y.1 = x.1 ++ dl ∧ DelOk half far rec dl ∧ ∀ l, x.2 = some l → ∀ z ∈ rec.zip dl, half.contains z.1.k = true → l ≤ sumD z
  | [], x, y, h => by
    rw [List.mem_singleton.mp h]
    exact ⟨[], by simp, ⟨rfl, fun _ h => absurd h (by simp), by rw [List.zip_nil_left]; exact List.Pairwise.nil⟩, fun _ _ _ h => absurd h (by simp)⟩
  | e :: rec, x, y, h => by
    have h' : y ∈ rowsFrom half far rec ([x].flatMap (stepD half far e)) := h
    rw [rowsFrom_mem] at h'
    obtain ⟨z, hz, hy⟩ := h'
    have hz2 : z ∈ stepD half far e x := by simpa using hz
    obtain ⟨dl, e1, ok, hb⟩ := rowsFrom_iff rec z y hy
    rcases stepD_mem.mp hz2 with ⟨hk, d, d0, d1, d2, rfl⟩ | ⟨hk, rfl⟩
    · refine ⟨d :: dl, by rw [e1]; simp [oneD], ⟨by simp [ok.len], fun w hw => ?_, ?_⟩, fun l hl w hw hwk => ?_⟩
      · rw [List.zip_cons_cons] at hw
        rcases List.mem_cons.mp hw with q | q
        · subst q
          rw [if_pos hk]
          exact ⟨d0, d1⟩
        · exact ok.one w q
      · rw [List.zip_cons_cons, List.pairwise_cons]
        exact ⟨fun w hw _ hwk => hb _ rfl w hw hwk, ok.ord⟩
      · rw [List.zip_cons_cons] at hw
        rcases List.mem_cons.mp hw with q | q
        · subst q
          exact d2 l hl
        · exact Int.le_trans (d2 l hl) (hb _ rfl w q hwk)
    · refine ⟨0 :: dl, by rw [e1]; simp, ⟨by simp [ok.len], fun w hw => ?_, ?_⟩, fun l hl w hw hwk => ?_⟩
      · rw [List.zip_cons_cons] at hw
        rcases List.mem_cons.mp hw with q | q
        · subst q
          rw [if_neg (by rw [hk]; decide)]
        · exact ok.one w q
      · rw [List.zip_cons_cons, List.pairwise_cons]
        exact ⟨fun w hw hk' => absurd (hk.symm.trans hk') (by decide), ok.ord⟩
      · rw [List.zip_cons_cons] at hw
        rcases List.mem_cons.mp hw with q | q
        · subst q
          rw [hk] at hwk
          cases hwk
        · exact hb l hl w q hwk
theorem rowsFrom_of {half : List Nat} {far : Int} : ∀ (rec : Rec) (x : DR) (dl : List Int), DelOk half far rec dl → (∀ l, x.2 = some l → ∀ z ∈ rec.zip dl, half.contains z.1.k = true → l ≤ sumD z) → ∃ o, (x.1 ++ dl, o) ∈ rowsFrom half far rec [x]
  | [], x, dl, ok, _ => by
    have z : dl = [] := List.length_eq_zero_iff.mp ok.len
    subst z
    exact ⟨x.2, by simp [rowsFrom]⟩
  | e :: rec, x, [], ok, _ => by
    have := ok.len
    simp at this
  | e :: rec, x, d :: dl, ok, hb => by
    have o1 := ok.one (e, d) (by rw [List.zip_cons_cons]; exact List.mem_cons_self)
    have o2 := ok.ord
    rw [List.zip_cons_cons, List.pairwise_cons] at o2
    have ok2 : DelOk half far rec dl := ⟨by simpa using ok.len, fun w hw => ok.one w (by rw [List.zip_cons_cons]; exact List.mem_cons_of_mem _ hw), o2.2⟩
    cases hk : half.contains e.k with
    | true =>
      rw [if_pos hk] at o1
      obtain ⟨o, ho⟩ := rowsFrom_of rec (oneD e.t x d) dl ok2 fun l hl w hw hwk => by
        cases hl
        exact o2.1 w hw hk hwk
      refine ⟨o, ?_⟩
      show _ ∈ rowsFrom half far rec ([x].flatMap (stepD half far e))
      rw [rowsFrom_mem]
      refine ⟨oneD e.t x d, ?_, by simpa [oneD] using ho⟩
      have : oneD e.t x d ∈ stepD half far e x := stepD_mem.mpr (Or.inl ⟨hk, d, o1.1, o1.2, fun l hl => hb l hl (e, d) (by rw [List.zip_cons_cons]; exact List.mem_cons_self) hk, rfl⟩)
      simpa using this
    | false =>
      rw [if_neg (by rw [hk]; decide)] at o1
      subst o1
      obtain ⟨o, ho⟩ := rowsFrom_of rec (x.1 ++ [0], x.2) dl ok2 fun l hl w hw hwk => hb l hl w (by rw [List.zip_cons_cons]; exact List.mem_cons_of_mem _ hw) hwk
      refine ⟨o, ?_⟩
      show _ ∈ rowsFrom half far rec ([x].flatMap (stepD half far e))
      rw [rowsFrom_mem]
      refine ⟨(x.1 ++ [0], x.2), ?_, by simpa using ho⟩
      have : (x.1 ++ [0], x.2) ∈ stepD half far e x := stepD_mem.mpr (Or.inr ⟨hk, rfl⟩)
      simpa using this
theorem dels_iff {half : List Nat} {far : Int} {rec : Rec} {dl : List Int} : dl ∈ delsF half far rec ↔ DelOk half far rec dl := by
  unfold delsF
  rw [List.mem_map]
  constructor
  · rintro ⟨y, hy, rfl⟩
    obtain ⟨dl, e, ok, _⟩ := rowsFrom_iff (half := half) (far := far) rec ([], none) y hy
    rw [e]
    simpa using ok
  · intro ok
    obtain ⟨o, ho⟩ := rowsFrom_of rec ([], none) dl ok fun l hl => by cases hl
    refine ⟨(dl, o), ?_, rfl⟩
    have ho2 : (dl, o) ∈ rowsFrom half far rec [([], none)] := by simpa using ho
    exact ho2
/-- by the index -/
def dAt (dl : List Int) (i : Nat) : Int := dl[i]?.getD 0
def sAt (rec : Rec) (dl : List Int) (i : Nat) : Int := evT rec i + dAt dl i
theorem DelOk.at1 {half : List Nat} {far : Int} {rec : Rec} {dl : List Int} (ok : DelOk half far rec dl) {i : Nat} (h : i < rec.length) : if inH rec half i = true then 0 ≤ dAt dl i ∧ dAt dl i ≤ far else dAt dl i = 0 := by
  have h2 : i < dl.length := by rw [ok.len]; exact h
  have q := ok.one (rec[i], dl[i]) (by
    refine List.mem_of_getElem? (i := i) ?_
    rw [List.getElem?_zip_eq_some]
    exact ⟨List.getElem?_eq_getElem h, List.getElem?_eq_getElem h2⟩)
  have e1 : evK rec i = rec[i].k := by simp [evK, h]
  have e2 : dAt dl i = dl[i] := by simp [dAt, h2]
  unfold inH
  rw [e1, e2]
  exact q
theorem DelOk.at2 {half : List Nat} {far : Int} {rec : Rec} {dl : List Int} (ok : DelOk half far rec dl) {i j : Nat} (hij : i < j) (h : j < rec.length) (hi : inH rec half i = true) (hj : inH rec half j = true) : sAt rec dl i ≤ sAt rec dl j := by
  have hl := ok.len
  have q := List.pairwise_iff_getElem.mp ok.ord i j (by rw [List.length_zip]; omega) (by rw [List.length_zip]; omega) hij
  rw [List.getElem_zip, List.getElem_zip] at q
  have e1 : ∀ {n : Nat} (hn : n < rec.length), evK rec n = rec[n].k ∧ evT rec n = rec[n].t ∧ dAt dl n = dl[n]'(by omega) := fun {n} hn => by
    have : n < dl.length := by omega
    simp [evK, evT, dAt, hn, this]
  obtain ⟨a1, a2, a3⟩ := e1 (n := i) (by omega)
  obtain ⟨b1, b2, b3⟩ := e1 h
  unfold inH at hi hj
  rw [a1] at hi
  rw [b1] at hj
  have := q hi hj
  unfold sAt
  rw [a2, a3, b2, b3]
  exact this
theorem DelOk.of {half : List Nat} {far : Int} {rec : Rec} {dl : List Int} (hl : dl.length = rec.length) (h1 : ∀ i, i < rec.length → if inH rec half i = true then 0 ≤ dAt dl i ∧ dAt dl i ≤ far else dAt dl i = 0)
    (h2 : ∀ i j, i < j → j < rec.length → inH rec half i = true → inH rec half j = true → sAt rec dl i ≤ sAt rec dl j) : DelOk half far rec dl := by
  have e1 : ∀ {n : Nat} (hn : n < rec.length), evK rec n = rec[n].k ∧ evT rec n = rec[n].t ∧ dAt dl n = dl[n]'(by omega) := fun {n} hn => by
    have : n < dl.length := by omega
    simp [evK, evT, dAt, hn, this]
  refine ⟨hl, fun x hx => ?_, ?_⟩
  · obtain ⟨n, hn, e⟩ := List.mem_iff_getElem.mp hx
    rw [List.length_zip] at hn
    rw [List.getElem_zip] at e
    have q := h1 n (by omega)
    obtain ⟨a1, a2, a3⟩ := e1 (n := n) (by omega)
    unfold inH at q
    rw [a1, a3] at q
    rw [← e]
    exact q
  · rw [List.pairwise_iff_getElem]
    intro i j hi hj hij ki kj
    rw [List.length_zip] at hi hj
    rw [List.getElem_zip, List.getElem_zip] at *
    obtain ⟨a1, a2, a3⟩ := e1 (n := i) (by omega)
    obtain ⟨b1, b2, b3⟩ := e1 (n := j) (by omega)
    have q := h2 i j hij (by omega) (by unfold inH; rw [a1]; exact ki) (by unfold inH; rw [b1]; exact kj)
    unfold sAt at q
    rw [a2, a3, b2, b3] at q
    exact q
end HT2
set_option maxRecDepth 100000
set_option maxHeartbeats 4000000
namespace HT2
open PySem PySem.Spec PyProof.Rows L2 StX PL
/-! ### arrivals are the records that arrive -/
theorem pairwise_uniq {α : Type} {le : α → α → Prop} : ∀ {a b : List α}, (∀ x y : α, le x y → le y x → x = y) → a.Perm b → a.Pairwise le → b.Pairwise le → a = b
  | [], b, _, p, _, _ => (List.nil_perm.mp p).symm
  | x :: a, [], _, p, _, _ => by
    have := p.length_eq
    simp at this
  | x :: a, y :: b, h, p, h1, h2 => by
    obtain ⟨h11, h12⟩ := List.pairwise_cons.mp h1
    obtain ⟨h21, h22⟩ := List.pairwise_cons.mp h2
    have e : x = y := by
      by_cases e : x = y
      · exact e
      · have hx : x ∈ b := by
          rcases List.mem_cons.mp (p.mem_iff.mp List.mem_cons_self) with z | z
          · exact absurd z e
          · exact z
        have hy : y ∈ a := by
          rcases List.mem_cons.mp (p.mem_iff.mpr List.mem_cons_self) with z | z
          · exact absurd z.symm e
          · exact z
        exact h x y (h11 y hy) (h21 x hx)
    subst e
    rw [pairwise_uniq h p.cons_inv h12 h22]
theorem leKI_iff (a b : Int × Nat) : leKI a b = true ↔ a.1 < b.1 ∨ (a.1 = b.1 ∧ a.2 ≤ b.2) := by
  unfold leKI
  rw [decide_eq_true_eq]
theorem sortKI_spec (l : List (Int × Nat)) : (sortKI l).Perm l ∧ (sortKI l).Pairwise fun a b => leKI a b = true := by
  refine ⟨List.mergeSort_perm _ _, ?_⟩
  unfold sortKI
  refine List.pairwise_mergeSort (le := leKI) (fun a b c h1 h2 => ?_) (fun a b => ?_) l
  · rw [leKI_iff] at h1 h2 ⊢
    omega
  · rw [Bool.or_eq_true, leKI_iff, leKI_iff]
    omega
theorem arrived_of {rec : Rec} {dl : List Int} {row : List Nat} (hp : row.Perm (List.range rec.length)) (hs : row.Pairwise fun i j => sAt rec dl i < sAt rec dl j ∨ (sAt rec dl i = sAt rec dl j ∧ i ≤ j)) : arrivedF rec dl = row.map fun i => ⟨sAt rec dl i, evK rec i, evD rec i⟩ := by
  have e : sortKI (keyed rec dl) = row.map fun i => (sAt rec dl i, i) := by
    obtain ⟨h1, h2⟩ := sortKI_spec (keyed rec dl)
    refine pairwise_uniq (le := fun a b => leKI a b = true) (fun x y h3 h4 => ?_) (h1.trans ?_) h2 ?_
    · rw [leKI_iff] at h3 h4
      refine Prod.ext ?_ ?_ <;> omega
    · exact (hp.map fun i => (sAt rec dl i, i)).symm
    · rw [List.pairwise_map]
      refine hs.imp fun {i j} h => ?_
      rw [leKI_iff]
      exact h
  unfold arrivedF
  rw [e, List.map_map]
  rfl
def rowAt (row : List Nat) (p : Nat) : Nat := row[p]?.getD 0
structure RowT (rec : Rec) (ks row : List Nat) (T : List Int) : Prop where
  step : ∀ p, p + 1 < row.length → nv T p + (if rowAt row (p + 1) < rowAt row p then 1 else 0) ≤ nv T (p + 1)
  lo : ∀ p, p < row.length → tickOf rec (rowAt row p) ≤ nv T p
  hi : ∀ p, p < row.length → nv T p - tickOf rec (rowAt row p) ≤ if inH rec ks (rowAt row p) = true then nv T (row.length + 1) else 0
theorem bounds_iff {rec : Rec} {ks row : List Nat} {T : List Int} (h0 : nv T row.length = 0) : Sat (boundsF rec ks row) T ↔ RowT rec ks row T := by
  have hz : ∀ x : Nat × Nat, x ∈ row.zipIdx ↔ x.2 < row.length ∧ x.1 = rowAt row x.2 := fun x => by
    rw [List.mem_zipIdx_iff_getElem?, List.getElem?_eq_some_iff]
    constructor
    · rintro ⟨h, e⟩
      exact ⟨h, by simp [rowAt, h, e]⟩
    · rintro ⟨h, e⟩
      refine ⟨h, ?_⟩
      simp [rowAt, h] at e
      exact e.symm
  constructor
  · intro s
    refine ⟨fun p hp => ?_, fun p hp => ?_, fun p hp => ?_⟩
    · have q := s (ordB row p) (List.mem_append_left _ (List.mem_map.mpr ⟨p, by rw [List.mem_range]; omega, rfl⟩))
      exact q
    · have q := s ⟨row.length, p, tickOf rec (rowAt row p)⟩ (List.mem_append_right _ (List.mem_flatMap.mpr ⟨(rowAt row p, p), (hz _).mpr ⟨hp, rfl⟩, by simp [twoB]⟩))
      simp only at q
      omega
    · have q := s ⟨p, if ks.contains (evK rec (rowAt row p)) then row.length + 1 else row.length, -tickOf rec (rowAt row p)⟩ (List.mem_append_right _ (List.mem_flatMap.mpr ⟨(rowAt row p, p), (hz _).mpr ⟨hp, rfl⟩, by simp [twoB]⟩))
      simp only at q
      unfold inH
      split
      · rename_i c
        rw [if_pos c] at q
        omega
      · rename_i c
        rw [if_neg c] at q
        omega
  · intro r b hb
    rcases List.mem_append.mp hb with z | z
    · obtain ⟨p, hp, e⟩ := List.mem_map.mp z
      rw [List.mem_range] at hp
      subst e
      exact r.step p (by omega)
    · obtain ⟨x, hx, h⟩ := List.mem_flatMap.mp z
      obtain ⟨i, p⟩ := x
      obtain ⟨h1, h2⟩ := (hz _).mp hx
      simp only at h1 h2
      subst h2
      have q1 := r.lo p h1
      have q2 := r.hi p h1
      simp only [twoB, List.mem_cons, List.not_mem_nil, or_false] at h
      rcases h with e | e
      · subst e
        show nv T row.length + tickOf rec (rowAt row p) ≤ nv T p
        omega
      · subst e
        unfold inH at q2
        show nv T p + -tickOf rec (rowAt row p) ≤ nv T (if ks.contains (evK rec (rowAt row p)) = true then row.length + 1 else row.length)
        split
        · rename_i c
          rw [if_pos c] at q2
          omega
        · rename_i c
          rw [if_neg c] at q2
          omega
theorem bounds_begin {rec : Rec} {ks row : List Nat} : ∀ b ∈ boundsF rec ks row, b.i ≤ row.length := fun b hb => by
  rcases List.mem_append.mp hb with z | z
  · obtain ⟨p, hp, e⟩ := List.mem_map.mp z
    rw [List.mem_range] at hp
    subst e
    show p ≤ _
    omega
  · obtain ⟨x, hx, h⟩ := List.mem_flatMap.mp z
    have h2 := List.mem_zipIdx_iff_getElem?.mp hx
    have h3 := (List.getElem?_eq_some_iff.mp h2).1
    simp only [twoB, List.mem_cons, List.not_mem_nil, or_false] at h
    rcases h with e | e
    · subst e
      exact Nat.le_refl _
    · subst e
      exact Nat.le_of_lt h3
theorem wstep_begin {order : List (Nat × Bool)} {n k : Nat} {d : Bool} {x y : Wst} (hn : n < order.length) (h : ∀ b ∈ x.bounds, b.i ≤ order.length) (s : WStep order n k d x y) : ∀ b ∈ y.bounds, b.i ≤ order.length := by
  cases s with
  | up => exact h
  | plain => exact h
  | turned hd z hz j t hc b ts hl =>
    intro b' hb'
    have hj := choiceF_lt hc
    have hp := pressB_lt (b := b) (t := t) hn (show j < order.length from hj.2)
    rcases List.mem_append.mp hb' with z | z
    · exact h b' z
    · rw [List.mem_singleton.mp z]
      omega
theorem walk_begin {order : List (Nat × Bool)} : ∀ (q : List ((Nat × Bool) × Nat)), (∀ e ∈ q, e.2 < order.length) → ∀ {x y : Wst}, (∀ b ∈ x.bounds, b.i ≤ order.length) → y ∈ wWalk order q [x] → ∀ b ∈ y.bounds, b.i ≤ order.length := fun q => by
  induction q with
  | nil =>
    intro _ x y h hy
    rw [List.mem_singleton.mp hy]
    exact h
  | cons e q ih =>
    intro hq x y h hy
    obtain ⟨z, h1, h2⟩ := wWalk_cons.mp hy
    exact ih (fun e he => hq e (List.mem_cons_of_mem _ he)) (wstep_begin (hq e List.mem_cons_self) h (wayStep_mem.mp h1)) h2
theorem nv_rep {m i : Nat} : nv (List.replicate m 0) i = 0 := by
  unfold nv
  rw [List.getElem?_replicate]
  split <;> rfl
/-- the beginning is at 0 -/
theorem begin_zero {rec : Rec} {ks row : List Nat} {y : Wst} (g : WGood (List.replicate (row.length + 2) 0) y) (hb : ∀ b ∈ y.bounds, b.i ≤ row.length) (hs : ∀ T, Sat y.bounds T → Sat (boundsF rec ks row) T) (ht : ∀ i ∈ row, 0 ≤ tickOf rec i) : nv y.ticks row.length = 0 := by
  have hl : y.ticks.length = row.length + 2 := by rw [← g.ge.1, List.length_replicate]
  have b0 : 0 ≤ nv y.ticks row.length := by
    have := g.ge.2 row.length (by rw [List.length_replicate]; omega)
    rwa [nv_rep] at this
  have lo : ∀ p, p < row.length → nv y.ticks row.length ≤ nv y.ticks p := fun p hp => by
    have q := hs _ g.sat ⟨row.length, p, tickOf rec (rowAt row p)⟩ (List.mem_append_right _ (List.mem_flatMap.mpr ⟨(rowAt row p, p), by
      rw [List.mem_zipIdx_iff_getElem?]
      simp [rowAt, hp], by simp [twoB]⟩))
    simp only at q
    have := ht (rowAt row p) (by simp [rowAt, hp])
    omega
  have key := g.least (y.ticks.mapIdx fun i z => if i ≤ row.length then z - nv y.ticks row.length else z) ⟨by rw [List.length_mapIdx, List.length_replicate, hl], fun i hi => ?_⟩ fun b hb' => ?_
  · have := key.2 row.length (by omega)
    rw [mapIdx_nv (by omega), if_pos (Nat.le_refl _)] at this
    omega
  · rw [List.length_replicate] at hi
    rw [nv_rep, mapIdx_nv (by omega)]
    split
    · rename_i c
      by_cases e : i = row.length
      · subst e
        omega
      · have := lo i (by omega)
        omega
    · have := g.ge.2 i (by rw [List.length_replicate]; exact hi)
      rwa [nv_rep] at this
  · have o := g.ok b hb'
    rw [List.length_replicate] at o
    have s := g.sat b hb'
    have hi := hb b hb'
    rw [mapIdx_nv (by omega), mapIdx_nv (by omega), if_pos hi]
    split <;> omega
/-! the delays of a way -/
theorem del_fold {rec : Rec} {ts : List Int} : ∀ (z : List (Nat × Nat)) (ds : List Int), (z.map (·.1)).Nodup → (∀ x ∈ z, x.1 < ds.length) → ∀ i, (∀ p, (i, p) ∈ z → dAt (z.foldl (delF rec ts) ds) i = nv ts p - tickOf rec i) ∧ (i ∉ z.map (·.1) → dAt (z.foldl (delF rec ts) ds) i = dAt ds i)
  | [], ds, _, _, i => ⟨fun p h => absurd h (by simp), fun _ => rfl⟩
  | x :: z, ds, nd, hl, i => by
    rw [List.map_cons] at nd
    obtain ⟨n1, n2⟩ := List.nodup_cons.mp nd
    have hx := hl x List.mem_cons_self
    have hld : (delF rec ts ds x).length = ds.length := by simp [delF]
    obtain ⟨i1, i2⟩ := del_fold (rec := rec) (ts := ts) z (delF rec ts ds x) n2 (fun y hy => by rw [hld]; exact hl y (List.mem_cons_of_mem _ hy)) i
    have hset : dAt (delF rec ts ds x) i = if i = x.1 then nv ts x.2 - tickOf rec x.1 else dAt ds i := nv_set hx i
    rw [List.foldl_cons]
    refine ⟨fun p hp => ?_, fun hn => ?_⟩
    · rcases List.mem_cons.mp hp with e | hp
      · subst e
        rw [i2 n1, hset, if_pos rfl]
      · exact i1 p hp
    · rw [List.map_cons, List.mem_cons, not_or] at hn
      rw [i2 hn.2, hset, if_neg hn.1]
theorem delaysF_at {rec : Rec} {row : List Nat} {ts : List Int} (nd : row.Nodup) (hl : ∀ i ∈ row, i < row.length) {p : Nat} (hp : p < row.length) : dAt (delaysF rec row ts) (rowAt row p) = nv ts p - tickOf rec (rowAt row p) := by
  have e : row.zipIdx.map (·.1) = row := by
    show row.zipIdx.map Prod.fst = row
    simp
  refine (del_fold row.zipIdx (List.replicate row.length 0) (by rw [e]; exact nd) (fun x hx => ?_) (rowAt row p)).1 p ?_
  · rw [List.length_replicate]
    exact hl x.1 (List.fst_mem_of_mem_zipIdx hx)
  · rw [List.mem_zipIdx_iff_getElem?]
    simp [rowAt, hp]
theorem rec_mono {m : Nat} {rec : Rec} (ok : RecOk m rec) : ∀ {i j : Nat}, i ≤ j → j < rec.length → evT rec i ≤ evT rec j := fun {i j} => by
  intro h hj
  induction j with
  | zero =>
    have e : i = 0 := by omega
    subst e
    exact Int.le_refl _
  | succ j ih =>
    by_cases e : i = j + 1
    · rw [e]
      exact Int.le_refl _
    · refine Int.le_trans (ih (by omega) (by omega)) ?_
      have e2 : rec = rec.take j ++ rec[j] :: rec[j + 1] :: rec.drop (j + 2) := by
        rw [List.getElem_cons_drop, List.getElem_cons_drop, List.take_append_drop]
      have := ok.sort _ _ _ _ e2
      have a1 : evT rec j = rec[j].t := by simp [evT, (show j < rec.length by omega)]
      have a2 : evT rec (j + 1) = rec[j + 1].t := by simp [evT, hj]
      rw [a1, a2]
      exact this
/-- ticks that rise along the row -/
theorem rowT_lex {rec : Rec} {ks row : List Nat} {T : List Int} (r : RowT rec ks row T) (nd : row.Nodup) : ∀ {p q : Nat}, p < q → q < row.length → nv T p < nv T q ∨ (nv T p = nv T q ∧ rowAt row p < rowAt row q) := fun {p q} => by
  intro h hq
  have one : ∀ k, k + 1 < row.length → nv T k < nv T (k + 1) ∨ (nv T k = nv T (k + 1) ∧ rowAt row k < rowAt row (k + 1)) := fun k hk => by
    have s := r.step k hk
    have hne : rowAt row k ≠ rowAt row (k + 1) := by
      intro e
      simp only [rowAt, hk, (show k < row.length by omega), List.getElem?_eq_getElem, Option.getD_some] at e
      have := (List.getElem_inj nd).mp e
      omega
    split at s
    · left; omega
    · omega
  induction q with
  | zero => omega
  | succ q ih =>
    have s1 := one q hq
    by_cases e : p = q
    · rw [e]; exact s1
    · have s2 := ih (by omega) (by omega)
      omega
theorem row_mem {n : Nat} {row : List Nat} (hp : row.Perm (List.range n)) : row.length = n ∧ row.Nodup ∧ (∀ i ∈ row, i < n) ∧ ∀ i, i < n → ∃ p, p < row.length ∧ rowAt row p = i := by
  have hl : row.length = n := by rw [hp.length_eq, List.length_range]
  refine ⟨hl, hp.nodup_iff.mpr List.nodup_range, fun i hi => List.mem_range.mp (hp.mem_iff.mp hi), fun i hi => ?_⟩
  have := hp.mem_iff.mpr (List.mem_range.mpr hi)
  obtain ⟨p, h, e⟩ := List.mem_iff_getElem.mp this
  exact ⟨p, h, by simp [rowAt, h, e]⟩
theorem timed_row {rec : Rec} {row : List Nat} {T : List Int} {dl : List Int} {c : Int} (h : ∀ p, p < row.length → c + nv T p = sAt rec dl (rowAt row p)) : timed c T (row.map (evS rec)) = row.map fun i => ⟨sAt rec dl i, evK rec i, evD rec i⟩ := by
  refine List.ext_getElem? fun p => ?_
  rw [List.getElem?_map]
  cases hp : row[p]? with
  | none =>
    have : (timed c T (row.map (evS rec)))[p]? = none := by
      rw [List.getElem?_eq_none_iff] at hp ⊢
      simpa [timed] using hp
    rw [this]
    rfl
  | some i =>
    have hl := (List.getElem?_eq_some_iff.mp hp).1
    have e : rowAt row p = i := by simp [rowAt, hp]
    rw [timed_at (s := evS rec i) (by rw [List.getElem?_map, hp]; rfl), h p hl, e]
    simp only [Option.map_some, Option.some.injEq, Ev.mk.injEq]
    refine ⟨trivial, ?_, ?_⟩ <;> (unfold evS; simp only [evK, evD]; cases rec[i]? <;> rfl)
theorem arr_mem {l : Lay} {rec : Rec} {ks : List Nat} {a : Arr} : a ∈ arrF l rec ks ↔ ∃ row ts y, row ∈ merged (hereF rec ks) (thereF rec ks) ∧ lift (boundsF rec ks row) (List.replicate (row.length + 2) 0) = some ts ∧ y ∈ wWalk (row.map (evS rec)) (row.map (evS rec)).zipIdx [way0 l rec ks row ts] ∧ a = arrOf rec row y := by
  unfold arrF
  rw [List.mem_flatMap]
  have hw : ∀ row ts, waysF (row.map (evS rec)) (way0 l rec ks row ts) = wWalk (row.map (evS rec)) (row.map (evS rec)).zipIdx [way0 l rec ks row ts] := fun row ts => waysN_walk _ _ _
  constructor
  · rintro ⟨row, h1, h2⟩
    unfold rowF at h2
    split at h2
    · cases h2
    · rename_i ts hts
      obtain ⟨y, h3, e⟩ := List.mem_map.mp h2
      exact ⟨row, ts, y, h1, hts, by rw [← hw]; exact h3, e.symm⟩
  · rintro ⟨row, ts, y, h1, h2, h3, e⟩
    refine ⟨row, h1, ?_⟩
    unfold rowF
    rw [h2]
    exact List.mem_map.mpr ⟨y, by rw [← hw] at h3; exact h3, e.symm⟩
theorem zip_order (order : List (Nat × Bool)) : ∀ e ∈ order.zipIdx, order[e.2]? = some e.1 := fun e he => List.mem_zipIdx_iff_getElem?.mp he
theorem way0_good {l : Lay} {rec : Rec} {ks row : List Nat} {ts : List Int} (h : lift (boundsF rec ks row) (List.replicate (row.length + 2) 0) = some ts) : WGood (List.replicate (row.length + 2) 0) (way0 l rec ks row ts) := by
  have ok : bdsOk (List.replicate (row.length + 2) (0 : Int)).length (boundsF rec ks row) := by
    rw [List.length_replicate]
    exact bounds_ok
  obtain ⟨h1, h2, h3⟩ := lift_sound ok h
  exact ⟨ok, h1, h2, h3⟩
theorem same_flat {l : Lay} {rec : Rec} {ks row : List Nat} {ts : List Int} {y : Wst} {c : Int} {T : List Int} (h : lift (boundsF rec ks row) (List.replicate (row.length + 2) 0) = some ts) (hy : y ∈ wWalk (row.map (evS rec)) (row.map (evS rec)).zipIdx [way0 l rec ks row ts]) (hT : Sat y.bounds T) : y.result.filter (fun o => !isNo o) = flatF l (timed c T (row.map (evS rec))) := by
  have m := walk_same (base := List.replicate (row.length + 2) 0) (c := c) (T := T) (order := row.map (evS rec)) (st := ([], pInit l)) (by rw [List.length_map, List.length_replicate]; omega) _ (zip_order _) (way0_good h) ⟨rfl, rfl⟩ hy hT
  unfold flatF outsF run
  rw [timed_idx, m.r]
/-- each arrival is a record that arrives -/
theorem arr_sound {l : Lay} {m : Nat} {rec : Rec} {ks : List Nat} (hr : RecOk m rec) {a : Arr} (ha : a ∈ arrF l rec ks) : 0 ≤ a.least ∧ (∀ i, i < rec.length → dAt a.del i ≤ a.least) ∧ (∀ far, a.least ≤ far → a.del ∈ delsF ks far rec) ∧ a.outs = flatF l (arrivedF rec a.del) ∧ a.del.length = rec.length := by
  obtain ⟨row, ts, y, h1, h2, h3, rfl⟩ := arr_mem.mp ha
  have hperm := row_perm h1
  obtain ⟨hf1, hf2⟩ := merged_swap_filter h1
  obtain ⟨hl, nd, hlt, hex⟩ := row_mem hperm
  have g0 := way0_good (l := l) h2
  have hq : ∀ e ∈ (row.map (evS rec)).zipIdx, e.2 < (row.map (evS rec)).length := fun e he => (List.getElem?_eq_some_iff.mp (zip_order _ e he)).1
  obtain ⟨g, mono⟩ := walk_good (base := List.replicate (row.length + 2) 0) (order := row.map (evS rec)) (by rw [List.length_map, List.length_replicate]; omega) _ (fun e he => by
    have := hq e he
    rw [List.length_map] at this
    rw [List.length_replicate]
    omega) g0 h3
  have hb : ∀ b ∈ y.bounds, b.i ≤ row.length := fun b hb' => by
    have := walk_begin _ hq (x := way0 l rec ks row ts) (fun b hb => by rw [List.length_map]; exact bounds_begin b hb) h3 b hb'
    rwa [List.length_map] at this
  have tick0 : ∀ i, i < rec.length → 0 ≤ tickOf rec i := fun i hi => by
    have := rec_mono hr (Nat.zero_le i) hi
    unfold tickOf
    omega
  have hz := begin_zero (rec := rec) (ks := ks) g hb mono fun i hi => tick0 i (hlt i hi)
  have rt := (bounds_iff hz).mp (mono _ g.sat)
  have htl : y.ticks.length = row.length + 2 := by rw [← g.ge.1, List.length_replicate]
  have hleast : (arrOf rec row y).least = nv y.ticks (row.length + 1) := by
    unfold arrOf nv
    simp only
    rw [List.getLast?_eq_getElem?, htl]
    rfl
  have l0 : 0 ≤ nv y.ticks (row.length + 1) := by
    have := g.ge.2 (row.length + 1) (by rw [List.length_replicate]; omega)
    rwa [nv_rep] at this
  have hlt2 : ∀ i ∈ row, i < row.length := fun i hi => by rw [hl]; exact hlt i hi
  have hdel : ∀ p, p < row.length → dAt (arrOf rec row y).del (rowAt row p) = nv y.ticks p - tickOf rec (rowAt row p) := fun p hp => delaysF_at nd hlt2 hp
  have hdl : (arrOf rec row y).del.length = rec.length := by
    show (delaysF rec row y.ticks).length = _
    unfold delaysF
    rw [delaysF_len, hl]
  have hs : ∀ p, p < row.length → evT rec 0 + nv y.ticks p = sAt rec (arrOf rec row y).del (rowAt row p) := fun p hp => by
    unfold sAt
    rw [hdel p hp]
    unfold tickOf
    omega
  have hlex : row.Pairwise fun i j => sAt rec (arrOf rec row y).del i < sAt rec (arrOf rec row y).del j ∨ (sAt rec (arrOf rec row y).del i = sAt rec (arrOf rec row y).del j ∧ i ≤ j) := by
    rw [List.pairwise_iff_getElem]
    intro p q hp hq hpq
    have := rowT_lex rt nd hpq hq
    have e1 : row[p] = rowAt row p := by simp [rowAt, hp]
    have e2 : row[q] = rowAt row q := by simp [rowAt, hq]
    rw [e1, e2, ← hs p hp, ← hs q hq]
    omega
  refine ⟨by rw [hleast]; exact l0, fun i hi => ?_, fun far hfar => ?_, ?_, hdl⟩
  · obtain ⟨p, hp, e⟩ := hex i hi
    rw [← e, hdel p hp, hleast]
    have := rt.hi p hp
    split at this <;> omega
  · rw [hleast] at hfar
    rw [dels_iff]
    refine DelOk.of hdl (fun i hi => ?_) fun i j hij hj ki kj => ?_
    · obtain ⟨p, hp, e⟩ := hex i hi
      rw [← e, hdel p hp]
      have h4 := rt.hi p hp
      have h5 := rt.lo p hp
      split
      · rename_i c
        rw [if_pos c] at h4
        omega
      · rename_i c
        rw [if_neg c] at h4
        omega
    · obtain ⟨p, hp, e1⟩ := hex i (by omega)
      obtain ⟨q, hq2, e2⟩ := hex j hj
      have hpq : p < q := by
        refine Classical.byContradiction fun c => ?_
        have hqp : q < p := by
          have : p ≠ q := fun e => by rw [e, e2] at e1; omega
          omega
        have hpw : (row.filter (inH rec ks)).Pairwise (· < ·) := by
          rw [hf1, there_eq]
          exact List.Pairwise.filter _ List.pairwise_lt_range
        rw [List.pairwise_filter, List.pairwise_iff_getElem] at hpw
        have := hpw q p hq2 hp hqp
        have a1 : row[p] = i := by rw [← e1]; simp [rowAt, hp]
        have a2 : row[q] = j := by rw [← e2]; simp [rowAt, hq2]
        rw [a1, a2] at this
        have := this kj ki
        omega
      have := rowT_lex rt nd hpq hq2
      rw [← e1, ← e2, ← hs p hp, ← hs q hq2]
      omega
  · rw [arrived_of hperm hlex, ← timed_row hs]
    exact same_flat h2 h3 g.sat
/-- each record that arrives is an arrival -/
theorem arr_full {l : Lay} (hla : LayOk l) {m : Nat} {rec : Rec} {ks : List Nat} (hr : RecOk m rec) (hk : keysOk l rec) (hz : rec.length ≤ 100) {far : Int} {dl : List Int} (hd : dl ∈ delsF ks far rec) {M : Int} (h0 : 0 ≤ M) (hM : ∀ i, i < rec.length → dAt dl i ≤ M) : ∃ a ∈ arrF l rec ks, a.outs = flatF l (arrivedF rec dl) ∧ a.least ≤ M := by
  have ok := dels_iff.mp hd
  have hnn : ∀ i, i < rec.length → 0 ≤ dAt dl i := fun i hi => by
    have := ok.at1 hi
    split at this <;> omega
  -- the row
  obtain ⟨row, hperm, hsort⟩ : ∃ row : List Nat, row.Perm (List.range rec.length) ∧ row.Pairwise fun i j => sAt rec dl i < sAt rec dl j ∨ (sAt rec dl i = sAt rec dl j ∧ i ≤ j) := by
    obtain ⟨h1, h2⟩ := sortKI_spec (keyed rec dl)
    have hk1 : ∀ x ∈ sortKI (keyed rec dl), x.1 = sAt rec dl x.2 := fun x hx => by
      have := h1.mem_iff.mp hx
      unfold keyed at this
      obtain ⟨i, _, e⟩ := List.mem_map.mp this
      rw [← e]
      rfl
    refine ⟨(sortKI (keyed rec dl)).map (·.2), ?_, ?_⟩
    · have e : (keyed rec dl).map (·.2) = List.range rec.length := by
        unfold keyed
        rw [List.map_map]
        exact List.map_id' _
      rw [← e]
      exact h1.map _
    · rw [List.pairwise_map]
      refine List.Pairwise.imp_of_mem (fun {x y} hx hy h => ?_) h2
      rw [leKI_iff] at h
      rw [← hk1 x hx, ← hk1 y hy]
      exact h
  obtain ⟨hl, nd, hlt, hex⟩ := row_mem hperm
  have same : ∀ p : Nat → Bool, (∀ i j, i < j → j < rec.length → p i = true → p j = true → sAt rec dl i ≤ sAt rec dl j) → row.filter p = (List.range rec.length).filter p := fun p hp => by
    refine pairwise_uniq (le := fun i j => sAt rec dl i < sAt rec dl j ∨ (sAt rec dl i = sAt rec dl j ∧ i ≤ j)) (fun x y a b => by omega) (hperm.filter p) (hsort.filter p) ?_
    rw [List.pairwise_filter, List.pairwise_iff_getElem]
    intro i j hi hj hij ki kj
    rw [List.length_range] at hi hj
    rw [List.getElem_range] at *
    rw [List.getElem_range] at *
    have := hp i j hij hj ki kj
    omega
  have hrow : row ∈ merged (hereF rec ks) (thereF rec ks) := by
    refine row_of ?_ ?_
    · rw [there_eq]
      exact same _ fun i j hij hj ki kj => ok.at2 hij hj ki kj
    · rw [here_eq]
      refine same _ fun i j hij hj ki kj => ?_
      have a1 := ok.at1 (i := i) (by omega)
      have a2 := ok.at1 hj
      simp only [Bool.not_eq_true'] at ki kj
      rw [if_neg (by rw [ki]; decide)] at a1
      rw [if_neg (by rw [kj]; decide)] at a2
      have := rec_mono hr (Nat.le_of_lt hij) hj
      unfold sAt
      omega
  -- its ticks
  let T : List Int := row.map (fun i => sAt rec dl i - evT rec 0) ++ [0, M]
  have hTl : T.length = row.length + 2 := by simp [T]
  have hT1 : ∀ p, p < row.length → nv T p = sAt rec dl (rowAt row p) - evT rec 0 := fun p hp => by
    unfold nv
    simp only [T]
    rw [List.getElem?_append_left (by rw [List.length_map]; exact hp), List.getElem?_map]
    simp [rowAt, hp]
  have hT2 : nv T row.length = 0 := by
    unfold nv
    simp only [T]
    rw [List.getElem?_append_right (by rw [List.length_map]; omega)]
    simp
  have hT3 : nv T (row.length + 1) = M := by
    unfold nv
    simp only [T]
    rw [List.getElem?_append_right (by rw [List.length_map]; omega)]
    simp
  have hin : ∀ p, p < row.length → rowAt row p < rec.length := fun p hp => hlt _ (by simp [rowAt, hp])
  have rt : RowT rec ks row T := by
    refine ⟨fun p hp => ?_, fun p hp => ?_, fun p hp => ?_⟩
    · have q := List.pairwise_iff_getElem.mp hsort p (p + 1) (by omega) hp (by omega)
      have e1 : row[p] = rowAt row p := by simp [rowAt, (show p < row.length by omega)]
      have e2 : row[p + 1] = rowAt row (p + 1) := by simp [rowAt, hp]
      rw [e1, e2] at q
      rw [hT1 p (by omega), hT1 (p + 1) hp]
      split <;> omega
    · have := hnn _ (hin p hp)
      rw [hT1 p hp]
      unfold tickOf sAt
      omega
    · have a1 := ok.at1 (hin p hp)
      have a2 := hM _ (hin p hp)
      rw [hT1 p hp, hT3]
      unfold tickOf sAt
      split
      · omega
      · rename_i c
        rw [if_neg c] at a1
        omega
  have hsat := (bounds_iff (ks := ks) hT2).mpr rt
  have hge : Lq (List.replicate (row.length + 2) 0) T := by
    refine ⟨by rw [List.length_replicate, hTl], fun i hi => ?_⟩
    rw [List.length_replicate] at hi
    rw [nv_rep]
    by_cases c : i < row.length
    · have := hnn _ (hin i c)
      have h2 := rec_mono hr (Nat.zero_le (rowAt row i)) (hin i c)
      rw [hT1 i c]
      unfold sAt
      omega
    · by_cases c2 : i = row.length
      · rw [c2, hT2]
        exact Int.le_refl _
      · have e : i = row.length + 1 := by omega
        rw [e, hT3]
        exact h0
  obtain ⟨ts, hts⟩ := lift_some (bs := boundsF rec ks row) (xs := List.replicate (row.length + 2) 0) (by rw [List.length_replicate]; exact bounds_ok) hge hsat
  have g0 := way0_good (l := l) hts
  have htl : ts.length = row.length + 2 := by
    have := g0.ge.1
    rw [List.length_replicate] at this
    exact this.symm
  have ok2 : RowOk rec row := row_ok hrow
  have wo := way0_ok hla (rec := rec) (ks := ks) (row := row) (ts := ts) (by omega) htl
  have hwl : (List.replicate (row.length + 2) (0 : Int)).length = row.length + 2 := List.length_replicate
  obtain ⟨y, hy, hTy⟩ := walk_full (l := l) (base := List.replicate (row.length + 2) 0) (T := T) (order := row.map (evS rec)) (evS_key hk ok2) (by rw [List.length_map, hwl]; omega) _ (zip_order _) (x := way0 l rec ks row ts) (s := 0) (by rw [hwl]; exact wo) g0 hge hsat
  refine ⟨arrOf rec row y, arr_mem.mpr ⟨row, ts, y, hrow, hts, hy, rfl⟩, ?_, ?_⟩
  · have hs : ∀ p, p < row.length → evT rec 0 + nv T p = sAt rec dl (rowAt row p) := fun p hp => by
      rw [hT1 p hp]
      omega
    rw [arrived_of hperm hsort, ← timed_row hs]
    exact same_flat hts hy hTy
  · obtain ⟨g, _⟩ := walk_good (base := List.replicate (row.length + 2) 0) (order := row.map (evS rec)) (by rw [List.length_map, hwl]; omega) _ (fun e he => by
      have := (List.getElem?_eq_some_iff.mp (zip_order _ e he)).1
      rw [List.length_map] at this
      rw [hwl]
      omega) g0 hy
    have hyl : y.ticks.length = row.length + 2 := by rw [← g.ge.1, hwl]
    have hleast : (arrOf rec row y).least = nv y.ticks (row.length + 1) := by
      unfold arrOf nv
      simp only
      rw [List.getLast?_eq_getElem?, hyl]
      rfl
    rw [hleast, ← hT3]
    exact (g.least T hge hTy).2 _ (by omega)
end HT2
set_option maxRecDepth 100000
set_option maxHeartbeats 4000000
namespace HT2
open PySem PySem.Spec PyProof.Rows L2 StX PL
/-! ### records that arrive are records; few arrivals -/
theorem row_exists {m : Nat} {rec : Rec} {ks : List Nat} (hr : RecOk m rec) {far : Int} {dl : List Int} (hd : dl ∈ delsF ks far rec) : ∃ row ∈ merged (hereF rec ks) (thereF rec ks), arrivedF rec dl = (row.map fun i => ⟨sAt rec dl i, evK rec i, evD rec i⟩) ∧ row.Pairwise fun i j => sAt rec dl i ≤ sAt rec dl j := by
  have ok := dels_iff.mp hd
  obtain ⟨row, hperm, hsort⟩ : ∃ row : List Nat, row.Perm (List.range rec.length) ∧ row.Pairwise fun i j => sAt rec dl i < sAt rec dl j ∨ (sAt rec dl i = sAt rec dl j ∧ i ≤ j) := by
    obtain ⟨h1, h2⟩ := sortKI_spec (keyed rec dl)
    have hk1 : ∀ x ∈ sortKI (keyed rec dl), x.1 = sAt rec dl x.2 := fun x hx => by
      have := h1.mem_iff.mp hx
      unfold keyed at this
      obtain ⟨i, _, e⟩ := List.mem_map.mp this
      rw [← e]
      rfl
    refine ⟨(sortKI (keyed rec dl)).map (·.2), ?_, ?_⟩
    · have e : (keyed rec dl).map (·.2) = List.range rec.length := by
        unfold keyed
        rw [List.map_map]
        exact List.map_id' _
      rw [← e]
      exact h1.map _
    · rw [List.pairwise_map]
      refine List.Pairwise.imp_of_mem (fun {x y} hx hy h => ?_) h2
      rw [leKI_iff] at h
      rw [← hk1 x hx, ← hk1 y hy]
      exact h
  have same : ∀ p : Nat → Bool, (∀ i j, i < j → j < rec.length → p i = true → p j = true → sAt rec dl i ≤ sAt rec dl j) → row.filter p = (List.range rec.length).filter p := fun p hp => by
    refine pairwise_uniq (le := fun i j => sAt rec dl i < sAt rec dl j ∨ (sAt rec dl i = sAt rec dl j ∧ i ≤ j)) (fun x y a b => by omega) (hperm.filter p) (hsort.filter p) ?_
    rw [List.pairwise_filter, List.pairwise_iff_getElem]
    intro i j hi hj hij ki kj
    rw [List.length_range] at hi hj
    rw [List.getElem_range] at *
    rw [List.getElem_range] at *
    have := hp i j hij hj ki kj
    omega
  refine ⟨row, row_of ?_ ?_, arrived_of hperm hsort, hsort.imp fun {i j} h => by omega⟩
  · rw [there_eq]
    exact same _ fun i j hij hj ki kj => ok.at2 hij hj ki kj
  · rw [here_eq]
    refine same _ fun i j hij hj ki kj => ?_
    have a1 := ok.at1 (i := i) (by omega)
    have a2 := ok.at1 hj
    simp only [Bool.not_eq_true'] at ki kj
    rw [if_neg (by rw [ki]; decide)] at a1
    rw [if_neg (by rw [kj]; decide)] at a2
    have := rec_mono hr (Nat.le_of_lt hij) hj
    unfold sAt
    omega
/-- a merged row keeps the events of each key in order -/
theorem row_key {rec : Rec} {ks row : List Nat} (h : row ∈ merged (hereF rec ks) (thereF rec ks)) (k : Nat) : (row.filter fun i => evK rec i == k) = (List.range rec.length).filter fun i => evK rec i == k := by
  obtain ⟨h1, h2⟩ := merged_swap_filter h
  have gen : ∀ (q : Nat → Bool) (xs : List Nat), (∀ i, (evK rec i == k) = true → q i = true) → (xs.filter q).filter (fun i => evK rec i == k) = xs.filter fun i => evK rec i == k := fun q xs hq => by
    rw [List.filter_filter]
    refine List.filter_congr fun i _ => ?_
    cases e : evK rec i == k with
    | false => rfl
    | true => simp [hq i e]
  cases hk : ks.contains k with
  | true =>
    have hq : ∀ i, (evK rec i == k) = true → inH rec ks i = true := fun i hi => by
      unfold inH
      rw [eq_of_beq hi]
      exact hk
    rw [← gen _ row hq, ← gen _ (List.range rec.length) hq, h1, there_eq]
  | false =>
    have hq : ∀ i, (evK rec i == k) = true → (fun i => !inH rec ks i) i = true := fun i hi => by
      show (!inH rec ks i) = true
      unfold inH
      rw [eq_of_beq hi, hk]
      rfl
    rw [← gen _ row hq, ← gen _ (List.range rec.length) hq, h2, here_eq]
def heldK (k : Nat) (p : List (Nat × Bool)) (b : Bool) : Bool := p.foldl (fun b s => if s.1 = k then s.2 else b) b
theorem held_iff (k : Nat) : ∀ (p : List (Nat × Bool)) (h : List Nat), k ∈ p.foldl heldF h ↔ heldK k p (h.contains k) = true
  | [], h => by simp [heldK]
  | s :: p, h => by
    rw [List.foldl_cons, held_iff k p]
    unfold heldK
    rw [List.foldl_cons]
    have e : (heldF h s).contains k = if s.1 = k then s.2 else h.contains k := by
      rw [Bool.eq_iff_iff]
      unfold heldF
      cases s.2 with
      | true =>
        simp
        constructor
        · rintro (z | z)
          · exact Or.inr z
          · exact Or.inl z.symm
        · rintro (z | z)
          · exact Or.inr z.symm
          · exact Or.inl z
      | false =>
        simp
        constructor
        · rintro ⟨a, b⟩
          exact ⟨fun q => b q.symm, a⟩
        · rintro ⟨a, b⟩
          exact ⟨b, fun q => a q.symm⟩
    rw [e]
theorem heldK_filter (k : Nat) : ∀ (p : List (Nat × Bool)) (b : Bool), heldK k (p.filter fun s => s.1 == k) b = heldK k p b
  | [], b => rfl
  | s :: p, b => by
    by_cases h : s.1 = k
    · rw [List.filter_cons_of_pos (by simpa using h)]
      unfold heldK
      rw [List.foldl_cons, List.foldl_cons]
      exact heldK_filter k p _
    · rw [List.filter_cons_of_neg (by simpa using h)]
      unfold heldK
      rw [List.foldl_cons, if_neg h]
      exact heldK_filter k p b
theorem steps_same {m : Nat} {xs ys : List (Nat × Bool)} (ok : StepsOk m xs) (h : ∀ k, (ys.filter fun s => s.1 == k) = xs.filter fun s => s.1 == k) : StepsOk m ys := fun p x q e => by
  have h1 := h x.1
  rw [e, List.filter_append, List.filter_cons_of_pos (by simp)] at h1
  obtain ⟨l1, l2, e1, f1, f2⟩ := List.filter_eq_append_iff.mp h1.symm
  obtain ⟨l3, l4, e2, f3, f4, f5⟩ := List.filter_eq_cons_iff.mp f2
  have st := ok (l1 ++ l3) x l4 (by rw [e1, e2, List.append_assoc])
  refine ⟨st.1, ?_⟩
  rw [st.2, held_iff, held_iff, ← heldK_filter x.1 p, ← heldK_filter x.1 (l1 ++ l3), List.filter_append, f1]
  have z : (l3.filter fun s => s.1 == x.1) = [] := List.filter_eq_nil_iff.mpr f3
  rw [z, List.append_nil]
theorem rec_steps (rec : Rec) : (List.range rec.length).map (evS rec) = rec.map Ev.s := by
  refine List.ext_getElem? fun n => ?_
  rw [List.getElem?_map, List.getElem?_map]
  by_cases h : n < rec.length
  · rw [List.getElem?_range h, List.getElem?_eq_getElem h]
    simp [evS, h]
  · rw [List.getElem?_eq_none (by rw [List.length_range]; omega), List.getElem?_eq_none (by omega)]
    rfl
theorem evS_eq (rec : Rec) (i : Nat) : evS rec i = (evK rec i, evD rec i) := by
  unfold evS evK evD
  cases rec[i]? <;> rfl
theorem row_steps {m : Nat} {rec : Rec} {ks row : List Nat} (ok : StepsOk m (rec.map Ev.s)) (h : row ∈ merged (hereF rec ks) (thereF rec ks)) : StepsOk m (row.map (evS rec)) := by
  rw [← rec_steps] at ok
  refine steps_same ok fun k => ?_
  rw [List.filter_map, List.filter_map]
  have e : ((fun s : Nat × Bool => s.1 == k) ∘ evS rec) = fun i => evK rec i == k := by
    funext i
    simp [evS_eq]
  rw [e, row_key h k]
theorem arrived_ok {m : Nat} {rec : Rec} {ks : List Nat} (hr : RecOk m rec) {far : Int} {dl : List Int} (hd : dl ∈ delsF ks far rec) : RecOk m (arrivedF rec dl) ∧ (arrivedF rec dl).length = rec.length := by
  obtain ⟨row, h1, h2, h3⟩ := row_exists hr hd
  have hl : (arrivedF rec dl).length = rec.length := by
    rw [h2, List.length_map, (row_perm h1).length_eq, List.length_range]
  refine ⟨⟨by rw [hl]; exact hr.len, fun p x y q e => ?_, ?_⟩, hl⟩
  · have hp : (arrivedF rec dl).Pairwise fun x y => x.t ≤ y.t := by
      rw [h2, List.pairwise_map]
      exact h3
    rw [e, List.pairwise_append] at hp
    have := (List.pairwise_cons.mp hp.2.1).1 y List.mem_cons_self
    exact this
  · have e : (arrivedF rec dl).map Ev.s = row.map (evS rec) := by
      rw [h2, List.map_map]
      refine List.map_congr_left fun i _ => ?_
      rw [evS_eq]
      rfl
    rw [e]
    exact row_steps hr.steps h1
/-! counting -/
def cMer : Nat → Nat → Nat
  | 0, _ => 1
  | _ + 1, 0 => 1
  | a + 1, b + 1 => cMer a (b + 1) + cMer (a + 1) b
termination_by a b => a + b
theorem merged_cnt : ∀ (n : Nat) (xs ys : List Nat), xs.length + ys.length ≤ n → (merged xs ys).length = cMer xs.length ys.length := fun n => by
  induction n with
  | zero =>
    intro xs ys h
    have e1 : xs = [] := List.length_eq_zero_iff.mp (by omega)
    subst e1
    simp [merged, cMer]
  | succ n ih =>
    intro xs ys h
    match xs, ys with
    | [], ys => simp [merged, cMer]
    | x :: xs, [] => simp [merged, cMer]
    | x :: xs, y :: ys =>
      have h1 := ih xs (y :: ys) (by simp at h ⊢; omega)
      have h2 := ih (x :: xs) ys (by simp at h ⊢; omega)
      rw [merged, List.length_append, List.length_map, List.length_map, h1, h2, List.length_cons, List.length_cons, cMer]
theorem cMer_small : ∀ a, a ≤ 5 → ∀ b, a + b ≤ 5 → cMer a b ≤ 10 := by
  intro a ha b hb
  have ha' : a = 0 ∨ a = 1 ∨ a = 2 ∨ a = 3 ∨ a = 4 ∨ a = 5 := by omega
  have hb' : b = 0 ∨ b = 1 ∨ b = 2 ∨ b = 3 ∨ b = 4 ∨ b = 5 := by omega
  rcases ha' with rfl | rfl | rfl | rfl | rfl | rfl <;> rcases hb' with rfl | rfl | rfl | rfl | rfl | rfl <;> first | omega | (simp [cMer])
def askP (order : List (Nat × Bool)) (e : (Nat × Bool) × Nat) : Bool := e.1.2 && (order.drop (e.2 + 1)).any fun s => s.1 == e.1.1
theorem wayStep_ask {order : List (Nat × Bool)} {e : (Nat × Bool) × Nat} (he : order[e.2]? = some e.1) (x : Wst) : (wayStep order e.2 e.1.1 e.1.2 x).length ≤ if askP order e = true then 2 else 1 := by
  unfold wayStep
  split
  · rename_i hd
    split
    · rename_i z hz
      split
      · split <;> simp
      · rename_i c hc
        have ha : askP order e = true := by
          unfold askP
          rw [hd, Bool.true_and, List.any_eq_true]
          obtain ⟨j, t⟩ := c
          obtain ⟨h1, h2⟩ := choiceF_lt hc
          simp only at h1 h2
          have hk : order[j].1 = e.1.1 := by
            cases ha : z.2 with
            | dual cd hh t' r =>
              rw [ha] at hc
              unfold choiceF at hc
              simp only at hc
              split at hc
              · cases hc
              · rename_i j' hj'
                obtain ⟨_, h4⟩ := decider_lt hj'
                rw [List.getElem?_eq_getElem h4, he] at hc
                simp only at hc
                split at hc
                · rename_i c
                  cases hc
                  exact c
                · cases hc
            | _ => rw [ha] at hc; cases hc
          refine ⟨order[j], ?_, by simpa using hk⟩
          rw [List.mem_iff_getElem?]
          exact ⟨j - (e.2 + 1), by rw [List.getElem?_drop, show e.2 + 1 + (j - (e.2 + 1)) = j by omega, List.getElem?_eq_getElem h2]⟩
        rw [if_pos ha]
        exact List.length_filterMap_le _ _
    · simp
  · split <;> simp
theorem walk_cnt {order : List (Nat × Bool)} : ∀ (q : List ((Nat × Bool) × Nat)), (∀ e ∈ q, order[e.2]? = some e.1) → ∀ ws : List Wst, (wWalk order q ws).length ≤ 2 ^ q.countP (askP order) * ws.length
  | [], _, ws => by simp [wWalk]
  | e :: q, h, ws => by
    have ih := walk_cnt q (fun e' he => h e' (List.mem_cons_of_mem _ he)) (ws.flatMap (wayStep order e.2 e.1.1 e.1.2))
    have he := h e List.mem_cons_self
    have h2 : ∀ vs : List Wst, (vs.flatMap (wayStep order e.2 e.1.1 e.1.2)).length ≤ (if askP order e = true then 2 else 1) * vs.length := fun vs => by
      induction vs with
      | nil => simp
      | cons v vs ihv =>
        have := wayStep_ask he v
        rw [List.flatMap_cons, List.length_append, List.length_cons, Nat.mul_succ]
        omega
    have h3 := h2 ws
    rw [List.countP_cons]
    show (wWalk order q (ws.flatMap (wayStep order e.2 e.1.1 e.1.2))).length ≤ _
    refine Nat.le_trans ih ?_
    refine Nat.le_trans (Nat.mul_le_mul_left _ h3) ?_
    split
    · rw [Nat.pow_succ, Nat.mul_assoc]
      exact Nat.le_refl _
    · rw [Nat.one_mul]
      exact Nat.le_refl _
def askN : List (Nat × Bool) → Nat
  | [] => 0
  | x :: q => (if (x.2 && q.any fun s => s.1 == x.1) = true then 1 else 0) + askN q
theorem ask_cnt : ∀ (q p : List (Nat × Bool)), (q.zipIdx p.length).countP (askP (p ++ q)) = askN q
  | [], p => rfl
  | x :: q, p => by
    have ih := ask_cnt q (p ++ [x])
    rw [List.length_append, List.length_singleton, List.append_assoc] at ih
    rw [List.zipIdx_cons, List.countP_cons]
    have e : askP (p ++ x :: q) (x, p.length) = (x.2 && q.any fun s => s.1 == x.1) := by
      unfold askP
      have : (p ++ x :: q).drop (p.length + 1) = q := by
        simp [List.drop_append]
      simp only [this]
    rw [e]
    unfold askN
    have ih' : (q.zipIdx (p.length + 1)).countP (askP (p ++ x :: q)) = askN q := ih
    rw [ih', Nat.add_comm]
theorem cnt_split (P : Nat → Bool) (a : Nat) : ∀ h : List Nat, h.Nodup → h.countP (fun k => k == a || P k) ≤ 1 + (h.filter fun k => decide (k ≠ a)).countP P
  | [], _ => by simp
  | k :: h, nd => by
    obtain ⟨n1, n2⟩ := List.nodup_cons.mp nd
    have ih := cnt_split P a h n2
    by_cases e : k = a
    · subst e
      have e1 : h.countP (fun j => j == k || P j) = h.countP P := List.countP_congr fun j hj => by
        have : j ≠ k := fun z => n1 (z ▸ hj)
        simp [this]
      have e2 : (h.filter fun j => decide (j ≠ k)) = h := List.filter_eq_self.mpr fun j hj => by
        have : j ≠ k := fun z => n1 (z ▸ hj)
        simpa using this
      rw [List.countP_cons, e1, List.filter_cons_of_neg (by simp), e2]
      simp
      omega
    · rw [List.countP_cons, List.filter_cons_of_pos (by simpa using e), List.countP_cons]
      have : (k == a || P k) = P k := by simp [e]
      rw [this]
      omega
theorem ask_ups {m : Nat} : ∀ (q : List (Nat × Bool)) (h : List Nat), h.Nodup → (∀ p x r, q = p ++ x :: r → stepOk m (p.foldl heldF h) x) → askN q + h.countP (fun k => q.any fun s => s.1 == k) ≤ q.countP fun s => !s.2
  | [], h, _, _ => by
    have : h.countP (fun k => ([] : List (Nat × Bool)).any fun s => s.1 == k) = 0 := List.countP_eq_zero.mpr fun k _ => by simp
    rw [this]
    simp [askN]
  | x :: q, h, nd, ok => by
    have o1 := ok [] x q rfl
    have ok2 : ∀ p y r, q = p ++ y :: r → stepOk m (p.foldl heldF (heldF h x)) y := fun p y r e => ok (x :: p) y r (by rw [e]; rfl)
    obtain ⟨_, o2⟩ := o1
    simp only [List.foldl_nil] at o2
    cases hx : x.2 with
    | true =>
      have hn : x.1 ∉ h := o2.mp hx
      have e1 : heldF h x = h ++ [x.1] := by simp [heldF, hx]
      rw [e1] at ok2
      have ih := ask_ups q (h ++ [x.1]) (by
        rw [List.nodup_append]
        exact ⟨nd, by simp, fun a ha b hb => by rw [List.mem_singleton.mp hb]; exact fun z => hn (z ▸ ha)⟩) ok2
      rw [List.countP_append] at ih
      have e2 : h.countP (fun k => (x :: q).any fun s => s.1 == k) = h.countP (fun k => q.any fun s => s.1 == k) := List.countP_congr fun k hk => by
        have : x.1 ≠ k := fun z => hn (z ▸ hk)
        simp [this]
      have e3 : [x.1].countP (fun k => q.any fun s => s.1 == k) = if (q.any fun s => s.1 == x.1) = true then 1 else 0 := by
        rw [List.countP_cons, List.countP_nil, Nat.zero_add]
      rw [e3] at ih
      rw [e2, List.countP_cons]
      unfold askN
      rw [hx, Bool.true_and]
      simp only [Bool.not_true, Bool.false_eq_true, if_false]
      omega
    | false =>
      have hn : x.1 ∈ h := Classical.byContradiction fun c => by
        have := o2.mpr c
        rw [hx] at this
        cases this
      have e1 : heldF h x = h.filter fun k => decide (k ≠ x.1) := by simp [heldF, hx]
      rw [e1] at ok2
      have ih := ask_ups q _ (nd.sublist List.filter_sublist) ok2
      have c1 := cnt_split (fun k => q.any fun s => s.1 == k) x.1 h nd
      have e2 : h.countP (fun k => (x :: q).any fun s => s.1 == k) = h.countP (fun k => k == x.1 || q.any fun s => s.1 == k) := List.countP_congr fun k hk => by
        rw [List.any_cons]
        have : (x.1 == k) = (k == x.1) := by rw [Bool.eq_iff_iff, beq_iff_eq, beq_iff_eq]; exact eq_comm
        rw [this]
      rw [e2, List.countP_cons]
      unfold askN
      simp only [hx, Bool.false_and, Bool.false_eq_true, if_false, Bool.not_false, if_true]
      omega
theorem ask_downs : ∀ q : List (Nat × Bool), askN q ≤ q.countP fun s => s.2
  | [] => Nat.le_refl _
  | x :: q => by
    have ih := ask_downs q
    rw [List.countP_cons]
    unfold askN
    cases x.2 with
    | true => simp; split <;> omega
    | false => simp; exact ih
theorem ask_small {m : Nat} {order : List (Nat × Bool)} (ok : StepsOk m order) (hl : order.length ≤ 5) : order.zipIdx.countP (askP order) ≤ 2 := by
  have e := ask_cnt order []
  rw [List.nil_append, List.length_nil] at e
  rw [e]
  have h1 := ask_ups order [] List.nodup_nil ok
  have h2 := ask_downs order
  have h3 : order.length = order.countP (fun s => s.2) + order.countP (fun s => !s.2) := by
    have := List.length_eq_countP_add_countP (l := order) (fun s : Nat × Bool => s.2)
    simpa using this
  rw [List.countP_nil] at h1
  omega
theorem arr_few {l : Lay} {m : Nat} {rec : Rec} {ks : List Nat} (hr : RecOk m rec) (hz : rec.length ≤ 5) : (arrF l rec ks).length ≤ 40 := by
  have hhl := half_len rec ks
  have h1 : (merged (hereF rec ks) (thereF rec ks)).length ≤ 10 := by
    rw [merged_cnt _ _ _ (Nat.le_refl _)]
    exact cMer_small _ (by omega) _ (by omega)
  have h2 : ∀ row ∈ merged (hereF rec ks) (thereF rec ks), (rowF l rec ks row).length ≤ 4 := fun row hrow => by
    unfold rowF
    split
    · simp
    · rename_i ts hts
      rw [List.length_map]
      have ew : waysF (row.map (evS rec)) (way0 l rec ks row ts) = wWalk (row.map (evS rec)) (row.map (evS rec)).zipIdx [way0 l rec ks row ts] := waysN_walk _ _ _
      have h3 := walk_cnt (order := row.map (evS rec)) _ (zip_order _) [way0 l rec ks row ts]
      have h4 := ask_small (row_steps hr.steps hrow) (by rw [List.length_map, (row_perm hrow).length_eq, List.length_range]; exact hz)
      have h5 : 2 ^ ((row.map (evS rec)).zipIdx.countP (askP (row.map (evS rec)))) ≤ 2 ^ 2 := Nat.pow_le_pow_right (by decide) h4
      rw [← ew] at h3
      simp only [List.length_singleton, Nat.mul_one] at h3
      exact Nat.le_trans h3 h5
  unfold arrF
  have h4 : ∀ q : List (List Nat), (∀ r ∈ q, (rowF l rec ks r).length ≤ 4) → (q.flatMap (rowF l rec ks)).length ≤ 4 * q.length := fun q => by
    induction q with
    | nil => intro _; simp
    | cons v vs ihv =>
      intro hv
      have a1 := ihv fun r hr => hv r (List.mem_cons_of_mem _ hr)
      have a2 := hv v List.mem_cons_self
      rw [List.flatMap_cons, List.length_append, List.length_cons]
      omega
  have := h4 _ h2
  omega
end HT2
set_option maxRecDepth 100000
set_option maxHeartbeats 4000000
namespace HT2
open PySem PySem.Spec PyProof.Rows L2 StX PL SN
variable {P : Program} {w : World} {K : PySem.W.Frag} {mg : Str → Option Value} {base : Heap}
theorem sc_pre {α : Type} {β : AG} {τt : AT} {τe : AE} {vs : List Nat} {ds : List PyData} {Γ : Ga} {P : En → Ga → Prop} (xs : List α) (enc : α → PyData) (I : List α → List PyData → Ga → Prop) (hd : ds = xs.map enc) (h0 : I [] [] (wipeG Γ vs))
    (turn : ∀ p x q acc Γ2, xs = p ++ x :: q → I p acc Γ2 → β (.sh (enc x)) Γ2 fun Γ3 => τt Γ3 fun b Γ4 => if b = true then τe Γ4 fun r Γ5 => ∃ xs, r = .sh (.tuple xs) ∧ okN (.tuple xs) = true ∧ (PyData.tuple xs).depth ≤ 8 ∧ acc.length + 1 < 64 ∧ (.tuple xs ∈ acc → I (p ++ [x]) acc (wipeG Γ5 vs)) ∧ (.tuple xs ∉ acc → I (p ++ [x]) (acc ++ [.tuple xs]) (wipeG Γ5 vs)) else I (p ++ [x]) acc (wipeG Γ4 vs))
    (done : ∀ acc Γ2, I xs acc Γ2 → P (.ow (setOw w acc)) (wipeG Γ2 vs)) : scB w β τt τe vs ds Γ P := by
  subst hd
  refine ⟨fun i acc Γ2 => I (xs.take i) acc Γ2, h0, ?_, ?_⟩
  · intro i d acc Γ2 hd iv
    rw [List.getElem?_map] at hd
    obtain ⟨x, hx, rfl⟩ := Option.map_eq_some_iff.mp hd
    obtain ⟨e1, et⟩ := take_at hx
    have q := turn _ x _ acc Γ2 e1 iv
    rw [← et] at q
    exact q
  · intro acc Γ2 iv
    rw [List.length_map, List.take_length] at iv
    exact done acc Γ2 iv
def dTu (o : List Out) : PyData := .tuple (o.map dOut)
def dOs (o : List Out) : PyData := .list (o.map dOut)
theorem dOut_inj {a b : Out} (h : dOut a = dOut b) : a = b := by
  cases a <;> cases b <;> simp at h <;> first | rfl | (rw [h])
theorem dOuts_inj {xs ys : List Out} (h : xs.map dOut = ys.map dOut) : xs = ys := List.map_inj_right (fun _ _ => dOut_inj) |>.mp h
theorem dTu_inj {a b : List Out} (h : dTu a = dTu b) : a = b := by
  unfold dTu at h
  exact dOuts_inj (PyData.tuple.inj h)
theorem okN_out (o : Out) : okN (dOut o) = true := by cases o <;> simp [okN, okAllN]
theorem okN_outs (xs : List Out) : okAllN (xs.map dOut) = true := by
  induction xs with
  | nil => rfl
  | cons x xs ih => rw [List.map_cons, okAllN, okN_out, ih]; rfl
theorem dp_outs (xs : List Out) : PyData.depthAll (xs.map dOut) ≤ 1 := by
  induction xs with
  | nil => simp
  | cons x xs ih =>
    have h3 : (dOut x).depth ≤ 1 := by cases x <;> simp
    rw [List.map_cons, dp_cons]
    exact Nat.max_le.mpr ⟨h3, ih⟩
theorem alike_out (a b : Out) : PySem.W.alike (dOut a) (dOut b) = true := by
  cases a <;> cases b <;> simp [PySem.W.alike, PySem.W.alikeAll]
theorem alike_outs : ∀ (xs ys : List Out), PySem.W.alikeAll (xs.map dOut) (ys.map dOut) = true
  | [], _ => by rw [List.map_nil, PySem.W.alikeAll]
  | _ :: _, [] => by rw [List.map_nil, List.map_cons, PySem.W.alikeAll]
  | x :: xs, y :: ys => by
    rw [List.map_cons, List.map_cons, PySem.W.alikeAll, alike_out, alike_outs xs ys]
    rfl
theorem alike_tus (L : List (List Out)) : PySem.W.AllAlike (L.map dTu) := fun d hd d' hd' => by
  obtain ⟨a, _, rfl⟩ := List.mem_map.mp hd
  obtain ⟨b, _, rfl⟩ := List.mem_map.mp hd'
  unfold dTu
  rw [PySem.W.alike]
  exact alike_outs a b
def R_late_results : List PyData → (PyData → Prop) → Prop := fun ds P => ∃ (l : Lay) (rec : Rec) (ks : List Nat) (late : Int), ds = [dLay l, dRec rec, dNats ks, .int late] ∧ ArgOk l rec ks late ∧ (arrF l rec ks).length < 63 ∧
  ∀ L : List (List Out), L.Nodup → (∀ o, o ∈ L ↔ ∃ a ∈ arrF l rec ks, a.least ≤ late ∧ a.outs = o) → P (.list (L.map dOs))
abbrev s_late_results : Stmt := top 54
theorem sc_late_results : FnScope ["layout", "record", "keys", "late", "rows", "row", "least", "outputs", "delays"] ["layout", "record", "keys", "late"] (defScope s_late_results) := ⟨rfl, rfl, rfl, by decide +kernel, rfl, by decide +kernel, by decide +kernel⟩
theorem ok_late_results (B : Bl mg) (F_require_arguments : Fx P w K mg base 7 "require_arguments" ["layout", "record", "keys", "late"] (pf R_require_arguments)) (F_arrivals : Fx P w K mg base 13 "arrivals" ["layout", "record", "keys"] (pf R_arrivals)) {f : Addr} {fd : FuncData} (A : At K mg "late_results" "late_results" s_late_results f fd) : Fx P w K mg base 14 "late_results" ["layout", "record", "keys", "late"] (pf R_late_results) := by
  refine ok_pf A sc_late_results (A.fn.binds fun _ _ _ _ _ _ us hl => match us, hl with | [_, _, _, _], _ => rfl) ?len fun cdv A outer s H E hr => ⟨_, (ass_cons (as_expr (ax_fn F_require_arguments (hr.mono (by decide)) (by rfl) (axa_cons (ax_v 0) (axa_cons (ax_v 1) (axa_cons (ax_v 2) (axa_cons (ax_v 3) axa_nil))))))
      (ass_cons (as_set 4 sc_late_results.nd (ax_fn F_arrivals (hr.mono (by decide)) (by rfl) (axa_cons (ax_v 0) (axa_cons (ax_v 1) (axa_cons (ax_v 2) axa_nil)))))
      (ass_one (as_ret (ax_sh (ax_lc (own := [("row", 5)]) rfl sc_late_results.nd (ai_list (ax_callB (cr_sortN hr.units rfl) sndC_sortN (by rfl) B.sorted (by decide +kernel) (axa_cons (ax_sc (own := [("least", 6), ("outputs", 7), ("delays", 8)]) hr.units rfl sc_late_results.nd (ai_list (ax_v 4)) (blkOk_by (show blkC ["layout", "record", "keys", "late", "rows", "row", "least", "outputs", "delays"] (defScope s_late_results) _ [("least", 6), ("outputs", 7), ("delays", 8)] = true from by decide +kernel)) (fun _ _ _ _ _ => ag_c (ag_tup (n := 3) rfl (ags_cons (ag_n 6 sc_late_results.nd) (ags_cons (ag_n 7 sc_late_results.nd) (ags_cons (ag_n 8 sc_late_results.nd) ags_nil))))) (fun _ _ _ _ _ => ats_c (ats_one (at_le (ax_v 6) (ax_v 3)))) (fun _ _ _ _ _ => ax_c (ax_callTy call_tuple_of sndC_tuple (by rfl) B.tuple (by decide +kernel) (axa_cons (ax_v 7) axa_nil)))) axa_nil))) (blkOk_by (show blkC ["layout", "record", "keys", "late", "rows", "row", "least", "outputs", "delays"] (defScope s_late_results) _ [("row", 5)] = true from by decide +kernel)) (fun _ _ _ _ _ => (ag_n 5 sc_late_results.nd)) (fun _ _ _ _ _ => ats_nil) (fun _ _ _ _ _ => ax_c (ax_callTy call_list_of sndC_list (by rfl) B.list (by decide +kernel) (axa_cons (ax_v 5) axa_nil))))))))), ?body⟩
  case len =>
    rintro ds P ⟨_, _, _, _, rfl, _⟩
    rfl
  case body =>
    rintro ds Q ⟨l, rec, ks, late, rfl, ok, h63, h⟩
    show sSeq _ _ _ [.sh (dLay l), .sh (dRec rec), .sh (dNats ks), .sh (.int late), .no, .no, .no, .no, .no]
    simp
    refine ok.req ?_
    refine ⟨l, rec, ks, rfl, ok.la, keys_of ok.la ok.r, ok.z, ?_⟩
    refine ⟨_, rfl, ?_⟩
    refine sc_pre (arrF l rec ks) dArr (fun p acc Γ => ∃ L : List (List Out), acc = L.map dTu ∧ L.Nodup ∧ (∀ o, o ∈ L ↔ ∃ a ∈ p, a.least ≤ late ∧ a.outs = o) ∧ L.length ≤ p.length ∧ Γ = [.sh (dLay l), .sh (dRec rec), .sh (dNats ks), .sh (.int late), .sh (.list ((arrF l rec ks).map dArr)), .no, .no, .no, .no]) rfl ?_ ?_ ?_
    · exact ⟨[], rfl, List.nodup_nil, fun o => by simp, Nat.le_refl _, by simp⟩
    · rintro p a q acc Γ2 e ⟨L, rfl, nd, hm, hl, rfl⟩
      have hpl : p.length < (arrF l rec ks).length := by rw [e]; simp
      by_cases c1 : a.least ≤ late
      · simp [c1]
        have hdp := dp_outs a.outs
        refine ⟨by rw [okN]; exact okN_outs _, by omega, by omega, fun x hx hxe => ?_, fun hno => ?_⟩
        · have ex : x = a.outs := dTu_inj hxe
          refine ⟨L, rfl, nd, fun o => ?_, by omega⟩
          rw [hm o]
          constructor
          · exact Or.inl
          · rintro (z | z)
            · exact z
            · rw [← z, ← ex]
              exact (hm x).mp hx
        · refine ⟨L ++ [a.outs], by rw [List.map_append]; rfl, ?_, fun o => ?_, by rw [List.length_append, List.length_singleton]; omega⟩
          · exact (List.perm_append_singleton _ _).nodup_iff.mpr (List.nodup_cons.mpr ⟨fun z => hno _ z rfl, nd⟩)
          · rw [List.mem_append, hm o, List.mem_singleton]
            constructor
            · rintro (z | z)
              · exact Or.inl z
              · exact Or.inr z.symm
            · rintro (z | z)
              · exact Or.inl z
              · exact Or.inr z.symm
      · simp [c1]
        exact ⟨L, rfl, nd, hm, by omega⟩
    · rintro acc Γ2 ⟨L, rfl, nd, hm, hl, rfl⟩
      simp
      refine ⟨_, rfl, alike_tus L, fun d hd => ?_, fun ds hds => ?_⟩
      · obtain ⟨o, _, e⟩ := List.mem_map.mp hd
        exact ⟨_, e.symm⟩
      · obtain ⟨M, pM, rfl⟩ := perm_map_inv hds L rfl
        refine lc_m M dTu dOs rfl (Nat.lt_of_le_of_lt (m := 64) (by rw [pM.length_eq]; omega) (by decide)) ?_ ?_
        · intro o ho KT KF kk
          have q9 := kk [.sh (dLay l), .sh (dRec rec), .sh (dNats ks), .sh (.int late), .sh (.list ((arrF l rec ks).map dArr)), .sh (dTu o), .no, .no, .no] rfl
          simp
          refine ⟨o.map dOut, Or.inr rfl, ?_⟩
          exact q9
        · simp
          exact h M (pM.nodup_iff.mpr nd) fun o => pM.mem_iff.trans (hm o)
end HT2
set_option maxRecDepth 100000
set_option maxHeartbeats 4000000
namespace HT2
open PySem PySem.Spec PyProof.Rows L2 StX PL SN
variable {P : Program} {w : World} {K : PySem.W.Frag} {mg : Str → Option Value} {base : Heap}
theorem okG_pf {x qual : Str} {st : Stmt} {f : Addr} {fd : FuncData} {N ps : List Str} {k : Nat} {R : List PyData → (PyData → Prop) → Prop} (A : At K mg x qual st f fd) (S : FnScope N ps (defScope st)) (bd : L2.Binds K fd ps []) (hlen : ∀ ds P, R ds P → ds.length = ps.length)
    (hb : ∀ (cdv : Value) (A : Around) (outer : List Env) (s : Shared) (H : Hp) (E : XK), A.guards = some [] → Room k (A.deeper (envOfC qual (defScope st) s.heap.objs.size f cdv)) →
      ∃ τ, AXSs (cxOf CX0 P w K mg base N qual (defScope st) f cdv A outer s H E).nox [] (defBody st) τ ∧ ∀ ds Q, R ds Q → τ (endP N.length Q) (inG N (ds.map En.sh))) : FxG P w K mg base (k + 1) x ps (pf R) := by
  refine ⟨f, fd, okG_def A.fn S [] ?_ ?_, A.mg, A.fn.kp, bd⟩
  · rintro es P ⟨ds, h, r⟩
    rw [unsh_eq h, List.length_map]
    exact hlen _ _ r
  · intro cdv A outer s H E hg hr
    obtain ⟨τ, h1, h2⟩ := hb cdv A outer s H E hg hr
    obtain ⟨t, h3, h4⟩ := h1
    refine ⟨fun Δ Γ => ∃ Δ', (∀ Γ, Δ'.nx Γ → Δ.nx Γ) ∧ (∀ r Γ, Δ'.rt r Γ → Δ.rt r Γ) ∧ (∀ Γ, Δ'.bk Γ → Δ.bk Γ) ∧ (∀ Γ, Δ'.ct Γ → Δ.ct Γ) ∧ τ Δ' Γ, ⟨t, h3, fun T Γ σ σ0 H D Δ s p c ⟨Δ', a1, a2, a3, a4, q⟩ => h4 T Γ σ σ0 H D Δ' s p ⟨fun Γ σ H q => c.nx Γ σ H (a1 _ q), fun r Γ v σ H q => c.rt r Γ v σ H (a2 _ _ q), fun Γ σ H q => c.bk Γ σ H (a3 _ q), fun Γ σ H q => c.ct Γ σ H (a4 _ q)⟩ q⟩, ?_⟩
    rintro es Q ⟨ds, h, r⟩
    rw [unsh_eq h]
    refine ⟨endP N.length fun d => ∀ es', Q (.sh d) es', fun Γ q => ⟨q.1, q.2 _⟩, fun r Γ q => ⟨q.1, ?_⟩, fun Γ q => q.elim, fun Γ q => q.elim, h2 ds _ r⟩
    obtain ⟨d, e, q2⟩ := q.2
    subst e
    exact q2 _
theorem room65 {k : Nat} {A : Around} (r : Room k A) : A.units + 65 < cLine := by have := r.un; omega
/-! ### delays by the text of what they give -/
abbrev Grp := List (Str × List (List Int))
def kvG (g : Grp) : List (Key × PyData) := g.map fun p => (.inr p.1, .list (p.2.map dInts))
def oldG (g : Grp) (k : Str) : List (List Int) := ((g.find? fun p => p.1 == k).map (·.2)).getD []
def gadd (g : Grp) (k : Str) (dl : List Int) : Grp := if g.any (fun p => p.1 == k) then g.map (fun p => if p.1 = k then (p.1, oldG g k ++ [dl]) else p) else g ++ [(k, oldG g k ++ [dl])]
theorem keyR_eq {a n : Str} : ((Sum.inr a : Key) = .inr n) ↔ a = n := ⟨fun h => by injection h, fun h => by rw [h]⟩
theorem kvG_has (g : Grp) (k : Str) : dHas (kvG g) (.inr k) = g.any fun p => p.1 == k := by
  unfold dHas kvG
  rw [List.any_map]
  refine congrArg (fun f => g.any f) (funext fun x => ?_)
  show decide ((Sum.inr x.1 : Key) = .inr k) = (x.1 == k)
  rw [Bool.eq_iff_iff, decide_eq_true_iff, beq_iff_eq]
  exact keyR_eq
theorem kvG_get (g : Grp) (k : Str) : dGet (kvG g) (.inr k) = (g.find? fun p => p.1 == k).map fun p => .list (p.2.map dInts) := by
  unfold dGet kvG
  rw [List.find?_map, Option.map_map]
  have e : ((fun p : Key × PyData => decide (p.1 = .inr k)) ∘ fun p : Str × List (List Int) => ((Sum.inr p.1 : Key), PyData.list (p.2.map dInts))) = fun p => p.1 == k := by
    funext x
    show decide ((Sum.inr x.1 : Key) = .inr k) = (x.1 == k)
    rw [Bool.eq_iff_iff, decide_eq_true_iff, beq_iff_eq]
    exact keyR_eq
  rw [e]
  rfl
theorem kvG_old (g : Grp) (k : Str) : (dGet (kvG g) (.inr k)).getD (.list []) = .list ((oldG g k).map dInts) := by
  rw [kvG_get]
  unfold oldG
  cases g.find? fun p => p.1 == k <;> rfl
theorem kvG_put (g : Grp) (k : Str) (dl : List Int) : dPut (kvG g) (.inr k) (.list ((oldG g k ++ [dl]).map dInts)) = kvG (gadd g k dl) := by
  unfold dPut gadd
  rw [kvG_has]
  split
  · unfold kvG
    rw [List.map_map, List.map_map]
    refine List.map_congr_left fun x _ => ?_
    by_cases e : x.1 = k
    · simp [e]
    · have e2 : ¬ (Sum.inr x.1 : Key) = .inr k := fun z => e (keyR_eq.mp z)
      simp [e, e2]
  · simp [kvG]
structure GOk (key : List Int → Str) (p : List (List Int)) (g : Grp) : Prop where
  nd : (g.map (·.1)).Nodup
  ks : ∀ k, k ∈ g.map (·.1) ↔ ∃ dl ∈ p, key dl = k
  vs : ∀ x ∈ g, ∀ dl, dl ∈ x.2 ↔ dl ∈ p ∧ key dl = x.1
  sz : ∀ x ∈ g, x.2.length ≤ p.length
  gl : g.length ≤ p.length
theorem gadd_ok {key : List Int → Str} {p : List (List Int)} {g : Grp} (ok : GOk key p g) (dl : List Int) : GOk key (p ++ [dl]) (gadd g (key dl) dl) := by
  unfold gadd
  split
  · rename_i h
    obtain ⟨y, hy, hk⟩ := List.any_eq_true.mp h
    have hk : y.1 = key dl := by simpa using hk
    obtain ⟨z, hz, hzm, hzk⟩ : ∃ z, (g.find? fun p => p.1 == key dl) = some z ∧ z ∈ g ∧ z.1 = key dl := by
      cases q : g.find? fun p => p.1 == key dl with
      | none =>
        have := List.find?_eq_none.mp q y hy
        simp [hk] at this
      | some z => exact ⟨z, rfl, List.mem_of_find?_eq_some q, by simpa using List.find?_some q⟩
    have ho : oldG g (key dl) = z.2 := by unfold oldG; rw [hz]; rfl
    have hm : (g.map fun p => if p.1 = key dl then (p.1, oldG g (key dl) ++ [dl]) else p).map (·.1) = g.map (·.1) := by
      rw [List.map_map]
      refine List.map_congr_left fun x _ => ?_
      show (if x.1 = key dl then (x.1, oldG g (key dl) ++ [dl]) else x).1 = x.1
      split <;> rfl
    refine ⟨by rw [hm]; exact ok.nd, fun k => ?_, fun x hx d => ?_, fun x hx => ?_, ?_⟩
    · rw [hm, ok.ks k]
      constructor
      · rintro ⟨d, h1, h2⟩
        exact ⟨d, List.mem_append_left _ h1, h2⟩
      · rintro ⟨d, h1, h2⟩
        rcases List.mem_append.mp h1 with q | q
        · exact ⟨d, q, h2⟩
        · rw [List.mem_singleton.mp q] at h2
          exact (ok.ks k).mp (List.mem_map.mpr ⟨z, hzm, by rw [hzk, h2]⟩)
    · obtain ⟨u, hu, e⟩ := List.mem_map.mp hx
      split at e
      · rename_i c
        rw [← e, ho]
        show d ∈ z.2 ++ [dl] ↔ d ∈ p ++ [dl] ∧ key d = u.1
        rw [List.mem_append, List.mem_append, List.mem_singleton, ok.vs z hzm d, hzk, c]
        constructor
        · rintro (⟨q1, q2⟩ | q)
          · exact ⟨Or.inl q1, q2⟩
          · exact ⟨Or.inr q, by rw [q]⟩
        · rintro ⟨q1 | q1, q2⟩
          · exact Or.inl ⟨q1, q2⟩
          · exact Or.inr q1
      · rename_i c
        rw [← e, ok.vs u hu d, List.mem_append, List.mem_singleton]
        constructor
        · rintro ⟨q1, q2⟩
          exact ⟨Or.inl q1, q2⟩
        · rintro ⟨q1 | q1, q2⟩
          · exact ⟨q1, q2⟩
          · rw [q1] at q2
            exact absurd q2.symm c
    · obtain ⟨u, hu, e⟩ := List.mem_map.mp hx
      rw [List.length_append, List.length_singleton]
      split at e
      · rw [← e, ho]
        have := ok.sz z hzm
        simp
        omega
      · rw [← e]
        have := ok.sz u hu
        omega
    · rw [List.length_map, List.length_append]
      have := ok.gl
      omega
  · rename_i h
    have hn : ∀ x ∈ g, x.1 ≠ key dl := fun x hx e => h (List.any_eq_true.mpr ⟨x, hx, by simpa using e⟩)
    have ho : oldG g (key dl) = [] := by
      unfold oldG
      rw [List.find?_eq_none.mpr fun x hx => by simpa using hn x hx]
      rfl
    have hnp : ∀ d ∈ p, key d ≠ key dl := fun d hd e => by
      obtain ⟨x, hx, q⟩ := List.mem_map.mp ((ok.ks (key dl)).mpr ⟨d, hd, e⟩)
      exact hn x hx q
    rw [ho, List.nil_append]
    refine ⟨?_, fun k => ?_, fun x hx d => ?_, fun x hx => ?_, ?_⟩
    · rw [List.map_append, List.nodup_append]
      refine ⟨ok.nd, by simp, fun a ha b hb e => ?_⟩
      obtain ⟨x, hx, q⟩ := List.mem_map.mp ha
      have : b = key dl := by simpa using hb
      exact hn x hx (q.trans (e.trans this))
    · rw [List.map_append, List.mem_append, ok.ks k]
      constructor
      · rintro (⟨d, h1, h2⟩ | q)
        · exact ⟨d, List.mem_append_left _ h1, h2⟩
        · have : k = key dl := by simpa using q
          exact ⟨dl, by simp, this.symm⟩
      · rintro ⟨d, h1, h2⟩
        rcases List.mem_append.mp h1 with q | q
        · exact Or.inl ⟨d, q, h2⟩
        · rw [List.mem_singleton.mp q] at h2
          exact Or.inr (by simp [h2])
    · rcases List.mem_append.mp hx with q | q
      · rw [ok.vs x q d, List.mem_append, List.mem_singleton]
        constructor
        · rintro ⟨q1, q2⟩
          exact ⟨Or.inl q1, q2⟩
        · rintro ⟨q1 | q1, q2⟩
          · exact ⟨q1, q2⟩
          · rw [q1] at q2
            exact absurd q2.symm (hn x q)
      · have e : x = (key dl, [dl]) := by simpa using q
        rw [e]
        show d ∈ [dl] ↔ d ∈ p ++ [dl] ∧ key d = key dl
        rw [List.mem_singleton, List.mem_append, List.mem_singleton]
        constructor
        · intro q1
          exact ⟨Or.inr q1, by rw [q1]⟩
        · rintro ⟨q1 | q1, q2⟩
          · exact absurd q2 (hnp d q1)
          · exact q1
    · rw [List.length_append, List.length_singleton]
      rcases List.mem_append.mp hx with q | q
      · have := ok.sz x q
        omega
      · have e : x = (key dl, [dl]) := by simpa using q
        rw [e]
        simp
    · rw [List.length_append, List.length_append]
      have := ok.gl
      simp
      omega
theorem outs_show {o : List Out} (h : ∀ x ∈ o, outOk x) (hl : o.length ≤ 400) : (PyData.list (o.map dOut)).showable = true ∧ (PyData.list (o.map dOut)).hasDict = false ∧ (PyData.list (o.map dOut)).depth ≤ 16 ∧ (PyData.list (o.map dOut)).shown.length ≤ sizeLine := by
  refine ⟨?_, ?_, ?_, ?_⟩
  · rw [PyData.showable]
    clear h hl
    induction o with
    | nil => rfl
    | cons x o ih =>
      rw [List.map_cons, PyData.showableAll, ih]
      cases x <;> simp [PyData.showable, PyData.showableAll]
  · rw [PyData.hasDict]
    clear h hl
    induction o with
    | nil => rfl
    | cons x o ih =>
      rw [List.map_cons, PyData.hasDictAll, ih]
      cases x <;> simp [PyData.hasDict, PyData.hasDictAll]
  · rw [dp_list]
    have := dp_outs o
    omega
  · have := (keyS_small h).1
    have h2 : (11000 : Nat) ≤ sizeLine := by decide
    show (keyS o).length ≤ sizeLine
    omega
theorem ints_eqv (a b : List Int) : PyData.eqv (dInts a) (dInts b) = decide (a = b) := by
  show PyData.eqv (.list (a.map .int)) (.list (b.map .int)) = _
  rw [ev_ll]
  induction a generalizing b with
  | nil => cases b <;> simp
  | cons x a ih =>
    cases b with
    | nil => simp
    | cons y b =>
      rw [List.map_cons, List.map_cons, ev_11, ih b, Bool.eq_iff_iff]
      simp
theorem strs_eqv (a b : List Str) : PyData.eqvAll (a.map .str) (b.map .str) = decide (a = b) := by
  induction a generalizing b with
  | nil => cases b <;> simp
  | cons x a ih =>
    cases b with
    | nil => simp
    | cons y b =>
      rw [List.map_cons, List.map_cons, ev_11, ih b, Bool.eq_iff_iff]
      simp
theorem strs_shape {a : List Str} (h : ∀ x ∈ a, PyData.strOk x = true) : PyData.canLayAll0 (a.map PyData.str) = true ∧ PyData.depthAll (a.map PyData.str) = 0 := by
  induction a with
  | nil => simp
  | cons x a ih =>
    obtain ⟨i1, i2⟩ := ih fun y hy => h y (List.mem_cons_of_mem _ hy)
    simp [i1, i2, h x List.mem_cons_self]
/-! ### the law's answer -/
def toldF (l : Lay) (rec : Rec) (dl : List Int) : List Out := flatF l (arrivedF rec dl)
def IsMax (m : Int) (dl : List Int) : Prop := m ∈ dl ∧ ∀ y ∈ dl, y ≤ m
theorem IsMax.uniq {m n : Int} {dl : List Int} (a : IsMax m dl) (b : IsMax n dl) : m = n := Int.le_antisymm (b.2 m a.1) (a.2 n b.1)
structure SafeOk (l : Lay) (rec : Rec) (far : Int) (p : List (List Int)) (s : Int) : Prop where
  at_ : s = far ∨ ∃ dl ∈ p, toldF l rec dl ≠ flatF l rec ∧ ∃ m, IsMax m dl ∧ s = m - 1
  le : s ≤ far
  all : ∀ dl ∈ p, toldF l rec dl ≠ flatF l rec → ∀ m, IsMax m dl → s ≤ m - 1
structure RgtOk (l : Lay) (rec : Rec) (ks : List Nat) (far : Int) : Prop where
  la : LayOk l
  r : RecOk (wide l - 1) rec
  k : KeysOk l ks
  z : rec.length ≤ 5
  t : ∀ e ∈ rec, 0 ≤ e.t ∧ e.t ≤ 1000000
  a : 0 ≤ far
  b : far ≤ 4
theorem RgtOk.arg {l : Lay} {rec : Rec} {ks : List Nat} {far : Int} (ok : RgtOk l rec ks far) : ArgOk l rec ks far := ⟨ok.la, ok.r, ok.k, by have := ok.z; omega, ok.a, by have := ok.b; omega⟩
theorem RgtOk.told {l : Lay} {rec : Rec} {ks : List Nat} {far : Int} (ok : RgtOk l rec ks far) {dl : List Int} (hd : dl ∈ delsF ks far rec) : (∀ o ∈ toldF l rec dl, outOk o) ∧ (toldF l rec dl).length ≤ 400 := by
  obtain ⟨h1, h2⟩ := arrived_ok ok.r hd
  have hk := keys_of ok.la h1
  refine ⟨fun o ho => outsF_ok ok.la hk o (List.mem_filter.mp ho).1, ?_⟩
  refine Nat.le_trans (List.length_filter_le _ _) ?_
  rw [outsF_len ok.la hk]
  exact h1.len
theorem safe_end {l : Lay} {rec : Rec} {ks : List Nat} {far : Int} (ok : RgtOk l rec ks far) {s : Int} (h : SafeOk l rec far (delsF ks far rec) s) {m : Int}
    (h1 : m ∈ ((arrF l rec ks).filter fun a => !decide (a.outs = flatF l rec)).map (fun a => a.least - 1) ++ [far]) (h2 : ∀ y ∈ ((arrF l rec ks).filter fun a => !decide (a.outs = flatF l rec)).map (fun a => a.least - 1) ++ [far], m ≤ y) : m = s := by
  have hk := keys_of ok.la ok.r
  refine Int.le_antisymm ?_ ?_
  · rcases h.at_ with e | ⟨dl, hd, hne, m', hm, e⟩
    · rw [e]
      exact h2 far (by simp)
    · have ok2 := dels_iff.mp hd
      have hl := ok2.len
      have h0 : 0 ≤ m' := by
        obtain ⟨i, hi, ei⟩ := List.mem_iff_getElem.mp hm.1
        have := ok2.at1 (i := i) (by omega)
        have e3 : dAt dl i = m' := by simp [dAt, hi, ei]
        rw [e3] at this
        split at this <;> omega
      obtain ⟨a, ha, ho, hle⟩ := arr_full ok.la ok.r hk (by have := ok.z; omega) hd h0 fun i hi => by
        have e3 : dAt dl i = dl[i]'(by omega) := by simp [dAt, (show i < dl.length by omega)]
        rw [e3]
        exact hm.2 _ (List.getElem_mem _)
      have := h2 (a.least - 1) (List.mem_append_left _ (List.mem_map.mpr ⟨a, List.mem_filter.mpr ⟨ha, by
        rw [ho]
        have hne2 : ¬ flatF l (arrivedF rec dl) = flatF l rec := hne
        simpa using hne2⟩, rfl⟩))
      omega
  · rcases List.mem_append.mp h1 with q | q
    · obtain ⟨a, ha, e⟩ := List.mem_map.mp q
      obtain ⟨ha1, ha2⟩ := List.mem_filter.mp ha
      have ha2 : ¬ a.outs = flatF l rec := by simpa using ha2
      obtain ⟨s1, s2, s3, s4, s5⟩ := arr_sound ok.r ha1
      rw [← e]
      by_cases c : a.least ≤ far
      · have hd := s3 far c
        have hne : toldF l rec a.del ≠ flatF l rec := by
          unfold toldF
          rw [← s4]
          exact ha2
        have hnil : a.del ≠ [] := fun z => by
          rw [z] at s5
          have z2 : rec = [] := List.length_eq_zero_iff.mp s5.symm
          apply hne
          unfold toldF
          rw [z, z2]
          have e0 : arrivedF [] [] = [] := by simp [arrivedF, sortKI, keyed]
          rw [e0]
        obtain ⟨m', hm⟩ : ∃ m', IsMax m' a.del := by
          refine ⟨a.del.max hnil, List.max_mem hnil, fun y hy => List.le_max_of_mem hy⟩
        have h5 := h.all a.del hd hne m' hm
        obtain ⟨i, hi, ei⟩ := List.mem_iff_getElem.mp hm.1
        have h6 := s2 i (by omega)
        have e3 : dAt a.del i = m' := by simp [dAt, hi, ei]
        rw [e3] at h6
        omega
      · have := h.le
        omega
    · have : m = far := by simpa using q
      rw [this]
      exact h.le
theorem GOk.old {key : List Int → Str} {p : List (List Int)} {g : Grp} (ok : GOk key p g) (k : Str) : (oldG g k).length ≤ p.length := by
  unfold oldG
  cases q : g.find? fun p => p.1 == k with
  | none => exact Nat.zero_le _
  | some z => exact ok.sz z (List.mem_of_find?_eq_some q)
theorem SafeOk.same {l : Lay} {rec : Rec} {far : Int} {p : List (List Int)} {s : Int} (h : SafeOk l rec far p s) {dl : List Int} (e : toldF l rec dl = flatF l rec) : SafeOk l rec far (p ++ [dl]) s :=
  ⟨h.at_.imp id fun ⟨d, hd, q⟩ => ⟨d, List.mem_append_left _ hd, q⟩, h.le, fun d hd hne => by
    rcases List.mem_append.mp hd with z | z
    · exact h.all d z hne
    · rw [List.mem_singleton.mp z] at hne
      exact absurd e hne⟩
theorem SafeOk.min {l : Lay} {rec : Rec} {far : Int} {p : List (List Int)} {s : Int} (h : SafeOk l rec far p s) {dl : List Int} (e : toldF l rec dl ≠ flatF l rec) {m : Int} (hm : IsMax m dl) : SafeOk l rec far (p ++ [dl]) (if m - 1 < s then m - 1 else s) := by
  have hle := h.le
  refine ⟨?_, by split <;> omega, fun d hd hne n hn => ?_⟩
  · split
    · exact Or.inr ⟨dl, by simp, e, m, hm, rfl⟩
    · exact h.at_.imp id fun ⟨d, hd, q⟩ => ⟨d, List.mem_append_left _ hd, q⟩
  · rcases List.mem_append.mp hd with z | z
    · have := h.all d z hne n hn
      split <;> omega
    · rw [List.mem_singleton.mp z] at hn
      have := hm.uniq hn
      split <;> omega
theorem nodup_len {α : Type} : ∀ {L M : List α}, L.Nodup → (∀ x ∈ L, x ∈ M) → L.length ≤ M.length
  | [], M, _, _ => Nat.zero_le _
  | x :: L, M, nd, h => by
    obtain ⟨n1, n2⟩ := List.nodup_cons.mp nd
    obtain ⟨s, t, e⟩ := List.append_of_mem (h x List.mem_cons_self)
    have := nodup_len (L := L) (M := s ++ t) n2 fun y hy => by
      have := h y (List.mem_cons_of_mem _ hy)
      rw [e] at this
      rcases List.mem_append.mp this with z | z
      · exact List.mem_append_left _ z
      · rcases List.mem_cons.mp z with z | z
        · rw [z] at hy
          exact absurd hy n1
        · exact List.mem_append_right _ z
    rw [e, List.length_append, List.length_cons]
    rw [List.length_append] at this
    rw [List.length_cons]
    omega
theorem dels_len {half : List Nat} {far : Int} (f1 : 0 ≤ far) (f2 : far ≤ 4) {rec : Rec} (h : ∀ e ∈ rec, 0 ≤ e.t ∧ e.t ≤ 1000000) (hz : rec.length ≤ 5) : (delsF half far rec).length ≤ 3125 := by
  unfold delsF
  rw [List.length_map]
  refine Nat.le_trans (rowsD_ok (half := half) f1 f2 rec h).2 ?_
  exact Nat.le_trans (Nat.pow_le_pow_right (by decide) hz) (by decide)
/-- the texts of the groups are those of the results -/
theorem keys_perm {l : Lay} {rec : Rec} {ks : List Nat} {far : Int} (ok : RgtOk l rec ks far) {g : Grp} (gok : GOk (fun dl => keyS (toldF l rec dl)) (delsF ks far rec) g) {L : List (List Out)} (nd : L.Nodup) (hm : ∀ o, o ∈ L ↔ ∃ a ∈ arrF l rec ks, a.least ≤ far ∧ a.outs = o) :
    (g.map (·.1)).Perm (L.map keyS) ∧ (∀ o ∈ L, (∀ x ∈ o, outOk x) ∧ o.length ≤ 400) ∧ L.length ≤ 40 := by
  have hk := keys_of ok.la ok.r
  have hin : ∀ o ∈ L, ∃ dl ∈ delsF ks far rec, toldF l rec dl = o := fun o ho => by
    obtain ⟨a, ha, hle, e⟩ := (hm o).mp ho
    obtain ⟨s1, s2, s3, s4, s5⟩ := arr_sound ok.r ha
    exact ⟨a.del, s3 far hle, by unfold toldF; rw [← s4, e]⟩
  have hout : ∀ dl ∈ delsF ks far rec, toldF l rec dl ∈ L := fun dl hd => by
    have ok2 := dels_iff.mp hd
    obtain ⟨a, ha, ho, hle⟩ := arr_full ok.la ok.r hk (by have := ok.z; omega) hd ok.a fun i hi => by
      have := ok2.at1 hi
      have := ok.a
      split at * <;> omega
    exact (hm _).mpr ⟨a, ha, hle, ho⟩
  have hok : ∀ o ∈ L, (∀ x ∈ o, outOk x) ∧ o.length ≤ 400 := fun o ho => by
    obtain ⟨dl, hd, e⟩ := hin o ho
    rw [← e]
    exact ok.told hd
  refine ⟨?_, hok, ?_⟩
  · rw [List.perm_ext_iff_of_nodup gok.nd]
    · intro k
      rw [gok.ks k, List.mem_map]
      constructor
      · rintro ⟨dl, hd, e⟩
        exact ⟨_, hout dl hd, e⟩
      · rintro ⟨o, ho, e⟩
        obtain ⟨dl, hd, e2⟩ := hin o ho
        exact ⟨dl, hd, by rw [e2]; exact e⟩
    · rw [List.Nodup, List.pairwise_map]
      refine List.Pairwise.imp_of_mem (fun {a b} ha hb hab => ?_) nd
      exact fun e => hab (keyS_inj (hok a ha).1 (hok b hb).1 e)
  · refine Nat.le_trans (nodup_len (M := (arrF l rec ks).map (·.outs)) nd fun o ho => ?_) ?_
    · obtain ⟨a, ha, _, e⟩ := (hm o).mp ho
      exact List.mem_map.mpr ⟨a, ha, e⟩
    · rw [List.length_map]
      exact arr_few ok.r ok.z
def R__law_right : List PyData → (PyData → Prop) → Prop := fun ds P => ∃ (l : Lay) (rec : Rec) (ks : List Nat) (far : Int), ds = [dLay l, dRec rec, dNats ks, .int far] ∧ RgtOk l rec ks far ∧ P (.bool true)
end HT2
set_option maxRecDepth 100000
set_option maxHeartbeats 8000000
namespace HT2
open PySem PySem.Spec PyProof.Rows L2 StX PL SN
variable {P : Program} {w : World} {K : PySem.W.Frag} {mg : Str → Option Value} {base : Heap}
abbrev s__law_right : Stmt := top 65
theorem sc__law_right : FnScope ["_law_layout_here", "_law_record", "_law_half", "_law_far", "_law_own", "_law_safe", "_law_rows", "_law_delays_here", "_law_told", "_law_due"] ["_law_layout_here", "_law_record", "_law_half", "_law_far"] (defScope s__law_right) := ⟨rfl, rfl, rfl, by decide +kernel, rfl, by decide +kernel, by decide +kernel⟩
theorem ok__law_right (B : Bl mg) (F_flat : Fx P w K mg base 8 "flat" ["layout", "record"] (pf R_flat)) (F_late_results : Fx P w K mg base 14 "late_results" ["layout", "record", "keys", "late"] (pf R_late_results)) (F_delays_for : Fx P w K mg base 14 "delays_for" ["layout", "record", "keys", "late", "outputs"] (pf R_delays_for)) (F_safe_late : Fx P w K mg base 14 "safe_late" ["layout", "record", "keys", "most"] (pf R_safe_late)) (F__law_delays : Fx P w K mg base 1 "_law_delays" ["_law_record", "_law_half", "_law_far"] (pf R__law_delays)) (F__law_arrived : Fx P w K mg base 1 "_law_arrived" ["_law_record", "_law_delays_here"] (pf R__law_arrived)) {f : Addr} {fd : FuncData} (A : At K mg "_law_right" "_law_right" s__law_right f fd) : FxG P w K mg base 15 "_law_right" ["_law_layout_here", "_law_record", "_law_half", "_law_far"] (pf R__law_right) := by
  refine okG_pf A sc__law_right (A.fn.binds fun _ _ _ _ _ _ us hl => match us, hl with | [_, _, _, _], _ => rfl) ?len fun cdv A outer s H E hg hr => ⟨_, (ass_cons (as_par3 (i := 4) (j := 5) (l := 6) rfl sc__law_right.nd (axa_cons (ax_fn F_flat (hr.mono (by decide)) (by rfl) (axa_cons (ax_v 0) (axa_cons (ax_v 1) axa_nil))) (axa_cons (ax_v 3) (axa_cons ax_dnew axa_nil))))
      (ass_cons (as_for PassesOwn.never rfl (ai_list (ax_fn F__law_delays (hr.mono (by decide)) (by rfl) (axa_cons (ax_v 1) (axa_cons (ax_v 2) (axa_cons (ax_v 3) axa_nil))))) (ag_n 7 sc__law_right.nd)
        (ass_cons (as_set 8 sc__law_right.nd (ax_fn F_flat (hr.mono (by decide)) (by rfl) (axa_cons (ax_v 0) (axa_cons (ax_fn F__law_arrived (hr.mono (by decide)) (by rfl) (axa_cons (ax_v 1) (axa_cons (ax_v 7) axa_nil))) axa_nil))))
      (ass_cons (as_dput hr.units (pe_v 6) (pl_slot 6) (ax_callB (cr_repr hg hr.units) sndC_repr (by rfl) B.repr (by decide +kernel) (axa_cons (ax_v 8) axa_nil)) (ax_cat (ax_dget2 hr.units (pe_v 6) (pl_slot 6) (ax_callB (cr_repr hg hr.units) sndC_repr (by rfl) B.repr (by decide +kernel) (axa_cons (ax_v 8) axa_nil)) (ax_lst axa_nil) ⟨rfl, rfl, rfl, rfl⟩) (ax_lst (axa_cons (ax_v 7) axa_nil))))
      (ass_one (as_if (at_ne hr.units (ax_v 8) (ax_v 4)) (ass_one (as_set 5 sc__law_right.nd (ax_callB (call_min2 rfl) sndC_2 (by rfl) B.min (by decide +kernel) (axa_cons (ax_v 5) (axa_cons (ax_sub (ax_callB (cr_max rfl) sndC_max (by rfl) B.max (by decide +kernel) (axa_cons (ax_v 7) axa_nil)) ax_int) axa_nil))))) ass_nil)))))
      (ass_cons (as_set 9 sc__law_right.nd (ax_fn F_late_results (hr.mono (by decide)) (by rfl) (axa_cons (ax_v 0) (axa_cons (ax_v 1) (axa_cons (ax_v 2) (axa_cons (ax_v 3) axa_nil))))))
      (ass_cons (as_if (at_bool (aw_or (at_ne hr.units (ax_sortDict rfl (by rfl) B.sorted (pe_v 6) (pl_slot 6)) (ax_callB cr_sortedS sndC_sortS (by rfl) B.sorted (by decide +kernel) (axa_cons (ax_sh (ax_lc (own := [("_law_told", 8)]) rfl sc__law_right.nd (ai_list (ax_v 9)) (blkOk_by (show blkC ["_law_layout_here", "_law_record", "_law_half", "_law_far", "_law_own", "_law_safe", "_law_rows", "_law_delays_here", "_law_told", "_law_due"] (defScope s__law_right) _ [("_law_told", 8)] = true from by decide +kernel)) (fun _ _ _ _ _ => (ag_n 8 sc__law_right.nd)) (fun _ _ _ _ _ => ats_nil) (fun _ _ _ _ _ => ax_c (ax_callB (cr_repr hg hr.units) sndC_repr (by rfl) B.repr (by decide +kernel) (axa_cons (ax_v 8) axa_nil))))) axa_nil))) (aw_or1 (at_ne hr.units (ax_fn F_safe_late (hr.mono (by decide)) (by rfl) (axa_cons (ax_v 0) (axa_cons (ax_v 1) (axa_cons (ax_v 2) (axa_cons (ax_v 3) axa_nil))))) (ax_v 5))))) (ass_one (as_ret ax_bl)) ass_nil)
      (ass_cons (as_for PassesOwn.never rfl (ai_list (ax_v 9)) (ag_n 8 sc__law_right.nd)
        (ass_cons (as_set 7 sc__law_right.nd (ax_fn F_delays_for (hr.mono (by decide)) (by rfl) (axa_cons (ax_v 0) (axa_cons (ax_v 1) (axa_cons (ax_v 2) (axa_cons (ax_v 3) (axa_cons (ax_v 8) axa_nil)))))))
      (ass_one (as_if (at_notinD (room65 hr) (ax_v 7) (ax_dget hr.units (pe_v 6) (pl_slot 6) (ax_callB (cr_repr hg hr.units) sndC_repr (by rfl) B.repr (by decide +kernel) (axa_cons (ax_v 8) axa_nil)))) (ass_one (as_ret ax_bl)) ass_nil))))
      (ass_one (as_ret ax_bl))))))), ?body⟩
  case len =>
    rintro ds P ⟨_, _, _, _, rfl, _⟩
    rfl
  case body =>
    rintro ds Q ⟨l, rec, ks, far, rfl, ok, h⟩
    show sSeq _ _ _ [.sh (dLay l), .sh (dRec rec), .sh (dNats ks), .sh (.int far), .no, .no, .no, .no, .no, .no]
    have hk := keys_of ok.la ok.r
    simp
    have hz8 : rec.length ≤ 6 := by have := ok.z; omega
    refine ⟨l, rec, rfl, ok.la, ok.r, _, _, _, ⟨rfl, rfl, rfl⟩, rec, ks, far, rfl, ok.t, hz8, ok.a, ok.b, _, rfl, ?_⟩
    refine for_t (delsF ks far rec) dInts (fun p Γ => ∃ g s a b, Γ = [.sh (dLay l), .sh (dRec rec), .sh (dNats ks), .sh (.int far), .sh (.list ((flatF l rec).map dOut)), .sh (.int s), .dct (kvG g), a, b, .no] ∧ GOk (fun dl => keyS (toldF l rec dl)) p g ∧ SafeOk l rec far p s) rfl ⟨[], far, .no, .no, rfl, ⟨List.nodup_nil, fun k => by simp, fun x hx => absurd hx (by simp), fun x hx => absurd hx (by simp), Nat.le_refl _⟩, Or.inl rfl, Int.le_refl _, fun dl hd => absurd hd (by simp)⟩ ?_ ?_
    · rintro p dl q Γ2 e ⟨g, s, a, b, rfl, gok, sok⟩
      have hd : dl ∈ delsF ks far rec := by rw [e]; simp
      simp
      have ok2 := dels_iff.mp hd
      obtain ⟨ar1, ar2⟩ := arrived_ok ok.r hd
      obtain ⟨to1, to2⟩ := ok.told hd
      obtain ⟨sh1, sh2, sh3, sh4⟩ := outs_show to1 to2
      have shp := outs_shape to1
      have ho : ∀ o ∈ flatF l rec, outOk o := fun o ho => outsF_ok ok.la hk o (List.mem_filter.mp ho).1
      have so := outs_shape ho
      have hpl : p.length < 3125 := by
        have h1 := dels_len ok.a ok.b (half := ks) ok.t ok.z
        rw [e, List.length_append, List.length_cons] at h1
        omega
      have hsz : (3126 : Nat) ≤ sizeLine := by decide
      have hold := gok.old (keyS (toldF l rec dl))
      have hgl := gok.gl
      have hput : dPut (kvG g) (Sum.inr (keyS (toldF l rec dl))) (.list ((oldG g (keyS (toldF l rec dl))).map dInts ++ [dInts dl])) = kvG (gadd g (keyS (toldF l rec dl)) dl) := by
        rw [← kvG_put, List.map_append]
        rfl
      refine ⟨rec, dl, rfl, ok2.len, ok.r.len, l, arrivedF rec dl, rfl, ok.la, ar1, ?_⟩
      refine ⟨(toldF l rec dl).map dOut, rfl, sh1, sh2, by omega, sh4, (oldG g (keyS (toldF l rec dl))).map dInts, kvG_old g _, by rw [List.length_map]; omega, by unfold kvG; rw [List.length_map]; omega, (toldF l rec dl).map dOut, rfl, sh1, sh2, by omega, sh4, ⟨by rw [cl_list]; exact shp.1, by rw [dp_list]; have shq : PyData.depthAll ((flatF l (arrivedF rec dl)).map dOut) ≤ 1 := shp.2; omega⟩, ⟨so.1, by omega⟩, ?_⟩
      have heq : (PyData.list ((flatF l (arrivedF rec dl)).map dOut)).eqv (PyData.list ((flatF l rec).map dOut)) = decide (toldF l rec dl = flatF l rec) := by rw [ev_ll, outs_eqv]; rfl
      rw [heq]
      by_cases c : toldF l rec dl = flatF l rec
      · refine Or.inl ⟨decide_eq_true c, _, s, ⟨rfl, hput⟩, gadd_ok gok dl, sok.same c⟩
      · refine Or.inr ⟨decide_eq_false c, ?_, fun m hm hy => ⟨_, _, ⟨rfl, hput⟩, gadd_ok gok dl, sok.min c ⟨hm, hy⟩⟩⟩
        refine List.length_pos_iff.mpr fun z => c ?_
        have hl := ok2.len
        rw [z] at hl
        have z2 : rec = [] := List.length_eq_zero_iff.mp hl.symm
        have e0 : arrivedF [] [] = [] := by simp [arrivedF, sortKI, keyed]
        unfold toldF
        rw [z, z2, e0]
    · rintro Γ2 ⟨g, s, a, b, rfl, gok, sok⟩
      simp
      refine ⟨l, rec, ks, far, rfl, ok.arg, by have := arr_few (l := l) (ks := ks) ok.r ok.z; omega, fun L nd hm => ?_⟩
      obtain ⟨kp, lo, ll⟩ := keys_perm ok gok nd hm
      have hgl : (g.map (·.1)).length < 64 := by rw [kp.length_eq, List.length_map]; omega
      refine ⟨g.map (·.1), by unfold kvG; rw [List.map_map, List.map_map]; rfl, hgl, fun ys hys hss => ⟨_, rfl, ?_⟩⟩
      refine lc_m L dOs (fun o => .str (keyS o)) rfl (sz_lt (m := 40) ll) ?_ ?_
      · intro o ho KT KF kk
        obtain ⟨sh1, sh2, sh3, sh4⟩ := outs_show (lo o ho).1 (lo o ho).2
        have dp := dp_outs o
        have q9 := kk [.sh (dLay l), .sh (dRec rec), .sh (dNats ks), .sh (.int far), .sh (.list ((flatF l rec).map dOut)), .sh (.int s), .dct (kvG g), a, .sh (dOs o), .sh (.list (L.map dOs))] rfl
        simp
        exact ⟨o.map dOut, rfl, sh1, sh2, by omega, sh4, q9⟩
      · simp
        have hok : ∀ {zs : List Str}, zs.Perm (L.map keyS) → PyData.canLayAll0 (zs.map PyData.str) = true ∧ PyData.depthAll (zs.map PyData.str) ≤ 63 := fun {zs} hz => by
          obtain ⟨q1, q2⟩ := strs_shape (a := zs) fun x hx => by
            obtain ⟨o, ho, e⟩ := List.mem_map.mp (hz.mem_iff.mp hx)
            rw [← e]
            exact (keyS_small (lo o ho).1).2
          exact ⟨q1, by omega⟩
        refine ⟨L.map keyS, by simp, by rw [List.length_map]; omega, fun zs hzs hzz => ?_⟩
        have ey : ys = zs := sortedS_uniq ((hys.trans kp).trans hzs.symm) hss hzz
        refine ⟨hok (hys.trans kp), hok hzs, Or.inl ⟨by rw [strs_eqv, ey]; simp, l, rec, ks, far, rfl, ok.arg, fun m h1 h2 => ?_⟩⟩
        have em : m = s := safe_end ok sok h1 h2
        subst em
        simp
        refine for_t L dOs (fun _ Γ => ∃ x y, Γ = [.sh (dLay l), .sh (dRec rec), .sh (dNats ks), .sh (.int far), .sh (.list ((flatF l rec).map dOut)), .sh (.int m), .dct (kvG g), x, y, .sh (.list (L.map dOs))]) rfl ⟨_, _, rfl⟩ ?_ ?_
        · rintro p o q Γ2 e ⟨x, y, rfl⟩
          have ho : o ∈ L := by rw [e]; simp
          obtain ⟨sh1, sh2, sh3, sh4⟩ := outs_show (lo o ho).1 (lo o ho).2
          have dp := dp_outs o
          simp
          obtain ⟨a0, ha0, hle0, ho0⟩ := (hm o).mp ho
          obtain ⟨f0, hf0⟩ : ∃ f0, ((arrF l rec ks).filter fun a => decide (a.least ≤ far) && decide (a.outs = o)).head? = some f0 := by
            cases q : ((arrF l rec ks).filter fun a => decide (a.least ≤ far) && decide (a.outs = o)).head? with
            | some z => exact ⟨z, rfl⟩
            | none =>
              rw [List.head?_eq_none_iff] at q
              have := List.filter_eq_nil_iff.mp q a0 ha0
              simp [hle0, ho0] at this
          obtain ⟨f1, f2⟩ := List.mem_filter.mp (List.mem_of_head? hf0)
          rw [Bool.and_eq_true, decide_eq_true_eq, decide_eq_true_eq] at f2
          obtain ⟨s1, s2, s3, s4, s5⟩ := arr_sound ok.r f1
          have hd := s3 far f2.1
          have hto : toldF l rec f0.del = o := by
            unfold toldF
            rw [← s4]
            exact f2.2
          obtain ⟨z, hz, hzk⟩ : ∃ z ∈ g, z.1 = keyS o := by
            have := kp.mem_iff.mpr (List.mem_map.mpr ⟨o, ho, rfl⟩)
            obtain ⟨z, hz, e⟩ := List.mem_map.mp this
            exact ⟨z, hz, e⟩
          obtain ⟨z2, hz2, hz2m, hz2k⟩ : ∃ z2, (g.find? fun p => p.1 == keyS o) = some z2 ∧ z2 ∈ g ∧ z2.1 = keyS o := by
            cases q : g.find? fun p => p.1 == keyS o with
            | none =>
              have := List.find?_eq_none.mp q z hz
              simp [hzk] at this
            | some z2 => exact ⟨z2, rfl, List.mem_of_find?_eq_some q, by simpa using List.find?_some q⟩
          have hin : f0.del ∈ z2.2 := (gok.vs z2 hz2m f0.del).mpr ⟨hd, by rw [hto]; exact hz2k.symm⟩
          have hget : dGet (kvG g) (Sum.inr (keyS o)) = some (.list (z2.2.map dInts)) := by
            rw [kvG_get, hz2]
            rfl
          have hsh : PyData.canLayAll0 (z2.2.map dInts) = true ∧ PyData.depthAll (z2.2.map dInts) ≤ 1 := by
            generalize z2.2 = xs
            induction xs with
            | nil => simp
            | cons f fs ih =>
              obtain ⟨i1, i2⟩ := ih
              rw [List.map_cons]
              refine ⟨by rw [cl_cons, i1]; simp, ?_⟩
              rw [dp_cons]
              exact Nat.max_le.mpr ⟨by simp, i2⟩
          refine ⟨l, rec, ks, far, o, rfl, ok.arg, (lo o ho).1, ?_⟩
          rw [hf0]
          refine ⟨o.map dOut, rfl, sh1, sh2, by omega, sh4, _, hget, _, rfl, ?_, ⟨hsh.1, by omega⟩, Or.inl ⟨dInts f0.del, List.mem_map.mpr ⟨_, hin, rfl⟩, ?_⟩⟩
          · simp [optI]
          · show PyData.eqv (dInts f0.del) (dInts f0.del) = true
            rw [ints_eqv]
            simp
        · rintro Γ2 ⟨x, y, rfl⟩
          simp
          exact h
end HT2
set_option maxRecDepth 100000
set_option maxHeartbeats 8000000
namespace HT2
open PySem PySem.Spec PyProof.Rows L2 StX PL SN
variable {P : Program} {w : World} {K : PySem.W.Frag} {mg : Str → Option Value} {base : Heap}
theorem fnG_ex {k : Nat} {f : Addr} {fd : FuncData} {ps : List Str} {ρ : Addr → List Int → AF} (F : ∀ a ns, FnG P w K mg base k f fd ps (spE (ρ a ns))) : FnG P w K mg base k f fd ps (spE fun es P => ∃ a ns, ρ a ns es P) :=
  ⟨fun vs H Q E ⟨L, es, P, hl, s, ⟨a, ns, r⟩, kk⟩ => (F a ns).len vs H Q E ⟨L, es, P, hl, s, r, kk⟩, fun A outer s H args us vs Q E hg hr e0 hb hv ⟨L, es, P, hl, sp, ⟨a, ns, r⟩, kk⟩ => (F a ns).run A outer s H args us vs Q E hg hr e0 hb hv ⟨L, es, P, hl, sp, r, kk⟩⟩
def S_law (K : PySem.W.Frag) (a : Addr) (ns : List Int) : AF := fun es P => es = [.ow (scrO K a ns)] ∧ ns.length ≤ 63 ∧ ∀ es', P (.sh (.bool true)) es'
abbrev s_law : Stmt := top 66
theorem sc_law : FnScope ["_law_script", "_law_at", "_law_pool_here", "_law_size", "_law_layout_here", "_law_tick", "_law_record", "_law_key", "_law_way", "_law_half"] ["_law_script"] (defScope s_law) := ⟨rfl, rfl, rfl, by decide +kernel, rfl, by decide +kernel, by decide +kernel⟩
theorem ok_law (B : Bl mg) {a : Addr} {ns : List Int} (F__law_pool : Fx P w K mg base 1 "_law_pool" ["_law_script", "_law_at"] (S__law_pool K a ns)) (F__law_draw : Fx P w K mg base 1 "_law_draw" ["_law_pool_here", "_law_many"] (S__law_draw)) (F__law_layout : Fx P w K mg base 3 "_law_layout" ["_law_pool_here", "_law_wide", "_law_tall", "_law_top", "_law_often"] (S__law_layout)) (F__law_order : Fx P w K mg base 2 "_law_order" ["_law_pool_here", "_law_many", "_law_size"] (S__law_order)) (F__law_right : FxG P w K mg base 15 "_law_right" ["_law_layout_here", "_law_record", "_law_half", "_law_far"] (pf R__law_right)) {f : Addr} {fd : FuncData} (A : At K mg "law" "law" s_law f fd) : FnG P w K mg base 16 f fd ["_law_script"] (spE (S_law K a ns)) := by
  refine okG_def A.fn sc_law [] ?len ?body
  case body =>
    intro cdv A outer s H E hg hr
    refine ⟨_, (ass_cons (as_for PassesOwn.never rfl (ai_range1 (by rfl) B.range (axa_cons (ax_callB (call_max2 rfl) sndC_2 (by rfl) B.max (by decide +kernel) (axa_cons ax_int (axa_cons (ax_callB (call_min2 rfl) sndC_2 (by rfl) B.min (by decide +kernel) (axa_cons ax_int (axa_cons (ax_lenS (a := a) (ns := ns) 0 (by rfl) B.len) axa_nil))) axa_nil))) axa_nil)) (ag_n 1 sc_law.nd)
        (ass_cons (as_set 2 sc_law.nd (ax_fnP F__law_pool (hr.mono (by decide)) (by rfl) (pe_v 0) (pl_slot 0) (axa_cons (ax_v 1) axa_nil)))
      (ass_one (as_for PassesOwn.never rfl (ai_list (ax_lst (axa_cons (ax_fnP F__law_draw (hr.mono (by decide)) (by rfl) (pe_v 2) (pl_slot 2) (axa_cons ax_int axa_nil)) (axa_cons (ax_ix (ax_lst (axa_cons ax_int (axa_cons ax_int axa_nil))) (ax_callTy call_int1 sndC_int1 (by rfl) B.int (by decide +kernel) (axa_cons (ax_neS (a := a) (ns := ns) 0 hr.units) axa_nil))) axa_nil)))) (ag_n 3 sc_law.nd)
        (ass_cons (as_par3 (i := 4) (j := 5) (l := 6) rfl sc_law.nd (axa_cons (ax_fnP F__law_layout (hr.mono (by decide)) (by rfl) (pe_v 2) (pl_slot 2) (axa_cons ax_int (axa_cons ax_int (axa_cons ax_int (axa_cons ax_int axa_nil))))) (axa_cons ax_int (axa_cons (ax_lstO axa_nil) axa_nil))))
      (ass_cons (as_for PassesOwn.never rfl (ai_list (ax_fnP F__law_order (hr.mono (by decide)) (by rfl) (pe_v 2) (pl_slot 2) (axa_cons (ax_callB call_len sndC_len (by rfl) B.len PySem.boot_len (axa_cons (ax_ix (ax_v 4) ax_int) axa_nil)) (axa_cons (ax_v 3) axa_nil)))) (ag_tup (n := 2) rfl (ags_cons (ag_n 7 sc_law.nd) (ags_cons (ag_n 8 sc_law.nd) ags_nil)))
        (ass_cons (as_set 5 sc_law.nd (ax_add (ax_v 5) (ax_fnP F__law_draw (hr.mono (by decide)) (by rfl) (pe_v 2) (pl_slot 2) (axa_cons ax_int axa_nil))))
      (ass_one (as_append 6 (ax_tup (axa_cons (ax_v 5) (axa_cons (ax_v 7) (axa_cons (ax_v 8) axa_nil))))))))
      (ass_cons (as_setLc 9 (own := [("_law_key", 7)]) aSh snd_sh rfl sc_law.nd (ai_range1 (by rfl) B.range (axa_cons (ax_callB call_len sndC_len (by rfl) B.len PySem.boot_len (axa_cons (ax_ix (ax_v 4) ax_int) axa_nil)) axa_nil)) (blkOk_by (show blkC ["_law_script", "_law_at", "_law_pool_here", "_law_size", "_law_layout_here", "_law_tick", "_law_record", "_law_key", "_law_way", "_law_half"] (defScope s_law) _ [("_law_key", 7)] = true from by decide +kernel)) (fun _ _ _ _ _ => (ag_n 7 sc_law.nd)) (fun _ _ _ _ _ => ats_c (ats_one (at_eq hr.units (ax_fnP F__law_draw (hr.mono (by decide)) (by rfl) (pe_v 2) (pl_slot 2) (axa_cons ax_int axa_nil)) ax_int))) (fun _ _ _ _ _ => ax_c (ax_v 7)) (sw_true rfl rfl rfl (by decide +kernel)))
      (ass_one (as_if (at_not (at_val (ax_fnG hg F__law_right (hr.mono (by decide)) (by rfl) (axa_cons (ax_v 4) (axa_cons (ax_sh (ax_mv 6)) (axa_cons (ax_v 9) (axa_cons (ax_add ax_int (ax_fnP F__law_draw (hr.mono (by decide)) (by rfl) (pe_v 2) (pl_slot 2) (axa_cons ax_int axa_nil))) axa_nil))))))) (ass_one (as_ret ax_bl)) ass_nil)))))))))
      (ass_one (as_ret ax_bl))), ?_⟩
    rintro es P ⟨rfl, hn, h⟩
    show sSeq _ _ _ [.ow (scrO K a ns), .no, .no, .no, .no, .no, .no, .no, .no, .no]
    simp
    have hN : ∃ N : Nat, N ≤ 2 ∧ (if 1 < if (ns.length : Int) < 2 then (ns.length : Int) else 2 then if (ns.length : Int) < 2 then (ns.length : Int) else 2 else 1) = (N : Int) := by
      by_cases c : 2 ≤ ns.length
      · exact ⟨2, Nat.le_refl _, by
          rw [if_neg (show ¬ (ns.length : Int) < 2 by omega)]
          rfl⟩
      · exact ⟨1, by decide, by
          rw [if_pos (show (ns.length : Int) < 2 by omega), if_neg (show ¬ (1 : Int) < (ns.length : Int) by omega)]
          rfl⟩
    obtain ⟨N, hN2, eN⟩ := hN
    rw [eN]
    refine ⟨rfl, by omega, by omega, ?_⟩
    rw [rangeD_map]
    refine for_t (List.range N) (fun (k : Nat) => .int ((0 : Int) + k)) (fun _ Γ => ∃ x1 x2 x3 x4 x5 x6 x7 x8 x9, Γ = [.ow (scrO K a ns), x1, x2, x3, x4, x5, x6, x7, x8, x9]) (by simp) ⟨_, _, _, _, _, _, _, _, _, rfl⟩ ?_ ?_
    · rintro q k q2 Γ2 e ⟨x1, x2, x3, x4, x5, x6, x7, x8, x9, rfl⟩
      obtain ⟨rfl, hk⟩ := range_split e
      simp
      refine ⟨q.length, rfl, by omega, by omega, fun p0 ok0 => ⟨rfl, ?_⟩⟩
      refine draw_step ok0 (by omega) (by omega) (by omega) fun r1 p1 hr1 ok1 => ⟨rfl, ?_⟩
      by_cases hne : ns = []
      · refine Or.inl ⟨hne, _, rfl, sz2, ?_⟩
        refine for_t [r1, 5] (fun (n : Nat) => .int n) (fun q3 Γ => ∃ p2 x3 x4 x5 x6 x7 x8 x9, PoolOk (1 + 2100 * q3.length) p2 ∧ Γ = [.ow (scrO K a ns), .sh (.int (q.length : Nat)), enPool p2, x3, x4, x5, x6, x7, x8, x9]) rfl ⟨p1, _, _, _, _, _, _, _, ok1, rfl⟩ ?_ ?_
        · rintro q3 z q4 Γ3 e3 ⟨p2, x3, x4, x5, x6, x7, x8, x9, ok2, rfl⟩
          have hz : z ≤ 5 ∧ q3.length ≤ 1 := by
            have h1 := congrArg List.length e3
            simp at h1
            have h2 : z ∈ [r1, 5] := by rw [e3]; simp
            simp at h2
            omega
          simp
          refine ⟨rfl, 1 + 2100 * q3.length, p2, 3, 3, 4, 6, rfl, ok2, by omega, by omega, by omega, by omega, by omega, by omega, by omega, fun l p3 la wl ok3 => ?_⟩
          refine ⟨_, _, _, ⟨rfl, rfl, rfl⟩, rfl, _, rfl, _, Or.inl rfl, ?_⟩
          obtain ⟨row0, rest, el⟩ : ∃ row0 rest, l = row0 :: rest := by
            cases l with
            | nil => have := la.n1; simp at this
            | cons a b => exact ⟨a, b, rfl⟩
          have hw : row0.length = wide l := by rw [el]; rfl
          have hw1 := la.w1
          refine ⟨dRow row0, by rw [el]; rfl, (row0.map dAct).length, rfl, ?_⟩
          rw [List.length_map, hw]
          refine ⟨_, _, wide l, z, rfl, ok3, by omega, by omega, by omega, by omega, fun order p4 ol oo ok4 => ⟨_, rfl, ?_⟩⟩
          refine for_t order dStep (fun p Γ => ∃ (rec : Rec) (tick : Int) (p5 : Pool) (x7 x8 x9 : En), rec.map Ev.s = p ∧ (rec.Pairwise fun x y => x.t ≤ y.t) ∧ (∀ x ∈ rec, 0 ≤ x.t ∧ x.t ≤ tick) ∧ 0 ≤ tick ∧ tick ≤ 2 * p.length ∧ PoolOk (1 + 2100 * q3.length + 2000 + p.length) p5 ∧ Γ = [.ow (scrO K a ns), .sh (.int (q.length : Nat)), enPool p5, .sh (.int z), .sh (dLay l), .sh (.int tick), .lst ((rec.map dEv).map .sh), x7, x8, x9]) rfl ⟨[], 0, p4, _, _, _, rfl, List.Pairwise.nil, fun x hx => absurd hx (by simp), Int.le_refl _, by simp, ok4.up (by simp), rfl⟩ ?_ ?_
          · rintro p ⟨k, d⟩ q5 Γ4 e5 ⟨rec, tick, p5, x7, x8, x9, hrs, hrp, hrt, ht0, ht1, ok5, rfl⟩
            have hpl : p.length < z := by
              have h1 := congrArg List.length e5
              simp at h1
              omega
            have hrl : rec.length = p.length := by rw [← hrs, List.length_map]
            simp
            refine ⟨rfl, draw_step ok5 (by omega) (by omega) (by omega) fun r p6 hr6 ok6 => ⟨_, rfl, sz_lt (m := 5) (by omega), rec ++ [⟨tick + r, k, d⟩], ?_, ?_, tick + r, ?_, by omega, by omega, p6, ok6.up (by omega), rfl, rfl, ?_⟩⟩
            · rw [List.map_append, hrs]
              rfl
            · rw [List.pairwise_append]
              refine ⟨hrp, List.pairwise_singleton _ _, fun x hx y hy => ?_⟩
              rw [List.mem_singleton.mp hy]
              have := (hrt x hx).2
              show x.t ≤ tick + r
              omega
            · intro x hx
              rcases List.mem_append.mp hx with y | y
              · have := hrt x y
                omega
              · rw [List.mem_singleton.mp y]
                show 0 ≤ tick + (r : Int) ∧ tick + (r : Int) ≤ tick + r
                omega
            · simp
          · rintro Γ4 ⟨rec, tick, p5, x7, x8, x9, hrs, hrp, hrt, ht0, ht1, ok5, rfl⟩
            simp
            have hl0 : l[0]? = some row0 := by rw [el]; rfl
            have hrl : rec.length = order.length := by rw [← hrs, List.length_map]
            have ww : wide l ≤ 3 := by omega
            refine ⟨_, ⟨row0, hl0, rfl⟩, (row0.map dAct).length, rfl, ?_⟩
            rw [List.length_map, hw, rangeD_map]
            refine ⟨by omega, ?_⟩
            refine lc_pre (List.range (wide l)) (fun (k : Nat) => .int ((0 : Int) + k)) (fun p acc Γ => ∃ (ks : List Nat) (p6 : Pool), acc = ks.map (fun (n : Nat) => En.sh (.int n)) ∧ ks.Pairwise (· < ·) ∧ (∀ k ∈ ks, k < p.length) ∧ ks.length ≤ p.length ∧ PoolOk (1 + 2100 * q3.length + 2000 + order.length + p.length) p6 ∧ Γ = [.ow (scrO K a ns), .sh (.int (q.length : Nat)), enPool p6, .sh (.int z), .sh (dLay l), .sh (.int tick), .lst ((rec.map dEv).map .sh), .no, x8, x9]) (by simp) ⟨[], p5, rfl, List.Pairwise.nil, fun k hk => absurd hk (by simp), Nat.le_refl _, ok5.up (by simp), by simp⟩ ?_ ?_
            · rintro p k q5 acc Γ5 e5 ⟨ks, p6, rfl, hkp, hkl, hkn, ok6, rfl⟩
              obtain ⟨rfl, hkk⟩ := range_split e5
              simp
              refine ⟨rfl, draw_step ok6 (by omega) (by omega) (by omega) fun r p7 hr7 ok7 => ⟨_, rfl, ⟨by simp, by simp⟩, ?_⟩⟩
              by_cases c : r = 0
              · rw [if_pos (by simp [c])]
                refine ⟨sz_lt (m := 16) (by omega), ks ++ [p.length], by simp, ?_, ?_, by simp; omega, p7, ok7.up (by omega), rfl⟩
                · rw [List.pairwise_append]
                  refine ⟨hkp, List.pairwise_singleton _ _, fun x hx y hy => ?_⟩
                  rw [List.mem_singleton.mp hy]
                  exact hkl x hx
                · intro x hx
                  rcases List.mem_append.mp hx with y | y
                  · have := hkl x y
                    omega
                  · rw [List.mem_singleton.mp y]
                    omega
              · rw [if_neg (by simp; omega)]
                exact ⟨ks, rfl, hkp, fun x hx => by have := hkl x hx; omega, by omega, p7, ok7.up (by omega), rfl⟩
            · rintro acc Γ5 ⟨ks, p6, rfl, hkp, hkl, hkn, ok6, rfl⟩
              simp
              rw [List.length_range] at hkl hkn ok6
              refine ⟨rfl, draw_step ok6 (by omega) (by omega) (by omega) fun r p7 hr7 ok7 => ⟨_, rfl, l, rec, ks, 1 + r, rfl, ?_, Or.inr ⟨rfl, p7, ok7.up (by omega), rfl⟩⟩⟩
              refine ⟨la, ⟨by omega, fun p x y q' e => ?_, by rw [hrs]; exact oo⟩, ⟨hkl, fun x hx => ?_, by omega⟩, by omega, fun x hx => ?_, by omega, by omega⟩
              · rw [e, List.pairwise_append] at hrp
                exact (List.pairwise_cons.mp hrp.2.1).1 y List.mem_cons_self
              · obtain ⟨i, hi, ei⟩ := List.mem_iff_getElem.mp hx
                rw [List.length_zip, List.length_drop] at hi
                rw [List.getElem_zip, List.getElem_drop] at ei
                have := List.pairwise_iff_getElem.mp hkp i (1 + i) (by omega) (by omega) (by omega)
                rw [← ei]
                exact this
              · have := hrt x hx
                omega
        · rintro Γ3 ⟨p2, x3, x4, x5, x6, x7, x8, x9, ok2, rfl⟩
          exact ⟨_, _, _, _, _, _, _, _, _, rfl⟩
      · refine Or.inr ⟨hne, _, rfl, sz2, ?_⟩
        refine for_t [r1, 4] (fun (n : Nat) => .int n) (fun q3 Γ => ∃ p2 x3 x4 x5 x6 x7 x8 x9, PoolOk (1 + 2100 * q3.length) p2 ∧ Γ = [.ow (scrO K a ns), .sh (.int (q.length : Nat)), enPool p2, x3, x4, x5, x6, x7, x8, x9]) rfl ⟨p1, _, _, _, _, _, _, _, ok1, rfl⟩ ?_ ?_
        · rintro q3 z q4 Γ3 e3 ⟨p2, x3, x4, x5, x6, x7, x8, x9, ok2, rfl⟩
          have hz : z ≤ 5 ∧ q3.length ≤ 1 := by
            have h1 := congrArg List.length e3
            simp at h1
            have h2 : z ∈ [r1, 4] := by rw [e3]; simp
            simp at h2
            omega
          simp
          refine ⟨rfl, 1 + 2100 * q3.length, p2, 3, 3, 4, 6, rfl, ok2, by omega, by omega, by omega, by omega, by omega, by omega, by omega, fun l p3 la wl ok3 => ?_⟩
          refine ⟨_, _, _, ⟨rfl, rfl, rfl⟩, rfl, _, rfl, _, Or.inl rfl, ?_⟩
          obtain ⟨row0, rest, el⟩ : ∃ row0 rest, l = row0 :: rest := by
            cases l with
            | nil => have := la.n1; simp at this
            | cons a b => exact ⟨a, b, rfl⟩
          have hw : row0.length = wide l := by rw [el]; rfl
          have hw1 := la.w1
          refine ⟨dRow row0, by rw [el]; rfl, (row0.map dAct).length, rfl, ?_⟩
          rw [List.length_map, hw]
          refine ⟨_, _, wide l, z, rfl, ok3, by omega, by omega, by omega, by omega, fun order p4 ol oo ok4 => ⟨_, rfl, ?_⟩⟩
          refine for_t order dStep (fun p Γ => ∃ (rec : Rec) (tick : Int) (p5 : Pool) (x7 x8 x9 : En), rec.map Ev.s = p ∧ (rec.Pairwise fun x y => x.t ≤ y.t) ∧ (∀ x ∈ rec, 0 ≤ x.t ∧ x.t ≤ tick) ∧ 0 ≤ tick ∧ tick ≤ 2 * p.length ∧ PoolOk (1 + 2100 * q3.length + 2000 + p.length) p5 ∧ Γ = [.ow (scrO K a ns), .sh (.int (q.length : Nat)), enPool p5, .sh (.int z), .sh (dLay l), .sh (.int tick), .lst ((rec.map dEv).map .sh), x7, x8, x9]) rfl ⟨[], 0, p4, _, _, _, rfl, List.Pairwise.nil, fun x hx => absurd hx (by simp), Int.le_refl _, by simp, ok4.up (by simp), rfl⟩ ?_ ?_
          · rintro p ⟨k, d⟩ q5 Γ4 e5 ⟨rec, tick, p5, x7, x8, x9, hrs, hrp, hrt, ht0, ht1, ok5, rfl⟩
            have hpl : p.length < z := by
              have h1 := congrArg List.length e5
              simp at h1
              omega
            have hrl : rec.length = p.length := by rw [← hrs, List.length_map]
            simp
            refine ⟨rfl, draw_step ok5 (by omega) (by omega) (by omega) fun r p6 hr6 ok6 => ⟨_, rfl, sz_lt (m := 5) (by omega), rec ++ [⟨tick + r, k, d⟩], ?_, ?_, tick + r, ?_, by omega, by omega, p6, ok6.up (by omega), rfl, rfl, ?_⟩⟩
            · rw [List.map_append, hrs]
              rfl
            · rw [List.pairwise_append]
              refine ⟨hrp, List.pairwise_singleton _ _, fun x hx y hy => ?_⟩
              rw [List.mem_singleton.mp hy]
              have := (hrt x hx).2
              show x.t ≤ tick + r
              omega
            · intro x hx
              rcases List.mem_append.mp hx with y | y
              · have := hrt x y
                omega
              · rw [List.mem_singleton.mp y]
                show 0 ≤ tick + (r : Int) ∧ tick + (r : Int) ≤ tick + r
                omega
            · simp
          · rintro Γ4 ⟨rec, tick, p5, x7, x8, x9, hrs, hrp, hrt, ht0, ht1, ok5, rfl⟩
            simp
            have hl0 : l[0]? = some row0 := by rw [el]; rfl
            have hrl : rec.length = order.length := by rw [← hrs, List.length_map]
            have ww : wide l ≤ 3 := by omega
            refine ⟨_, ⟨row0, hl0, rfl⟩, (row0.map dAct).length, rfl, ?_⟩
            rw [List.length_map, hw, rangeD_map]
            refine ⟨by omega, ?_⟩
            refine lc_pre (List.range (wide l)) (fun (k : Nat) => .int ((0 : Int) + k)) (fun p acc Γ => ∃ (ks : List Nat) (p6 : Pool), acc = ks.map (fun (n : Nat) => En.sh (.int n)) ∧ ks.Pairwise (· < ·) ∧ (∀ k ∈ ks, k < p.length) ∧ ks.length ≤ p.length ∧ PoolOk (1 + 2100 * q3.length + 2000 + order.length + p.length) p6 ∧ Γ = [.ow (scrO K a ns), .sh (.int (q.length : Nat)), enPool p6, .sh (.int z), .sh (dLay l), .sh (.int tick), .lst ((rec.map dEv).map .sh), .no, x8, x9]) (by simp) ⟨[], p5, rfl, List.Pairwise.nil, fun k hk => absurd hk (by simp), Nat.le_refl _, ok5.up (by simp), by simp⟩ ?_ ?_
            · rintro p k q5 acc Γ5 e5 ⟨ks, p6, rfl, hkp, hkl, hkn, ok6, rfl⟩
              obtain ⟨rfl, hkk⟩ := range_split e5
              simp
              refine ⟨rfl, draw_step ok6 (by omega) (by omega) (by omega) fun r p7 hr7 ok7 => ⟨_, rfl, ⟨by simp, by simp⟩, ?_⟩⟩
              by_cases c : r = 0
              · rw [if_pos (by simp [c])]
                refine ⟨sz_lt (m := 16) (by omega), ks ++ [p.length], by simp, ?_, ?_, by simp; omega, p7, ok7.up (by omega), rfl⟩
                · rw [List.pairwise_append]
                  refine ⟨hkp, List.pairwise_singleton _ _, fun x hx y hy => ?_⟩
                  rw [List.mem_singleton.mp hy]
                  exact hkl x hx
                · intro x hx
                  rcases List.mem_append.mp hx with y | y
                  · have := hkl x y
                    omega
                  · rw [List.mem_singleton.mp y]
                    omega
              · rw [if_neg (by simp; omega)]
                exact ⟨ks, rfl, hkp, fun x hx => by have := hkl x hx; omega, by omega, p7, ok7.up (by omega), rfl⟩
            · rintro acc Γ5 ⟨ks, p6, rfl, hkp, hkl, hkn, ok6, rfl⟩
              simp
              rw [List.length_range] at hkl hkn ok6
              refine ⟨rfl, draw_step ok6 (by omega) (by omega) (by omega) fun r p7 hr7 ok7 => ⟨_, rfl, l, rec, ks, 1 + r, rfl, ?_, Or.inr ⟨rfl, p7, ok7.up (by omega), rfl⟩⟩⟩
              refine ⟨la, ⟨by omega, fun p x y q' e => ?_, by rw [hrs]; exact oo⟩, ⟨hkl, fun x hx => ?_, by omega⟩, by omega, fun x hx => ?_, by omega, by omega⟩
              · rw [e, List.pairwise_append] at hrp
                exact (List.pairwise_cons.mp hrp.2.1).1 y List.mem_cons_self
              · obtain ⟨i, hi, ei⟩ := List.mem_iff_getElem.mp hx
                rw [List.length_zip, List.length_drop] at hi
                rw [List.getElem_zip, List.getElem_drop] at ei
                have := List.pairwise_iff_getElem.mp hkp i (1 + i) (by omega) (by omega) (by omega)
                rw [← ei]
                exact this
              · have := hrt x hx
                omega
        · rintro Γ3 ⟨p2, x3, x4, x5, x6, x7, x8, x9, ok2, rfl⟩
          exact ⟨_, _, _, _, _, _, _, _, _, rfl⟩
    · rintro Γ2 ⟨x1, x2, x3, x4, x5, x6, x7, x8, x9, rfl⟩
      simp
      exact h _
  case len =>
    rintro es P ⟨rfl, _⟩
    rfl
end HT2
set_option maxRecDepth 100000
set_option maxHeartbeats 0
namespace HT2
open PySem PySem.Spec PyProof.Rows L2 StX PL SN
/-! ### the head: facts by names, the run -/
def d_is_integer : He.DefD := ⟨("is_integer", none), "is_integer", "is_integer", defArgs s_is_integer, defBody s_is_integer, defScope s_is_integer, [], []⟩
def d_is_code : He.DefD := ⟨("is_code", none), "is_code", "is_code", defArgs s_is_code, defBody s_is_code, defScope s_is_code, [], []⟩
def d_is_hold : He.DefD := ⟨("is_hold", none), "is_hold", "is_hold", defArgs s_is_hold, defBody s_is_hold, defScope s_is_hold, [], []⟩
def d_is_action : He.DefD := ⟨("is_action", none), "is_action", "is_action", defArgs s_is_action, defBody s_is_action, defScope s_is_action, [], []⟩
def d_is_table : He.DefD := ⟨("is_table", none), "is_table", "is_table", defArgs s_is_table, defBody s_is_table, defScope s_is_table, [], []⟩
def d_wrong_places : He.DefD := ⟨("wrong_places", none), "wrong_places", "wrong_places", defArgs s_wrong_places, defBody s_wrong_places, defScope s_wrong_places, [], []⟩
def d_require_layout : He.DefD := ⟨("require_layout", none), "require_layout", "require_layout", defArgs s_require_layout, defBody s_require_layout, defScope s_require_layout, [], []⟩
def d_wrong_step : He.DefD := ⟨("wrong_step", none), "wrong_step", "wrong_step", defArgs s_wrong_step, defBody s_wrong_step, defScope s_wrong_step, [], []⟩
def d_first_wrong_step : He.DefD := ⟨("first_wrong_step", none), "first_wrong_step", "first_wrong_step", defArgs s_first_wrong_step, defBody s_first_wrong_step, defScope s_first_wrong_step, [], []⟩
def d_first_wrong_event : He.DefD := ⟨("first_wrong_event", none), "first_wrong_event", "first_wrong_event", defArgs s_first_wrong_event, defBody s_first_wrong_event, defScope s_first_wrong_event, [], []⟩
def d_is_events : He.DefD := ⟨("is_events", none), "is_events", "is_events", defArgs s_is_events, defBody s_is_events, defScope s_is_events, [], []⟩
def d_require_record_with : He.DefD := ⟨("require_record_with", none), "require_record_with", "require_record_with", defArgs s_require_record_with, defBody s_require_record_with, defScope s_require_record_with, [], []⟩
def d_require_record : He.DefD := ⟨("require_record", none), "require_record", "require_record", defArgs s_require_record, defBody s_require_record, defScope s_require_record, [], []⟩
def d_is_dual : He.DefD := ⟨("is_dual", none), "is_dual", "is_dual", defArgs s_is_dual, defBody s_is_dual, defScope s_is_dual, [], []⟩
def d_carried_out : He.DefD := ⟨("carried_out", none), "carried_out", "carried_out", defArgs s_carried_out, defBody s_carried_out, defScope s_carried_out, [], []⟩
def d_decider_of : He.DefD := ⟨("decider_of", none), "decider_of", "decider_of", defArgs s_decider_of, defBody s_decider_of, defScope s_decider_of, [], []⟩
def d_sure_event : He.DefD := ⟨("sure_event", none), "sure_event", "sure_event", defArgs s_sure_event, defBody s_sure_event, defScope s_sure_event, [], []⟩
def d_decided : He.DefD := ⟨("decided", none), "decided", "decided", defArgs s_decided, defBody s_decided, defScope s_decided, [], []⟩
def d_Player___init__ : He.DefD := ⟨("Player", some "__init__"), "__init__", "Player.__init__", defArgs s_Player___init__, defBody s_Player___init__, defScope s_Player___init__, [], []⟩
def d_Player_copy : He.DefD := ⟨("Player", some "copy"), "copy", "Player.copy", defArgs s_Player_copy, defBody s_Player_copy, defScope s_Player_copy, [], []⟩
def d_Player_is_on : He.DefD := ⟨("Player", some "is_on"), "is_on", "Player.is_on", defArgs s_Player_is_on, defBody s_Player_is_on, defScope s_Player_is_on, [], []⟩
def d_Player_layers_here : He.DefD := ⟨("Player", some "layers_here"), "layers_here", "Player.layers_here", defArgs s_Player_layers_here, defBody s_Player_layers_here, defScope s_Player_layers_here, [], []⟩
def d_Player_look : He.DefD := ⟨("Player", some "look"), "look", "Player.look", defArgs s_Player_look, defBody s_Player_look, defScope s_Player_look, [], []⟩
def d_Player_down : He.DefD := ⟨("Player", some "down"), "down", "Player.down", defArgs s_Player_down, defBody s_Player_down, defScope s_Player_down, [], []⟩
def d_Player_up : He.DefD := ⟨("Player", some "up"), "up", "Player.up", defArgs s_Player_up, defBody s_Player_up, defScope s_Player_up, [], []⟩
def d_steps_of : He.DefD := ⟨("steps_of", none), "steps_of", "steps_of", defArgs s_steps_of, defBody s_steps_of, defScope s_steps_of, [], []⟩
def d_played : He.DefD := ⟨("played", none), "played", "played", defArgs s_played, defBody s_played, defScope s_played, [], []⟩
def d_flat : He.DefD := ⟨("flat", none), "flat", "flat", defArgs s_flat, defBody s_flat, defScope s_flat, [], []⟩
def d_lifted_numbers : He.DefD := ⟨("lifted_numbers", none), "lifted_numbers", "lifted_numbers", defArgs s_lifted_numbers, defBody s_lifted_numbers, defScope s_lifted_numbers, [], []⟩
def d_press_bound : He.DefD := ⟨("press_bound", none), "press_bound", "press_bound", defArgs s_press_bound, defBody s_press_bound, defScope s_press_bound, [], []⟩
def d_plain_step : He.DefD := ⟨("plain_step", none), "plain_step", "plain_step", defArgs s_plain_step, defBody s_plain_step, defScope s_plain_step, [], []⟩
def d_choice_at : He.DefD := ⟨("choice_at", none), "choice_at", "choice_at", defArgs s_choice_at, defBody s_choice_at, defScope s_choice_at, [], []⟩
def d_Way___init__ : He.DefD := ⟨("Way", some "__init__"), "__init__", "Way.__init__", defArgs s_Way___init__, defBody s_Way___init__, defScope s_Way___init__, [], []⟩
def d_Way_turned : He.DefD := ⟨("Way", some "turned"), "turned", "Way.turned", defArgs s_Way_turned, defBody s_Way_turned, defScope s_Way_turned, [], []⟩
def d_Way_play : He.DefD := ⟨("Way", some "play"), "play", "Way.play", defArgs s_Way_play, defBody s_Way_play, defScope s_Way_play, [], []⟩
def d_ways_of : He.DefD := ⟨("ways_of", none), "ways_of", "ways_of", defArgs s_ways_of, defBody s_ways_of, defScope s_ways_of, [], []⟩
def d_require_keys : He.DefD := ⟨("require_keys", none), "require_keys", "require_keys", defArgs s_require_keys, defBody s_require_keys, defScope s_require_keys, [], []⟩
def d_require_arguments : He.DefD := ⟨("require_arguments", none), "require_arguments", "require_arguments", defArgs s_require_arguments, defBody s_require_arguments, defScope s_require_arguments, [], []⟩
def d_merged_rows : He.DefD := ⟨("merged_rows", none), "merged_rows", "merged_rows", defArgs s_merged_rows, defBody s_merged_rows, defScope s_merged_rows, [], []⟩
def d_arrival_bounds : He.DefD := ⟨("arrival_bounds", none), "arrival_bounds", "arrival_bounds", defArgs s_arrival_bounds, defBody s_arrival_bounds, defScope s_arrival_bounds, [], []⟩
def d_arrivals : He.DefD := ⟨("arrivals", none), "arrivals", "arrivals", defArgs s_arrivals, defBody s_arrivals, defScope s_arrivals, [], []⟩
def d_delays_for : He.DefD := ⟨("delays_for", none), "delays_for", "delays_for", defArgs s_delays_for, defBody s_delays_for, defScope s_delays_for, [], []⟩
def d_safe_late : He.DefD := ⟨("safe_late", none), "safe_late", "safe_late", defArgs s_safe_late, defBody s_safe_late, defScope s_safe_late, [], []⟩
def d__law_pool : He.DefD := ⟨("_law_pool", none), "_law_pool", "_law_pool", defArgs s__law_pool, defBody s__law_pool, defScope s__law_pool, [], []⟩
def d__law_draw : He.DefD := ⟨("_law_draw", none), "_law_draw", "_law_draw", defArgs s__law_draw, defBody s__law_draw, defScope s__law_draw, [], []⟩
def d__law_action : He.DefD := ⟨("_law_action", none), "_law_action", "_law_action", defArgs s__law_action, defBody s__law_action, defScope s__law_action, [], []⟩
def d__law_layout : He.DefD := ⟨("_law_layout", none), "_law_layout", "_law_layout", defArgs s__law_layout, defBody s__law_layout, defScope s__law_layout, [], []⟩
def d__law_order : He.DefD := ⟨("_law_order", none), "_law_order", "_law_order", defArgs s__law_order, defBody s__law_order, defScope s__law_order, [], []⟩
def d__law_delays : He.DefD := ⟨("_law_delays", none), "_law_delays", "_law_delays", defArgs s__law_delays, defBody s__law_delays, defScope s__law_delays, [], []⟩
def d__law_arrived : He.DefD := ⟨("_law_arrived", none), "_law_arrived", "_law_arrived", defArgs s__law_arrived, defBody s__law_arrived, defScope s__law_arrived, [], []⟩
def d_late_results : He.DefD := ⟨("late_results", none), "late_results", "late_results", defArgs s_late_results, defBody s_late_results, defScope s_late_results, [], []⟩
def d__law_right : He.DefD := ⟨("_law_right", none), "_law_right", "_law_right", defArgs s__law_right, defBody s__law_right, defScope s__law_right, [], []⟩
def d_law : He.DefD := ⟨("law", none), "law", "law", defArgs s_law, defBody s_law, defScope s_law, [], []⟩
def hdFn : List He.DefD := [d_is_integer, d_is_code, d_is_hold, d_is_action, d_is_table, d_wrong_places, d_require_layout, d_wrong_step, d_first_wrong_step, d_first_wrong_event, d_is_events, d_require_record_with, d_require_record, d_is_dual, d_carried_out, d_decider_of, d_sure_event, d_decided, d_Player___init__, d_Player_copy, d_Player_is_on, d_Player_layers_here, d_Player_look, d_Player_down, d_Player_up, d_steps_of, d_played, d_flat, d_lifted_numbers, d_press_bound, d_plain_step, d_choice_at, d_Way___init__, d_Way_turned, d_Way_play, d_ways_of, d_require_keys, d_require_arguments, d_merged_rows, d_arrival_bounds, d_arrivals, d_delays_for, d_safe_late, d__law_pool, d__law_draw, d__law_action, d__law_layout, d__law_order, d__law_delays, d__law_arrived, d_late_results, d__law_right, d_law]
def hdFa : List He.Fa := [.glo "is_integer", .glo "is_code", .glo "is_hold", .glo "is_action", .glo "is_table", .glo "wrong_places", .glo "require_layout", .glo "wrong_step", .glo "first_wrong_step", .glo "first_wrong_event", .glo "is_events", .glo "require_record_with", .glo "require_record", .glo "is_dual", .glo "carried_out", .glo "decider_of", .glo "sure_event", .glo "decided", .glo "steps_of", .glo "played", .glo "flat", .glo "lifted_numbers", .glo "press_bound", .glo "plain_step", .glo "choice_at", .glo "ways_of", .glo "require_keys", .glo "require_arguments", .glo "merged_rows", .glo "arrival_bounds", .glo "arrivals", .glo "delays_for", .glo "safe_late", .glo "_law_pool", .glo "_law_draw", .glo "_law_action", .glo "_law_layout", .glo "_law_order", .glo "_law_delays", .glo "_law_arrived", .glo "late_results", .glo "_law_right", .glo "law", .glo "Player", .glo "Way", .glo "RULES", .free "isinstance", .free "int", .free "bool", .free "str", .free "list", .free "tuple", .free "dict", .free "len", .free "range", .free "enumerate", .free "zip", .free "all", .free "any", .free "max", .free "min", .free "abs", .free "sorted", .free "repr", .int "MOST_TIME" (10 ^ 9), .int "MOST_EVENTS_values" 400, .int "MOST_LATE" (10 ^ 9), .int "MOST_EVENTS_halves" 8, .str "SIGNS" "abcdefghijklmnopqrstuvwxyz0123456789", .str "TAP" "tap", .str "HOLD" "hold", .cls "Player", .noat "Player" "kept_layout", .noat "Player" "kept_locked", .noat "Player" "kept_waiting", .noat "Player" "kept_bound", .mkr "Player", .cls "Way", .noat "Way" "kept_player", .noat "Way" "kept_bounds", .noat "Way" "kept_ticks", .noat "Way" "kept_choice", .noat "Way" "kept_result", .mkr "Way", .meth "Player" "copy", .meth "Player" "is_on", .meth "Player" "layers_here", .meth "Player" "look", .meth "Player" "down", .meth "Player" "up", .meth "Way" "turned", .meth "Way" "play"]
def hdNames0 : List Str := ["_wall", "HoldError", "InvalidKey", "InvalidLate", "InvalidLayout", "InvalidRecord", "TooLarge", "SIGNS", "RULES", "MOST_TIME", "MOST_EVENTS_values", "is_integer", "is_code", "is_hold", "is_action", "is_table", "wrong_places", "require_layout", "wrong_step", "first_wrong_step", "first_wrong_event", "is_events", "require_record_with", "require_record", "is_dual"]
def hdNames1 : List Str := ["lifted_numbers", "carried_out", "Player", "decider_of", "sure_event", "decided", "steps_of", "played", "flat", "TAP", "HOLD", "press_bound", "Way", "choice_at", "plain_step", "ways_of", "MOST_LATE", "MOST_EVENTS_halves", "require_keys", "require_arguments", "merged_rows", "arrival_bounds", "arrivals", "late_results", "delays_for"]
def hdNames2 : List Str := ["safe_late", "_law_pool", "_law_draw", "_law_action", "_law_layout", "_law_order", "_law_delays", "_law_arrived", "_law_right"]
def hdNames : List Str := hdNames0 ++ hdNames1 ++ hdNames2
def hdEx (K : PySem.W.Frag) : Bool := He.tupB K "RULES" [.str "time", .str "other", .str "within"]
def hdSays (K : PySem.W.Frag) : Prop := hdEx K = true ∧ He.SaysD hdFa hdFn K
abbrev hdAl : Type := Bool × He.AlD
def hdObs (g : Addr → Option Obj) : hdAl := (hdEx (He.frG g (He.asD g 5)), He.obsD hdFa hdFn (He.frG g (He.asD g 5)))
def hdVal : hdAl := (true, He.valD hdFn)
def hdHook : PySem.W.Hook where
  α := hdAl
  obs := fun s => hdObs s.heap.get?
  val := fun _ => hdVal
  says := fun _ h => ∃ K : PySem.W.Frag, K.In h ∧ hdSays K
  of := fun _ _ e => ⟨_, He.frG_in, congrArg (fun z : hdAl => z.1) e, congrArg (fun z : hdAl => z.2) e⟩
  keeps := fun _ _ _ ⟨K, hK, c⟩ k => ⟨K, PySem.W.Frag.In.keeps hK k, c⟩
abbrev hdR : PySem.W.OpenRow := PySem.W.OpenLaw.row PySem.Challenge.rw_holdtap_k81_whole_halves_by_all_delays
def hdOb (s : PySem.W.SharedT) : hdAl := hdObs (HandSHeadRun.getT s)
theorem hdOb_eq (s : PySem.W.SharedT) : hdOb s = hdHook.obs s.abs := by
  have e : HandSHeadRun.getT s = s.abs.heap.get? := funext (HandSHeadRun.getT_eq s)
  unfold hdOb
  rw [e]
  rfl
theorem fun_of {K : PySem.W.Frag} {x qual : Str} {st : Stmt} {f : Addr} {fd : FuncData} (F : FunD K x qual (defArgs st) (defBody st) (defScope st) [] [] f fd) : Fun K x qual st f fd := by
  obtain ⟨⟨oc, od, dV, kV, doc, pm, an, cdv, ct, osl, e, lk, hc, hD, hK⟩, kp⟩ := F
  refine ⟨⟨oc, od, kV, doc, pm, an, cdv, ct, osl, ?_, lk, hc⟩, kp⟩
  rcases hD with ⟨_, rfl⟩ | ⟨h, _⟩
  · exact e
  · exact absurd rfl h
theorem hd_bl {K : PySem.W.Frag} {h : Heap} {mg : Str → Option Value} (X : K.In h) (G : h.Ns mainGlobals mg) (c : hdSays K) : Bl mg where
  isinstance := He.free_ok X G (c.2.fact 46 (f := .free "isinstance") rfl)
  int := He.free_ok X G (c.2.fact 47 (f := .free "int") rfl)
  bool := He.free_ok X G (c.2.fact 48 (f := .free "bool") rfl)
  str := He.free_ok X G (c.2.fact 49 (f := .free "str") rfl)
  list := He.free_ok X G (c.2.fact 50 (f := .free "list") rfl)
  tuple := He.free_ok X G (c.2.fact 51 (f := .free "tuple") rfl)
  dict := He.free_ok X G (c.2.fact 52 (f := .free "dict") rfl)
  len := He.free_ok X G (c.2.fact 53 (f := .free "len") rfl)
  range := He.free_ok X G (c.2.fact 54 (f := .free "range") rfl)
  enumerate := He.free_ok X G (c.2.fact 55 (f := .free "enumerate") rfl)
  zip := He.free_ok X G (c.2.fact 56 (f := .free "zip") rfl)
  all := He.free_ok X G (c.2.fact 57 (f := .free "all") rfl)
  any := He.free_ok X G (c.2.fact 58 (f := .free "any") rfl)
  max := He.free_ok X G (c.2.fact 59 (f := .free "max") rfl)
  min := He.free_ok X G (c.2.fact 60 (f := .free "min") rfl)
  abs := He.free_ok X G (c.2.fact 61 (f := .free "abs") rfl)
  sorted := He.free_ok X G (c.2.fact 62 (f := .free "sorted") rfl)
  repr := He.free_ok X G (c.2.fact 63 (f := .free "repr") rfl)
  tIME := He.int_ok X G (c.2.fact 64 (f := .int "MOST_TIME" (10 ^ 9)) rfl)
  eVENTS := He.int_ok X G (c.2.fact 65 (f := .int "MOST_EVENTS_values" 400) rfl)
  lATE := He.int_ok X G (c.2.fact 66 (f := .int "MOST_LATE" (10 ^ 9)) rfl)
  eIGHT := He.int_ok X G (c.2.fact 67 (f := .int "MOST_EVENTS_halves" 8) rfl)
  sIGNS := He.str_ok X G (c.2.fact 68 (f := .str "SIGNS" "abcdefghijklmnopqrstuvwxyz0123456789") rfl)
  tAP := He.str_ok X G (c.2.fact 69 (f := .str "TAP" "tap") rfl)
  hOLD := He.str_ok X G (c.2.fact 70 (f := .str "HOLD" "hold") rfl)
theorem hd_rules {K : PySem.W.Frag} {h : Heap} {mg : Str → Option Value} (X : K.In h) (G : h.Ns mainGlobals mg) (c : hdSays K) : TupG K mg "RULES" (He.ga K "RULES") ["time", "other", "within"] := ⟨He.glo_ok X G (c.2.fact 45 (f := .glo "RULES") rfl), fun H => He.tupB_ok c.1 H⟩
theorem hd_Player {K : PySem.W.Frag} (c : hdSays K) : ClsO K (He.ga K "Player") NP := ⟨He.cls_ok (c.2.fact 71 (f := .cls "Player") rfl), fun f hf => by
  simp only [NP, List.mem_cons, List.not_mem_nil, or_false] at hf
  rcases hf with rfl | rfl | rfl | rfl
  · exact He.noat_ok (c.2.fact 72 (f := .noat "Player" "kept_layout") rfl)
  · exact He.noat_ok (c.2.fact 73 (f := .noat "Player" "kept_locked") rfl)
  · exact He.noat_ok (c.2.fact 74 (f := .noat "Player" "kept_waiting") rfl)
  · exact He.noat_ok (c.2.fact 75 (f := .noat "Player" "kept_bound") rfl)⟩
theorem hd_Way {K : PySem.W.Frag} (c : hdSays K) : ClsO K (He.ga K "Way") NW := ⟨He.cls_ok (c.2.fact 77 (f := .cls "Way") rfl), fun f hf => by
  simp only [NW, List.mem_cons, List.not_mem_nil, or_false] at hf
  rcases hf with rfl | rfl | rfl | rfl | rfl
  · exact He.noat_ok (c.2.fact 78 (f := .noat "Way" "kept_player") rfl)
  · exact He.noat_ok (c.2.fact 79 (f := .noat "Way" "kept_bounds") rfl)
  · exact He.noat_ok (c.2.fact 80 (f := .noat "Way" "kept_ticks") rfl)
  · exact He.noat_ok (c.2.fact 81 (f := .noat "Way" "kept_choice") rfl)
  · exact He.noat_ok (c.2.fact 82 (f := .noat "Way" "kept_result") rfl)⟩
theorem hd_facts {P : Program} {w : World} {K : PySem.W.Frag} {h : Heap} {mg : Str → Option Value} {f : Addr} (X : K.In h) (G : h.Ns mainGlobals mg) (hfa : mg ("law" : Str) = some (.ref f)) (c : hdSays K) :
    ∃ fd : FuncData, (∀ (s : Shared) (v : Value), BindsTo s fd ⟨[v], []⟩ [("_law_script", v)]) ∧ ∀ base : Heap, K.In base → base.Ns mainGlobals mg → FnG P w K mg base 16 f fd ["_law_script"] (spE fun es P => ∃ a ns, S_law K a ns es P) := by
  have B := hd_bl X G c
  have GR := hd_rules X G c
  have HP := hd_Player c
  have HW := hd_Way c
  obtain ⟨fd_is_integer, D_is_integer⟩ := c.2.def_ 0 (d := d_is_integer) rfl
  have A_is_integer : At K mg "is_integer" "is_integer" s_is_integer (He.ga K "is_integer") fd_is_integer := ⟨fun_of D_is_integer, He.glo_ok X G (c.2.fact 0 (f := .glo "is_integer") rfl)⟩
  obtain ⟨fd_is_code, D_is_code⟩ := c.2.def_ 1 (d := d_is_code) rfl
  have A_is_code : At K mg "is_code" "is_code" s_is_code (He.ga K "is_code") fd_is_code := ⟨fun_of D_is_code, He.glo_ok X G (c.2.fact 1 (f := .glo "is_code") rfl)⟩
  obtain ⟨fd_is_hold, D_is_hold⟩ := c.2.def_ 2 (d := d_is_hold) rfl
  have A_is_hold : At K mg "is_hold" "is_hold" s_is_hold (He.ga K "is_hold") fd_is_hold := ⟨fun_of D_is_hold, He.glo_ok X G (c.2.fact 2 (f := .glo "is_hold") rfl)⟩
  obtain ⟨fd_is_action, D_is_action⟩ := c.2.def_ 3 (d := d_is_action) rfl
  have A_is_action : At K mg "is_action" "is_action" s_is_action (He.ga K "is_action") fd_is_action := ⟨fun_of D_is_action, He.glo_ok X G (c.2.fact 3 (f := .glo "is_action") rfl)⟩
  obtain ⟨fd_is_table, D_is_table⟩ := c.2.def_ 4 (d := d_is_table) rfl
  have A_is_table : At K mg "is_table" "is_table" s_is_table (He.ga K "is_table") fd_is_table := ⟨fun_of D_is_table, He.glo_ok X G (c.2.fact 4 (f := .glo "is_table") rfl)⟩
  obtain ⟨fd_wrong_places, D_wrong_places⟩ := c.2.def_ 5 (d := d_wrong_places) rfl
  have A_wrong_places : At K mg "wrong_places" "wrong_places" s_wrong_places (He.ga K "wrong_places") fd_wrong_places := ⟨fun_of D_wrong_places, He.glo_ok X G (c.2.fact 5 (f := .glo "wrong_places") rfl)⟩
  obtain ⟨fd_require_layout, D_require_layout⟩ := c.2.def_ 6 (d := d_require_layout) rfl
  have A_require_layout : At K mg "require_layout" "require_layout" s_require_layout (He.ga K "require_layout") fd_require_layout := ⟨fun_of D_require_layout, He.glo_ok X G (c.2.fact 6 (f := .glo "require_layout") rfl)⟩
  obtain ⟨fd_wrong_step, D_wrong_step⟩ := c.2.def_ 7 (d := d_wrong_step) rfl
  have A_wrong_step : At K mg "wrong_step" "wrong_step" s_wrong_step (He.ga K "wrong_step") fd_wrong_step := ⟨fun_of D_wrong_step, He.glo_ok X G (c.2.fact 7 (f := .glo "wrong_step") rfl)⟩
  obtain ⟨fd_first_wrong_step, D_first_wrong_step⟩ := c.2.def_ 8 (d := d_first_wrong_step) rfl
  have A_first_wrong_step : At K mg "first_wrong_step" "first_wrong_step" s_first_wrong_step (He.ga K "first_wrong_step") fd_first_wrong_step := ⟨fun_of D_first_wrong_step, He.glo_ok X G (c.2.fact 8 (f := .glo "first_wrong_step") rfl)⟩
  obtain ⟨fd_first_wrong_event, D_first_wrong_event⟩ := c.2.def_ 9 (d := d_first_wrong_event) rfl
  have A_first_wrong_event : At K mg "first_wrong_event" "first_wrong_event" s_first_wrong_event (He.ga K "first_wrong_event") fd_first_wrong_event := ⟨fun_of D_first_wrong_event, He.glo_ok X G (c.2.fact 9 (f := .glo "first_wrong_event") rfl)⟩
  obtain ⟨fd_is_events, D_is_events⟩ := c.2.def_ 10 (d := d_is_events) rfl
  have A_is_events : At K mg "is_events" "is_events" s_is_events (He.ga K "is_events") fd_is_events := ⟨fun_of D_is_events, He.glo_ok X G (c.2.fact 10 (f := .glo "is_events") rfl)⟩
  obtain ⟨fd_require_record_with, D_require_record_with⟩ := c.2.def_ 11 (d := d_require_record_with) rfl
  have A_require_record_with : At K mg "require_record_with" "require_record_with" s_require_record_with (He.ga K "require_record_with") fd_require_record_with := ⟨fun_of D_require_record_with, He.glo_ok X G (c.2.fact 11 (f := .glo "require_record_with") rfl)⟩
  obtain ⟨fd_require_record, D_require_record⟩ := c.2.def_ 12 (d := d_require_record) rfl
  have A_require_record : At K mg "require_record" "require_record" s_require_record (He.ga K "require_record") fd_require_record := ⟨fun_of D_require_record, He.glo_ok X G (c.2.fact 12 (f := .glo "require_record") rfl)⟩
  obtain ⟨fd_is_dual, D_is_dual⟩ := c.2.def_ 13 (d := d_is_dual) rfl
  have A_is_dual : At K mg "is_dual" "is_dual" s_is_dual (He.ga K "is_dual") fd_is_dual := ⟨fun_of D_is_dual, He.glo_ok X G (c.2.fact 13 (f := .glo "is_dual") rfl)⟩
  obtain ⟨fd_carried_out, D_carried_out⟩ := c.2.def_ 14 (d := d_carried_out) rfl
  have A_carried_out : At K mg "carried_out" "carried_out" s_carried_out (He.ga K "carried_out") fd_carried_out := ⟨fun_of D_carried_out, He.glo_ok X G (c.2.fact 14 (f := .glo "carried_out") rfl)⟩
  obtain ⟨fd_decider_of, D_decider_of⟩ := c.2.def_ 15 (d := d_decider_of) rfl
  have A_decider_of : At K mg "decider_of" "decider_of" s_decider_of (He.ga K "decider_of") fd_decider_of := ⟨fun_of D_decider_of, He.glo_ok X G (c.2.fact 15 (f := .glo "decider_of") rfl)⟩
  obtain ⟨fd_sure_event, D_sure_event⟩ := c.2.def_ 16 (d := d_sure_event) rfl
  have A_sure_event : At K mg "sure_event" "sure_event" s_sure_event (He.ga K "sure_event") fd_sure_event := ⟨fun_of D_sure_event, He.glo_ok X G (c.2.fact 16 (f := .glo "sure_event") rfl)⟩
  obtain ⟨fd_decided, D_decided⟩ := c.2.def_ 17 (d := d_decided) rfl
  have A_decided : At K mg "decided" "decided" s_decided (He.ga K "decided") fd_decided := ⟨fun_of D_decided, He.glo_ok X G (c.2.fact 17 (f := .glo "decided") rfl)⟩
  obtain ⟨fd_Player___init__, D_Player___init__⟩ := c.2.def_ 18 (d := d_Player___init__) rfl
  have A_Player___init__ : AtI K mg "Player" (He.ga K "Player") "Player.__init__" s_Player___init__ (He.ma K (He.ga K "Player") "__init__") fd_Player___init__ := ⟨fun_of D_Player___init__, He.mkr_ok (c.2.fact 76 (f := .mkr "Player") rfl), He.glo_ok X G (c.2.fact 43 (f := .glo "Player") rfl)⟩
  obtain ⟨fd_Player_copy, D_Player_copy⟩ := c.2.def_ 19 (d := d_Player_copy) rfl
  have A_Player_copy : AtM K (He.ga K "Player") "copy" "Player.copy" s_Player_copy (He.ma K (He.ga K "Player") "copy") fd_Player_copy := ⟨fun_of D_Player_copy, HP.cls, He.meth_ok (c.2.fact 84 (f := .meth "Player" "copy") rfl)⟩
  obtain ⟨fd_Player_is_on, D_Player_is_on⟩ := c.2.def_ 20 (d := d_Player_is_on) rfl
  have A_Player_is_on : AtM K (He.ga K "Player") "is_on" "Player.is_on" s_Player_is_on (He.ma K (He.ga K "Player") "is_on") fd_Player_is_on := ⟨fun_of D_Player_is_on, HP.cls, He.meth_ok (c.2.fact 85 (f := .meth "Player" "is_on") rfl)⟩
  obtain ⟨fd_Player_layers_here, D_Player_layers_here⟩ := c.2.def_ 21 (d := d_Player_layers_here) rfl
  have A_Player_layers_here : AtM K (He.ga K "Player") "layers_here" "Player.layers_here" s_Player_layers_here (He.ma K (He.ga K "Player") "layers_here") fd_Player_layers_here := ⟨fun_of D_Player_layers_here, HP.cls, He.meth_ok (c.2.fact 86 (f := .meth "Player" "layers_here") rfl)⟩
  obtain ⟨fd_Player_look, D_Player_look⟩ := c.2.def_ 22 (d := d_Player_look) rfl
  have A_Player_look : AtM K (He.ga K "Player") "look" "Player.look" s_Player_look (He.ma K (He.ga K "Player") "look") fd_Player_look := ⟨fun_of D_Player_look, HP.cls, He.meth_ok (c.2.fact 87 (f := .meth "Player" "look") rfl)⟩
  obtain ⟨fd_Player_down, D_Player_down⟩ := c.2.def_ 23 (d := d_Player_down) rfl
  have A_Player_down : AtM K (He.ga K "Player") "down" "Player.down" s_Player_down (He.ma K (He.ga K "Player") "down") fd_Player_down := ⟨fun_of D_Player_down, HP.cls, He.meth_ok (c.2.fact 88 (f := .meth "Player" "down") rfl)⟩
  obtain ⟨fd_Player_up, D_Player_up⟩ := c.2.def_ 24 (d := d_Player_up) rfl
  have A_Player_up : AtM K (He.ga K "Player") "up" "Player.up" s_Player_up (He.ma K (He.ga K "Player") "up") fd_Player_up := ⟨fun_of D_Player_up, HP.cls, He.meth_ok (c.2.fact 89 (f := .meth "Player" "up") rfl)⟩
  obtain ⟨fd_steps_of, D_steps_of⟩ := c.2.def_ 25 (d := d_steps_of) rfl
  have A_steps_of : At K mg "steps_of" "steps_of" s_steps_of (He.ga K "steps_of") fd_steps_of := ⟨fun_of D_steps_of, He.glo_ok X G (c.2.fact 18 (f := .glo "steps_of") rfl)⟩
  obtain ⟨fd_played, D_played⟩ := c.2.def_ 26 (d := d_played) rfl
  have A_played : At K mg "played" "played" s_played (He.ga K "played") fd_played := ⟨fun_of D_played, He.glo_ok X G (c.2.fact 19 (f := .glo "played") rfl)⟩
  obtain ⟨fd_flat, D_flat⟩ := c.2.def_ 27 (d := d_flat) rfl
  have A_flat : At K mg "flat" "flat" s_flat (He.ga K "flat") fd_flat := ⟨fun_of D_flat, He.glo_ok X G (c.2.fact 20 (f := .glo "flat") rfl)⟩
  obtain ⟨fd_lifted_numbers, D_lifted_numbers⟩ := c.2.def_ 28 (d := d_lifted_numbers) rfl
  have A_lifted_numbers : At K mg "lifted_numbers" "lifted_numbers" s_lifted_numbers (He.ga K "lifted_numbers") fd_lifted_numbers := ⟨fun_of D_lifted_numbers, He.glo_ok X G (c.2.fact 21 (f := .glo "lifted_numbers") rfl)⟩
  obtain ⟨fd_press_bound, D_press_bound⟩ := c.2.def_ 29 (d := d_press_bound) rfl
  have A_press_bound : At K mg "press_bound" "press_bound" s_press_bound (He.ga K "press_bound") fd_press_bound := ⟨fun_of D_press_bound, He.glo_ok X G (c.2.fact 22 (f := .glo "press_bound") rfl)⟩
  obtain ⟨fd_plain_step, D_plain_step⟩ := c.2.def_ 30 (d := d_plain_step) rfl
  have A_plain_step : At K mg "plain_step" "plain_step" s_plain_step (He.ga K "plain_step") fd_plain_step := ⟨fun_of D_plain_step, He.glo_ok X G (c.2.fact 23 (f := .glo "plain_step") rfl)⟩
  obtain ⟨fd_choice_at, D_choice_at⟩ := c.2.def_ 31 (d := d_choice_at) rfl
  have A_choice_at : At K mg "choice_at" "choice_at" s_choice_at (He.ga K "choice_at") fd_choice_at := ⟨fun_of D_choice_at, He.glo_ok X G (c.2.fact 24 (f := .glo "choice_at") rfl)⟩
  obtain ⟨fd_Way___init__, D_Way___init__⟩ := c.2.def_ 32 (d := d_Way___init__) rfl
  have A_Way___init__ : AtI K mg "Way" (He.ga K "Way") "Way.__init__" s_Way___init__ (He.ma K (He.ga K "Way") "__init__") fd_Way___init__ := ⟨fun_of D_Way___init__, He.mkr_ok (c.2.fact 83 (f := .mkr "Way") rfl), He.glo_ok X G (c.2.fact 44 (f := .glo "Way") rfl)⟩
  obtain ⟨fd_Way_turned, D_Way_turned⟩ := c.2.def_ 33 (d := d_Way_turned) rfl
  have A_Way_turned : AtM K (He.ga K "Way") "turned" "Way.turned" s_Way_turned (He.ma K (He.ga K "Way") "turned") fd_Way_turned := ⟨fun_of D_Way_turned, HW.cls, He.meth_ok (c.2.fact 90 (f := .meth "Way" "turned") rfl)⟩
  obtain ⟨fd_Way_play, D_Way_play⟩ := c.2.def_ 34 (d := d_Way_play) rfl
  have A_Way_play : AtM K (He.ga K "Way") "play" "Way.play" s_Way_play (He.ma K (He.ga K "Way") "play") fd_Way_play := ⟨fun_of D_Way_play, HW.cls, He.meth_ok (c.2.fact 91 (f := .meth "Way" "play") rfl)⟩
  obtain ⟨fd_ways_of, D_ways_of⟩ := c.2.def_ 35 (d := d_ways_of) rfl
  have A_ways_of : At K mg "ways_of" "ways_of" s_ways_of (He.ga K "ways_of") fd_ways_of := ⟨fun_of D_ways_of, He.glo_ok X G (c.2.fact 25 (f := .glo "ways_of") rfl)⟩
  obtain ⟨fd_require_keys, D_require_keys⟩ := c.2.def_ 36 (d := d_require_keys) rfl
  have A_require_keys : At K mg "require_keys" "require_keys" s_require_keys (He.ga K "require_keys") fd_require_keys := ⟨fun_of D_require_keys, He.glo_ok X G (c.2.fact 26 (f := .glo "require_keys") rfl)⟩
  obtain ⟨fd_require_arguments, D_require_arguments⟩ := c.2.def_ 37 (d := d_require_arguments) rfl
  have A_require_arguments : At K mg "require_arguments" "require_arguments" s_require_arguments (He.ga K "require_arguments") fd_require_arguments := ⟨fun_of D_require_arguments, He.glo_ok X G (c.2.fact 27 (f := .glo "require_arguments") rfl)⟩
  obtain ⟨fd_merged_rows, D_merged_rows⟩ := c.2.def_ 38 (d := d_merged_rows) rfl
  have A_merged_rows : At K mg "merged_rows" "merged_rows" s_merged_rows (He.ga K "merged_rows") fd_merged_rows := ⟨fun_of D_merged_rows, He.glo_ok X G (c.2.fact 28 (f := .glo "merged_rows") rfl)⟩
  obtain ⟨fd_arrival_bounds, D_arrival_bounds⟩ := c.2.def_ 39 (d := d_arrival_bounds) rfl
  have A_arrival_bounds : At K mg "arrival_bounds" "arrival_bounds" s_arrival_bounds (He.ga K "arrival_bounds") fd_arrival_bounds := ⟨fun_of D_arrival_bounds, He.glo_ok X G (c.2.fact 29 (f := .glo "arrival_bounds") rfl)⟩
  obtain ⟨fd_arrivals, D_arrivals⟩ := c.2.def_ 40 (d := d_arrivals) rfl
  have A_arrivals : At K mg "arrivals" "arrivals" s_arrivals (He.ga K "arrivals") fd_arrivals := ⟨fun_of D_arrivals, He.glo_ok X G (c.2.fact 30 (f := .glo "arrivals") rfl)⟩
  obtain ⟨fd_delays_for, D_delays_for⟩ := c.2.def_ 41 (d := d_delays_for) rfl
  have A_delays_for : At K mg "delays_for" "delays_for" s_delays_for (He.ga K "delays_for") fd_delays_for := ⟨fun_of D_delays_for, He.glo_ok X G (c.2.fact 31 (f := .glo "delays_for") rfl)⟩
  obtain ⟨fd_safe_late, D_safe_late⟩ := c.2.def_ 42 (d := d_safe_late) rfl
  have A_safe_late : At K mg "safe_late" "safe_late" s_safe_late (He.ga K "safe_late") fd_safe_late := ⟨fun_of D_safe_late, He.glo_ok X G (c.2.fact 32 (f := .glo "safe_late") rfl)⟩
  obtain ⟨fd__law_pool, D__law_pool⟩ := c.2.def_ 43 (d := d__law_pool) rfl
  have A__law_pool : At K mg "_law_pool" "_law_pool" s__law_pool (He.ga K "_law_pool") fd__law_pool := ⟨fun_of D__law_pool, He.glo_ok X G (c.2.fact 33 (f := .glo "_law_pool") rfl)⟩
  obtain ⟨fd__law_draw, D__law_draw⟩ := c.2.def_ 44 (d := d__law_draw) rfl
  have A__law_draw : At K mg "_law_draw" "_law_draw" s__law_draw (He.ga K "_law_draw") fd__law_draw := ⟨fun_of D__law_draw, He.glo_ok X G (c.2.fact 34 (f := .glo "_law_draw") rfl)⟩
  obtain ⟨fd__law_action, D__law_action⟩ := c.2.def_ 45 (d := d__law_action) rfl
  have A__law_action : At K mg "_law_action" "_law_action" s__law_action (He.ga K "_law_action") fd__law_action := ⟨fun_of D__law_action, He.glo_ok X G (c.2.fact 35 (f := .glo "_law_action") rfl)⟩
  obtain ⟨fd__law_layout, D__law_layout⟩ := c.2.def_ 46 (d := d__law_layout) rfl
  have A__law_layout : At K mg "_law_layout" "_law_layout" s__law_layout (He.ga K "_law_layout") fd__law_layout := ⟨fun_of D__law_layout, He.glo_ok X G (c.2.fact 36 (f := .glo "_law_layout") rfl)⟩
  obtain ⟨fd__law_order, D__law_order⟩ := c.2.def_ 47 (d := d__law_order) rfl
  have A__law_order : At K mg "_law_order" "_law_order" s__law_order (He.ga K "_law_order") fd__law_order := ⟨fun_of D__law_order, He.glo_ok X G (c.2.fact 37 (f := .glo "_law_order") rfl)⟩
  obtain ⟨fd__law_delays, D__law_delays⟩ := c.2.def_ 48 (d := d__law_delays) rfl
  have A__law_delays : At K mg "_law_delays" "_law_delays" s__law_delays (He.ga K "_law_delays") fd__law_delays := ⟨fun_of D__law_delays, He.glo_ok X G (c.2.fact 38 (f := .glo "_law_delays") rfl)⟩
  obtain ⟨fd__law_arrived, D__law_arrived⟩ := c.2.def_ 49 (d := d__law_arrived) rfl
  have A__law_arrived : At K mg "_law_arrived" "_law_arrived" s__law_arrived (He.ga K "_law_arrived") fd__law_arrived := ⟨fun_of D__law_arrived, He.glo_ok X G (c.2.fact 39 (f := .glo "_law_arrived") rfl)⟩
  obtain ⟨fd_late_results, D_late_results⟩ := c.2.def_ 50 (d := d_late_results) rfl
  have A_late_results : At K mg "late_results" "late_results" s_late_results (He.ga K "late_results") fd_late_results := ⟨fun_of D_late_results, He.glo_ok X G (c.2.fact 40 (f := .glo "late_results") rfl)⟩
  obtain ⟨fd__law_right, D__law_right⟩ := c.2.def_ 51 (d := d__law_right) rfl
  have A__law_right : At K mg "_law_right" "_law_right" s__law_right (He.ga K "_law_right") fd__law_right := ⟨fun_of D__law_right, He.glo_ok X G (c.2.fact 41 (f := .glo "_law_right") rfl)⟩
  obtain ⟨fd_law, D_law⟩ := c.2.def_ 52 (d := d_law) rfl
  have A_law : At K mg "law" "law" s_law (He.ga K "law") fd_law := ⟨fun_of D_law, He.glo_ok X G (c.2.fact 42 (f := .glo "law") rfl)⟩
  have e := hfa.symm.trans (He.glo_ok X G (c.2.fact 42 (f := .glo "law") rfl))
  cases e
  refine ⟨fd_law, fun s v => FunD.bindsA (ps := ["_law_script"]) D_law (fun _ _ _ _ _ _ us hl => match us, hl with | [_], _ => rfl) s [v] rfl, fun base _ _ => ?_⟩
  have F_is_integer := ok_is_integer (P := P) (w := w) (base := base) (B := B) (A := A_is_integer)
  have F_is_code := ok_is_code (P := P) (w := w) (base := base) (B := B) (A := A_is_code)
  have F_is_hold := ok_is_hold (P := P) (w := w) (base := base) (B := B) (F_is_integer := F_is_integer) (F_is_code := F_is_code) (A := A_is_hold)
  have F_is_action := ok_is_action (P := P) (w := w) (base := base) (B := B) (GR := GR) (F_is_integer := F_is_integer) (F_is_code := F_is_code) (F_is_hold := F_is_hold) (A := A_is_action)
  have F_is_table := ok_is_table (P := P) (w := w) (base := base) (B := B) (A := A_is_table)
  have F_wrong_places := ok_wrong_places (P := P) (w := w) (base := base) (B := B) (F_is_action := F_is_action) (A := A_wrong_places)
  have F_require_layout := ok_require_layout (P := P) (w := w) (base := base) (B := B) (F_is_table := F_is_table) (F_wrong_places := F_wrong_places) (A := A_require_layout)
  have F_wrong_step := ok_wrong_step (P := P) (w := w) (base := base) (B := B) (F_is_integer := F_is_integer) (A := A_wrong_step)
  have F_first_wrong_step := ok_first_wrong_step (P := P) (w := w) (base := base) (B := B) (F_wrong_step := F_wrong_step) (A := A_first_wrong_step)
  have F_first_wrong_event := ok_first_wrong_event (P := P) (w := w) (base := base) (B := B) (F_is_integer := F_is_integer) (F_first_wrong_step := F_first_wrong_step) (A := A_first_wrong_event)
  have F_is_events := ok_is_events (P := P) (w := w) (base := base) (B := B) (A := A_is_events)
  have F_require_record_with := ok_require_record_with (P := P) (w := w) (base := base) (B := B) (F_first_wrong_event := F_first_wrong_event) (F_is_events := F_is_events) (A := A_require_record_with)
  have F_require_record := ok_require_record (P := P) (w := w) (base := base) (B := B) (F_require_record_with := F_require_record_with) (A := A_require_record)
  have F_is_dual := ok_is_dual (P := P) (w := w) (base := base) (B := B) (A := A_is_dual)
  have F_carried_out := ok_carried_out (P := P) (w := w) (base := base) (B := B) (F_is_dual := F_is_dual) (A := A_carried_out)
  have F_decider_of := ok_decider_of (P := P) (w := w) (base := base) (B := B) (A := A_decider_of)
  have F_sure_event := ok_sure_event (P := P) (w := w) (base := base) (B := B) (F_decider_of := F_decider_of) (A := A_sure_event)
  have F_decided := ok_decided (P := P) (w := w) (base := base) (B := B) (F_is_dual := F_is_dual) (F_sure_event := F_sure_event) (A := A_decided)
  have C_Player := ok_Player___init__ (P := P) (w := w) (base := base) (B := B) (HP := HP) (A := A_Player___init__)
  have M_Player_copy := ok_Player_copy (P := P) (w := w) (base := base) (B := B) (HP := HP) (C_Player := C_Player) (A := A_Player_copy)
  have M_Player_is_on := ok_Player_is_on (P := P) (w := w) (base := base) (B := B) (HP := HP) (A := A_Player_is_on)
  have M_Player_layers_here := ok_Player_layers_here (P := P) (w := w) (base := base) (B := B) (HP := HP) (M_Player_is_on := M_Player_is_on) (A := A_Player_layers_here)
  have M_Player_look := ok_Player_look (P := P) (w := w) (base := base) (B := B) (HP := HP) (M_Player_layers_here := M_Player_layers_here) (A := A_Player_look)
  have M_Player_down := ok_Player_down (P := P) (w := w) (base := base) (B := B) (HP := HP) (F_carried_out := F_carried_out) (M_Player_look := M_Player_look) (A := A_Player_down)
  have M_Player_up := ok_Player_up (P := P) (w := w) (base := base) (B := B) (HP := HP) (A := A_Player_up)
  have F_steps_of := ok_steps_of (P := P) (w := w) (base := base) (B := B) (HP := HP) (C_Player := C_Player) (M_Player_look := M_Player_look) (M_Player_down := M_Player_down) (M_Player_up := M_Player_up) (F_decided := F_decided) (A := A_steps_of)
  have F_played := ok_played (P := P) (w := w) (base := base) (B := B) (F_require_layout := F_require_layout) (F_require_record := F_require_record) (F_steps_of := F_steps_of) (A := A_played)
  have F_flat := ok_flat (P := P) (w := w) (base := base) (B := B) (F_played := F_played) (A := A_flat)
  have F_lifted_numbers := ok_lifted_numbers (P := P) (w := w) (base := base) (B := B) (A := A_lifted_numbers)
  have F_press_bound := ok_press_bound (P := P) (w := w) (base := base) (B := B) (A := A_press_bound)
  have F_plain_step := ok_plain_step (P := P) (w := w) (base := base) (B := B) (HP := HP) (F_is_dual := F_is_dual) (M_Player_look := M_Player_look) (M_Player_down := M_Player_down) (M_Player_up := M_Player_up) (A := A_plain_step)
  have F_choice_at := ok_choice_at (P := P) (w := w) (base := base) (B := B) (HP := HP) (F_is_dual := F_is_dual) (M_Player_look := M_Player_look) (F_decider_of := F_decider_of) (A := A_choice_at)
  have C_Way := ok_Way___init__ (P := P) (w := w) (base := base) (B := B) (HW := HW) (CP := He.ga K "Player") (A := A_Way___init__)
  have M_Way_turned := ok_Way_turned (P := P) (w := w) (base := base) (B := B) (HP := HP) (HW := HW) (F_lifted_numbers := F_lifted_numbers) (M_Player_copy := M_Player_copy) (M_Player_down := M_Player_down) (C_Way := C_Way) (A := A_Way_turned)
  have M_Way_play := ok_Way_play (P := P) (w := w) (base := base) (B := B) (HW := HW) (CP := He.ga K "Player") (F_plain_step := F_plain_step) (A := A_Way_play)
  have F_ways_of := ok_ways_of (P := P) (w := w) (base := base) (B := B) (HW := HW) (CP := He.ga K "Player") (F_press_bound := F_press_bound) (M_Way_turned := M_Way_turned) (M_Way_play := M_Way_play) (F_choice_at := F_choice_at) (A := A_ways_of)
  have F_require_keys := ok_require_keys (P := P) (w := w) (base := base) (B := B) (F_is_integer := F_is_integer) (A := A_require_keys)
  have F_require_arguments := ok_require_arguments (P := P) (w := w) (base := base) (B := B) (F_is_integer := F_is_integer) (F_require_layout := F_require_layout) (F_require_record := F_require_record) (F_require_keys := F_require_keys) (A := A_require_arguments)
  have F_merged_rows := ok_merged_rows (P := P) (w := w) (base := base) B A_merged_rows 11
  have F_arrival_bounds := ok_arrival_bounds (P := P) (w := w) (base := base) (B := B) (A := A_arrival_bounds)
  have F_arrivals := ok_arrivals (P := P) (w := w) (base := base) (B := B) (HP := HP) (HW := HW) (F_lifted_numbers := F_lifted_numbers) (C_Player := C_Player) (C_Way := C_Way) (F_ways_of := F_ways_of) (F_merged_rows := F_merged_rows) (F_arrival_bounds := F_arrival_bounds) (A := A_arrivals)
  have F_delays_for := ok_delays_for (P := P) (w := w) (base := base) (B := B) (F_require_arguments := F_require_arguments) (F_arrivals := F_arrivals) (A := A_delays_for)
  have F_safe_late := ok_safe_late (P := P) (w := w) (base := base) (B := B) (F_flat := F_flat) (F_require_arguments := F_require_arguments) (F_arrivals := F_arrivals) (A := A_safe_late)
  have F__law_draw := ok__law_draw (P := P) (w := w) (base := base) (B := B) (A := A__law_draw)
  have F__law_action := ok__law_action (P := P) (w := w) (base := base) (B := B) (F__law_draw := F__law_draw) (A := A__law_action)
  have F__law_layout := ok__law_layout (P := P) (w := w) (base := base) (B := B) (F__law_draw := F__law_draw) (F__law_action := F__law_action) (A := A__law_layout)
  have F__law_order := ok__law_order (P := P) (w := w) (base := base) (B := B) (F__law_draw := F__law_draw) (A := A__law_order)
  have F__law_delays := ok__law_delays (P := P) (w := w) (base := base) (B := B) (A := A__law_delays)
  have F__law_arrived := ok__law_arrived (P := P) (w := w) (base := base) (B := B) (A := A__law_arrived)
  have F_late_results := ok_late_results (P := P) (w := w) (base := base) (B := B) (F_require_arguments := F_require_arguments) (F_arrivals := F_arrivals) (A := A_late_results)
  have F__law_right := ok__law_right (P := P) (w := w) (base := base) (B := B) (F_flat := F_flat) (F_late_results := F_late_results) (F_delays_for := F_delays_for) (F_safe_late := F_safe_late) (F__law_delays := F__law_delays) (F__law_arrived := F__law_arrived) (A := A__law_right)
  exact fnG_ex fun a ns => ok_law (P := P) (w := w) (base := base) (B := B) (a := a) (ns := ns) (F__law_pool := ok__law_pool (P := P) (w := w) (base := base) (B := B) (a := a) (ns := ns) (A := A__law_pool)) (F__law_draw := F__law_draw) (F__law_layout := F__law_layout) (F__law_order := F__law_order) (F__law_right := F__law_right) (A := A_law)
end HT2
set_option maxRecDepth 100000
set_option maxHeartbeats 0
namespace HT2
open PySem PySem.Spec PyProof.Rows L2 StX PL SN
theorem hd_run (w : World) : HandSHeadRun.RunEq hdR (PySem.W.view hdR.prog [66]) hdHook hdOb 4000 hdNames w := by
  intro os
  kernel_rfl
end HT2
set_option maxRecDepth 100000
set_option maxHeartbeats 0
open PySem PySem.W PySem.Calls PyProof.Rows
theorem PySem.Challenge.cw_holdtap_k81_whole_halves_by_all_delays_holds : PySem.Challenge.rw_holdtap_k81_whole_halves_by_all_delays.Holds := by
  w_on; o_law
  refine HandSHeadRun.head_any (r := OpenLaw.row PySem.Challenge.rw_holdtap_k81_whole_halves_by_all_delays) (q := view (OpenLaw.row PySem.Challenge.rw_holdtap_k81_whole_halves_by_all_delays).prog [66]) (H := HT2.hdHook) (ob := HT2.hdOb) (M := 4000) (loose := HT2.hdNames) (d := HandSHeadRun.topDef (OpenLaw.row PySem.Challenge.rw_holdtap_k81_whole_halves_by_all_delays).prog 66) (kwd := []) HT2.hdOb_eq
    (by kernel_rfl) (fun s => by kernel_rfl) HT2.hd_run (by kernel_rfl) (by kernel_rfl) (by kernel_rfl) (by rfl) (by first | assumption | decide +kernel) (by decide +kernel) ⟨rfl, rfl, rfl, rfl, rfl, by decide +kernel⟩ ?hw ?hc
  case hw => w_witness2
  case hc =>
    refine PL.walkG (l := PySem.Challenge.rw_holdtap_k81_whole_halves_by_all_delays) (n := 63) (k := 16) (x := "_law_script") rfl (by decide) (by kernel_rfl) ⟨rfl, by decide, by decide⟩ ?F
    intro w mg fa h Y G hmg0
    obtain ⟨K, KX, c⟩ := Y
    have hmg : mg ("law" : PySem.Str) = some (.ref fa) := by
      have e : (HandSHeadRun.topDef (OpenLaw.row PySem.Challenge.rw_holdtap_k81_whole_halves_by_all_delays).prog 66).name = ("law" : PySem.Str) := by kernel_rfl
      rw [← e]
      exact hmg0
    obtain ⟨fd, hb, hF⟩ := HT2.hd_facts (P := (PySem.Challenge.rw_holdtap_k81_whole_halves_by_all_delays).prog) (w := w) KX G hmg c
    exact ⟨K, fd, KX, hb, hF⟩
