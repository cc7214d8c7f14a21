import PyProof.Rows.All
import HandS.ForMost
import HandS.Exc
import HandS.WordsExc
import HandS.IsInst
import HandS.ExcValue
import HandS.ExcInit
import HandS.CallSlots
import HandS.ExcOwn
import HandS.Wide
import HandS.TupAny
import HandS.Zip
import HandS.Text
import HandS.WideBits
import KE.SortData
import HandS.DictTup
import HandS.Style
import KE.DataMinMax
import HandS.ExcIs
import HandS.ExcField
import KE.KDictDisplayH
import HandS.Conv
import HandS.Property
import HandS.More
import HandS.NamedTupGet
import HandS.MakeKwOnly
import HandS.TupLe
import PySem.Challenge.RW_facesagain_k32_whole_one_more_day
set_option Elab.async false
set_option linter.all false
set_option maxRecDepth 100000
namespace FA
open PySem PySem.Spec PyProof.Rows L2

/-! ### frozen data at values -/
def keyP : L2.Key → PyData
  | .inl i => .int i
  | .inr x => .str x
mutual
def DR (K : PySem.W.Frag) (H : Hp) : PyData → V → Prop
  | .none, v => v = .non
  | .bool b, v => v = .bl b
  | .int i, v => v = .int i
  | .str x, v => v = .str x
  | .list xs, v => ∃ a vs, v = .ref a ∧ H a = some (.lst vs) ∧ DRs K H xs vs
  | .tuple xs, v => ∃ a vs, v = .ref a ∧ H a = some (.tup vs) ∧ DRs K H xs vs
  | .dict kvs, v => ∃ a o ws, v = .ref a ∧ H a = some (.frz o (.dT ws)) ∧ DRk K H kvs ws
def DRs (K : PySem.W.Frag) (H : Hp) : List PyData → List V → Prop
  | [], vs => vs = []
  | d :: ds, vs => ∃ v r, vs = v :: r ∧ DR K H d v ∧ DRs K H ds r
def DRk (K : PySem.W.Frag) (H : Hp) : List (PyData × PyData) → List (List Key × V) → Prop
  | [], ws => ws = []
  | (k, x) :: kvs, ws => ∃ q v r, ws = (q, v) :: r ∧ k = .tuple (q.map keyP) ∧ DR K H x v ∧ DRk K H kvs r
end
/-! data without dicts -/
mutual
def nod : PyData → Bool
  | .list xs => nods xs
  | .tuple xs => nods xs
  | .dict _ => false
  | _ => true
def nods : List PyData → Bool
  | [] => true
  | d :: ds => nod d && nods ds
end
mutual
theorem nod_lay : ∀ {d : PyData}, d.canLay0 = true → nod d = true
  | .none, _ => rfl
  | .bool _, _ => rfl
  | .int _, _ => rfl
  | .str _, _ => rfl
  | .list xs, h => by
    rw [nod]
    exact nods_lay (by rw [PyData.canLay0] at h; exact h)
  | .tuple xs, h => by
    rw [nod]
    exact nods_lay (by rw [PyData.canLay0] at h; exact h)
  | .dict _, h => by rw [PyData.canLay0] at h; cases h
theorem nods_lay : ∀ {ds : List PyData}, PyData.canLayAll0 ds = true → nods ds = true
  | [], _ => rfl
  | d :: ds, h => by
    rw [PyData.canLayAll0, Bool.and_eq_true] at h
    rw [nods, nod_lay h.1, nods_lay h.2]
    rfl
end
theorem nods_of : ∀ {ds : List PyData}, (∀ d ∈ ds, nod d = true) → nods ds = true
  | [], _ => rfl
  | d :: ds, h => by
    rw [nods, h d List.mem_cons_self, nods_of fun x hx => h x (List.mem_cons_of_mem _ hx)]
    rfl
theorem nods_ints {ns : List Int} : nods (ns.map PyData.int) = true := nods_of fun d hd => by
  obtain ⟨i, _, rfl⟩ := List.mem_map.mp hd
  rfl
theorem nod_shaped {d : PyData} (h : SeqAt.shaped d = true) : nod d = true := nod_lay (SeqAt.canLay_of_shaped h)
/-- a larger heap -/
def Le (G H : Hp) : Prop := ∀ a o, G a = some o → H a = some o
theorem Le.refl (G : Hp) : Le G G := fun _ _ h => h
theorem Le.trans {A B C : Hp} (x : Le A B) (y : Le B C) : Le A C := fun a o h => y a o (x a o h)
theorem Le.rd {G H : Hp} {a : Addr} {u : HO} (e : Le G H) (h : Rd G a u) : Rd H a u := by
  rcases h with h | ⟨o, h⟩
  · exact .inl (e _ _ h)
  · exact .inr ⟨o, e _ _ h⟩
theorem Le.l {K : PySem.W.Frag} {G H : Hp} {a : Addr} {xs : List V} (e : Le G H) (h : SqL K G a xs) : SqL K H a xs := by
  rcases h with h | h
  · exact .inl (e.rd h)
  · exact .inr h
theorem Le.t {K : PySem.W.Frag} {G H : Hp} {a : Addr} {xs : List V} (e : Le G H) (h : SqT K G a xs) : SqT K H a xs := by
  rcases h with h | h
  · exact .inl (e.rd h)
  · exact .inr h
section
variable {K : PySem.W.Frag} {G H : Hp}
mutual
theorem DR.le (e : Le G H) : ∀ {d : PyData} {v : V}, DR K G d v → DR K H d v
  | .none, _, h => by simpa [DR] using h
  | .bool b, _, h => by simpa [DR] using h
  | .int i, _, h => by simpa [DR] using h
  | .str x, _, h => by simpa [DR] using h
  | .list xs, v, h => by
    rw [DR] at h ⊢
    obtain ⟨a, vs, h1, h2, h3⟩ := h
    exact ⟨a, vs, h1, e _ _ h2, DRs.le e h3⟩
  | .tuple xs, v, h => by
    rw [DR] at h ⊢
    obtain ⟨a, vs, h1, h2, h3⟩ := h
    exact ⟨a, vs, h1, e _ _ h2, DRs.le e h3⟩
  | .dict kvs, v, h => by
    rw [DR] at h ⊢
    obtain ⟨a, o, ws, h1, h2, h3⟩ := h
    exact ⟨a, o, ws, h1, e _ _ h2, DRk.le e h3⟩
theorem DRs.le (e : Le G H) : ∀ {ds : List PyData} {vs : List V}, DRs K G ds vs → DRs K H ds vs
  | [], _, h => by simpa [DRs] using h
  | d :: ds, _, h => by
    rw [DRs] at h ⊢
    obtain ⟨v, r, h1, h2, h3⟩ := h
    exact ⟨v, r, h1, DR.le e h2, DRs.le e h3⟩
theorem DRk.le (e : Le G H) : ∀ {ds : List (PyData × PyData)} {vs : List (List Key × V)}, DRk K G ds vs → DRk K H ds vs
  | [], _, h => by simpa [DRk] using h
  | (k, d) :: ds, _, h => by
    rw [DRk] at h ⊢
    obtain ⟨q, v, r, h1, h0, h2, h3⟩ := h
    exact ⟨q, v, r, h1, h0, DR.le e h2, DRk.le e h3⟩
end
theorem DRs.length : ∀ {ds : List PyData} {vs : List V}, DRs K G ds vs → ds.length = vs.length
  | [], _, h => by rw [DRs] at h; rw [h]; rfl
  | d :: ds, _, h => by
    rw [DRs] at h
    obtain ⟨v, r, h1, _, h3⟩ := h
    rw [h1, List.length_cons, List.length_cons, DRs.length h3]
theorem DRs.get : ∀ {ds : List PyData} {vs : List V} {i : Nat} {v : V}, DRs K G ds vs → vs[i]? = some v → ∃ d, ds[i]? = some d ∧ DR K G d v
  | [], _, i, v, h, e => by
    rw [DRs] at h
    rw [h] at e
    cases e
  | d :: ds, _, i, v, h, e => by
    rw [DRs] at h
    obtain ⟨w, r, rfl, h2, h3⟩ := h
    cases i with
    | zero =>
      cases e
      exact ⟨d, rfl, h2⟩
    | succ i => exact DRs.get (i := i) h3 e
theorem DRs.get' : ∀ {ds : List PyData} {vs : List V} {i : Nat} {d : PyData}, DRs K G ds vs → ds[i]? = some d → ∃ v, vs[i]? = some v ∧ DR K G d v
  | [], _, i, d, h, e => by cases e
  | d :: ds, _, i, d', h, e => by
    rw [DRs] at h
    obtain ⟨w, r, rfl, h2, h3⟩ := h
    cases i with
    | zero =>
      cases e
      exact ⟨w, rfl, h2⟩
    | succ i => exact DRs.get' (i := i) h3 e
theorem DRs.of : ∀ {ds : List PyData} {vs : List V}, ds.length = vs.length → (∀ (i : Nat) d v, ds[i]? = some d → vs[i]? = some v → DR K G d v) → DRs K G ds vs
  | [], [], _, _ => by rw [DRs]
  | d :: ds, v :: vs, e, h => by
    rw [DRs]
    exact ⟨v, vs, rfl, h 0 d v rfl rfl, DRs.of (Nat.succ.inj e) fun i d' v' h1 h2 => h (i + 1) d' v' h1 h2⟩
theorem DRs.append {ds es : List PyData} {vs ws : List V} (h : DRs K G ds vs) (h' : DRs K G es ws) : DRs K G (ds ++ es) (vs ++ ws) := by
  induction ds generalizing vs with
  | nil =>
    rw [DRs] at h
    subst h
    exact h'
  | cons d ds ih =>
    rw [DRs] at h
    obtain ⟨w, r, rfl, h2, h3⟩ := h
    rw [List.cons_append, List.cons_append, DRs]
    exact ⟨w, _, rfl, h2, ih h3⟩
mutual
theorem DR.dp : ∀ {d : PyData} {v : V}, nod d = true → DR K G d v → Dp K G v d
  | .none, _, _, h => by rw [DR] at h; subst h; exact .non
  | .bool b, _, _, h => by rw [DR] at h; subst h; exact .bl b
  | .int i, _, _, h => by rw [DR] at h; subst h; exact .int i
  | .str x, _, _, h => by rw [DR] at h; subst h; exact .str x
  | .list xs, v, n, h => by
    rw [DR] at h
    obtain ⟨a, vs, rfl, h2, h3⟩ := h
    rw [nod] at n
    exact .lst (.of h2) (DRs.dp n h3)
  | .tuple xs, v, n, h => by
    rw [DR] at h
    obtain ⟨a, vs, rfl, h2, h3⟩ := h
    rw [nod] at n
    exact .tup (.of h2) (DRs.dp n h3)
  | .dict kvs, v, n, h => by rw [nod] at n; cases n
theorem DRs.dp : ∀ {ds : List PyData} {vs : List V}, nods ds = true → DRs K G ds vs → DpAll K G vs ds
  | [], _, _, h => by rw [DRs] at h; subst h; exact .nil
  | d :: ds, _, n, h => by
    rw [DRs] at h
    obtain ⟨v, r, rfl, h2, h3⟩ := h
    rw [nods, Bool.and_eq_true] at n
    exact .cons (DR.dp n.1 h2) (DRs.dp n.2 h3)
end
end

/-! ### trees: frozen data, tokens, and cells that are owned -/
inductive Kd where
  | lst
  | lsa (a : Addr)
  | dK (ks : List Key)
  | dT (ks : List (List Key))
  | ins (a C : Addr) (fs : List Str)
def Kd.isLst : Kd → Bool
  | .lst => true
  | .lsa _ => true
  | _ => false
/-- flat data as values -/
def pV : PyData → V
  | .bool b => .bl b
  | .int i => .int i
  | .str x => .str x
  | _ => .non
/-- tokens: a bag of draws, an address alone, an exception that was made -/
inductive TokK where
  | bag
  | hole
  | exc (C : Addr) (fs : List (Str × PyData))
  | err (d : Option Addr) (fs : List (Str × PyData))
  | any (ns : List (String × Bool))
inductive T where
  | d (x : PyData)
  | tok (k : TokK) (a : Addr)
  | scr (a : Addr) (ns : List Int)
  | nd (k : Kd) (cs : List T)
abbrev Fp := Addr → Prop
/-- what stands at a cell's addresses -/
def Nd (H : Hp) (a : Addr) (vs : List V) : Kd → Prop
  | .lst => H a = some (.lst vs)
  | .lsa b => a = b ∧ H a = some (.lst vs)
  | .dK ks => ks.length = vs.length ∧ H a = some (.dK (ks.zip vs))
  | .dT ks => ks.length = vs.length ∧ H a = some (.dT (ks.zip vs))
  | .ins b C fs => a = b ∧ fs.length = vs.length ∧ ∃ dx, H a = some (.ins C dx (fs.zip vs))
theorem Nd.lst {H : Hp} {a : Addr} {vs : List V} {k : Kd} (h : Nd H a vs k) (e : k.isLst = true) : H a = some (.lst vs) := by
  cases k with
  | lst => exact h
  | lsa b => exact h.2
  | _ => cases e
/-- a bag of draws: a list whose first item is a list of ints that stays, and four ints -/
def BagO (a c : Addr) (h : Heap) : Prop := ∃ (i r s t : Int) (t1 t2 t3 t4 : Tok) (n : Nat), h.get? a = some { cls := .type "list", data := .seq #[.ref c, .int i t1, .int r t2, .int s t3, .int t t4] n } ∧ 0 ≤ i ∧ 0 ≤ r ∧ 0 ≤ s ∧ s < 2147483647 ∧ 0 ≤ t
/-- what a token stands for -/
def Tk (K : PySem.W.Frag) (G : Hp) : TokK → Addr → Prop
  | .bag, a => ∃ (c : Addr) (ns : List Int), G a = some (.ext (BagO a c)) ∧ G c = some (.lst (ns.map .int)) ∧ ∀ n ∈ ns, 0 ≤ n
  | .hole, _ => True
  | .any ns, a => ∃ t, (∀ H, Le G H → TyX K H (.ref a) t) ∧ ∀ p ∈ ns, PySem.W.kitOne K t (.type p.1) = some p.2
  | .err d fs, _ => fs ≠ [] → ∃ dx, d = some dx ∧ G dx = some (.xd (fs.map fun p => (p.1, pV p.2)))
  | .exc C fs, a => (fs = [] ∧ G a = some (ExO (.ref C) a)) ∨ ∃ dx, G a = some (exo a C (some dx)) ∧ G dx = some (exd dx (fs.map fun p => (p.1, pV p.2)))
theorem Tk.le {K : PySem.W.Frag} {G H : Hp} {k : TokK} {a : Addr} (h : Tk K G k a) (e : Le G H) : Tk K H k a := by
  cases k with
  | bag =>
    obtain ⟨c, ns, h1, h2, h3⟩ := h
    exact ⟨c, ns, e _ _ h1, e _ _ h2, h3⟩
  | hole => trivial
  | any ns =>
    obtain ⟨t, h1, h2⟩ := h
    exact ⟨t, fun H2 e2 => h1 H2 fun a o z => e2 a o (e a o z), h2⟩
  | err d fs =>
    intro z
    obtain ⟨dx, h1, h2⟩ := h z
    exact ⟨dx, h1, e _ _ h2⟩
  | exc C fs =>
    rcases h with ⟨h1, h2⟩ | ⟨dx, h1, h2⟩
    · exact .inl ⟨h1, e _ _ h2⟩
    · exact .inr ⟨dx, e _ _ h1, e _ _ h2⟩
inductive TR (K : PySem.W.Frag) (G H : Hp) : T → V → Fp → Prop where
  | d {x v F} : DR K G x v → TR K G H (.d x) v F
  | tok {k a F} : Tk K G k a → TR K G H (.tok k a) (.ref a) F
  | scr {a ns F} : SqL K G a (ns.map V.int) → TR K G H (.scr a ns) (.ref a) F
  | nd {k cs a vs F} (fs : Nat → Fp) : Nd H a vs k → cs.length = vs.length → (∀ (i : Nat) c w, cs[i]? = some c → vs[i]? = some w → TR K G H c w (fs i)) →
      (∀ i j x, fs i x → fs j x → i = j) → (∀ i x, fs i x → F x) → (∀ i, ¬ fs i a) → F a → TR K G H (.nd k cs) (.ref a) F
/-- a mutable cell -/
def Cell : Option HO → Prop
  | some (.lst _) => True
  | some (.dK _) => True
  | some (.dT _) => True
  | some (.ins _ _ _) => True
  | _ => False
theorem nc {H : Hp} {a : Addr} (h : H a = none) : ¬ Cell (H a) := fun c => by
  rw [h] at c
  exact c
structure Ok (G H : Hp) (F : Fp) : Prop where
  le : Le G H
  no : ∀ a, F a → G a = none
  cell : ∀ a, F a → Cell (H a)
structure Step (G H : Hp) (F : Fp) (G' H' : Hp) (F' : Fp) : Prop where
  le : Le G G'
  ng : ∀ a, G' a ≠ none → G a ≠ none ∨ F a ∨ ¬ Cell (H a)
  fr : ∀ a o, ¬ F a → H a = some o → H' a = some o
  th : ∀ a, H a ≠ none → H' a ≠ none
  fp : ∀ a, F' a → F a ∨ H a = none
def Fz : Fp := fun _ => False
def Fu (A B : Fp) : Fp := fun a => A a ∨ B a
def Dj (A B : Fp) : Prop := ∀ a, A a → B a → False
section
variable {K : PySem.W.Frag} {G H G' H' G2 H2 : Hp} {F F' F2 A B : Fp} {t : T} {v : V}
theorem Ok.tracked (o : Ok G H F) {a : Addr} (h : F a) : H a ≠ none := fun e => by
  have := o.cell a h
  rw [e] at this
  exact this
theorem TR.mono (h : TR K G H t v F) (s : ∀ a, F a → F' a) : TR K G H t v F' := by
  cases h with
  | d h => exact .d h
  | tok h => exact .tok h
  | scr h => exact .scr h
  | nd fs h1 h2 h3 h4 h5 h6 h7 => exact .nd fs h1 h2 h3 h4 (fun i x q => s x (h5 i x q)) h6 (s _ h7)
/-- a tree stays where its cells stay and the frozen heap grows -/
theorem TR.stay (h : TR K G H t v F) (hG : Le G G') (hH : ∀ a o, F a → H a = some o → H' a = some o) : TR K G' H' t v F := by
  induction h with
  | d h => exact .d (h.le hG)
  | tok h => exact .tok (h.le hG)
  | scr h => exact .scr (hG.l h)
  | @nd k cs a vs F fs h1 h2 h3 h4 h5 h6 h7 ih =>
    refine .nd fs ?_ h2 (fun i c w e1 e2 => ih i c w e1 e2 fun a o q => hH a o (h5 i a q)) h4 h5 h6 h7
    cases k with
    | lst => exact hH _ _ h7 h1
    | lsa b => exact ⟨h1.1, hH _ _ h7 h1.2⟩
    | dK ks => exact ⟨h1.1, hH _ _ h7 h1.2⟩
    | dT ks => exact ⟨h1.1, hH _ _ h7 h1.2⟩
    | ins b C fs =>
      obtain ⟨e0, e, dx, q⟩ := h1
      exact ⟨e0, e, dx, hH _ _ h7 q⟩
theorem Step.refl : Step G H F G H F := ⟨.refl G, fun a h => .inl h, fun _ _ _ h => h, fun _ h => h, fun _ h => .inl h⟩
theorem Step.trans (a : Step G H F G' H' F') (b : Step G' H' F' G2 H2 F2) : Step G H F G2 H2 F2 where
  le := a.le.trans b.le
  ng := fun x h => by
    rcases b.ng x h with q | q | q
    · exact a.ng x q
    · rcases a.fp x q with r | r
      · exact .inr (.inl r)
      · exact .inr (.inr (nc r))
    · by_cases hF : F x
      · exact .inr (.inl hF)
      · refine .inr (.inr fun c => ?_)
        cases e : H x with
        | none => rw [e] at c; exact c
        | some o =>
          rw [e] at c
          rw [a.fr x o hF e] at q
          exact q c
  fr := fun x o nf e => b.fr x o (fun q => by
    rcases a.fp x q with r | r
    · exact nf r
    · rw [e] at r; cases r) (a.fr x o nf e)
  th := fun x h => b.th x (a.th x h)
  fp := fun x q => by
    rcases b.fp x q with r | r
    · exact a.fp x r
    · refine .inr ?_
      cases e : H x with
      | none => rfl
      | some o => exact absurd r (a.th x (by rw [e]; simp))
/-- beside something else -/
theorem Step.frame (s : Step G H F G' H' F') : Step G H (Fu A F) G' H' (Fu A F') where
  le := s.le
  ng := fun a h => by
    rcases s.ng a h with q | q | q
    · exact .inl q
    · exact .inr (.inl (.inr q))
    · exact .inr (.inr q)
  fr := fun a o n e => s.fr a o (fun q => n (.inr q)) e
  th := s.th
  fp := fun a h => by
    rcases h with q | q
    · exact .inl (.inl q)
    · rcases s.fp a q with r | r
      · exact .inl (.inr r)
      · exact .inr r
theorem Step.wide (s : Step G H F G' H' F') (h : ∀ a, F a → A a) : Step G H A G' H' F' where
  le := s.le
  ng := fun a q => by
    rcases s.ng a q with r | r | r
    · exact .inl r
    · exact .inr (.inl (h a r))
    · exact .inr (.inr r)
  fr := fun a o n e => s.fr a o (fun q => n (h a q)) e
  th := s.th
  fp := fun a q => by
    rcases s.fp a q with r | r
    · exact .inl (h a r)
    · exact .inr r
theorem Step.less (s : Step G H F G' H' F') (h : ∀ a, A a → F' a) : Step G H F G' H' A := ⟨s.le, s.ng, s.fr, s.th, fun a q => s.fp a (h a q)⟩
/-- nothing of ours was touched -/
theorem Step.up (s : Step G H Fz G' H' F') : Le H H' := fun a o e => s.fr a o (fun q => q) e
theorem Ok.less (o : Ok G H F) (h : ∀ a, A a → F a) : Ok G H A := ⟨o.le, fun a q => o.no a (h a q), fun a q => o.cell a (h a q)⟩
/-- what stands apart is apart behind a step -/
theorem Step.apart (s : Step G H F G' H' F') (o : Ok G H A) (d : Dj A F) : Dj A F' := fun a h q => by
  rcases s.fp a q with r | r
  · exact d a h r
  · exact o.tracked h r
theorem Step.okA (s : Step G H F G' H' F') (o : Ok G H A) (d : Dj A F) (o' : Ok G' H' F') : Ok G' H' (Fu A F') where
  le := o'.le
  no := fun a h => by
    rcases h with q | q
    · cases e : G' a with
      | none => rfl
      | some u =>
        rcases s.ng a (by rw [e]; simp) with r | r | r
        · exact absurd (o.no a q) r
        · exact (d a q r).elim
        · exact (r (o.cell a q)).elim
    · exact o'.no a q
  cell := fun a h => by
    rcases h with q | q
    · have c := o.cell a q
      cases e : H a with
      | none => rw [e] at c; exact c.elim
      | some u =>
        rw [s.fr a u (fun r => d a q r) e, ← e]
        exact c
    · exact o'.cell a q
theorem TR.step (h : TR K G H t v A) (s : Step G H F G' H' F') (d : Dj A F) : TR K G' H' t v A := h.stay s.le fun a o q e => s.fr a o (fun r => d a q r) e
end

/-! ### slots -/
abbrev Env := List (Option T)
structure EnvR (K : PySem.W.Frag) (G H : Hp) (σ : L2.St) (ρ : Env) (F : Fp) : Prop where
  len : σ.length = ρ.length
  ex : ∃ fs : Nat → Fp, (∀ i t, ρ[i]? = some (some t) → ∃ v, σ[i]? = some (some v) ∧ TR K G H t v (fs i)) ∧ (∀ i j x, fs i x → fs j x → i = j) ∧ ∀ i x, fs i x → F x
section
variable {K : PySem.W.Frag} {G H G' H' G2 H2 : Hp} {F F' F2 A B : Fp} {t : T} {v : V} {σ : L2.St} {ρ : Env} {i : Nat}
theorem EnvR.mono (e : EnvR K G H σ ρ F) (s : ∀ a, F a → F' a) : EnvR K G H σ ρ F' := by
  obtain ⟨l, fs, h1, h2, h3⟩ := e
  exact ⟨l, fs, h1, h2, fun i x q => s x (h3 i x q)⟩
theorem EnvR.stay (e : EnvR K G H σ ρ F) (hG : Le G G') (hH : ∀ a o, F a → H a = some o → H' a = some o) : EnvR K G' H' σ ρ F := by
  obtain ⟨l, fs, h1, h2, h3⟩ := e
  refine ⟨l, fs, fun i t q => ?_, h2, h3⟩
  obtain ⟨v, e1, e2⟩ := h1 i t q
  exact ⟨v, e1, e2.stay hG fun a o z => hH a o (h3 i a z)⟩
theorem EnvR.step (h : EnvR K G H σ ρ A) (s : Step G H F G' H' F') (d : Dj A F) : EnvR K G' H' σ ρ A := h.stay s.le fun a o q e => s.fr a o (fun r => d a q r) e
/-- a slot is taken out -/
theorem EnvR.take (e : EnvR K G H σ ρ F) (h : ρ[i]? = some (some t)) : ∃ v A B, σ[i]? = some (some v) ∧ TR K G H t v A ∧ EnvR K G H σ (ρ.set i none) B ∧ Dj A B ∧ (∀ a, A a → F a) ∧ ∀ a, B a → F a := by
  obtain ⟨l, fs, h1, h2, h3⟩ := e
  obtain ⟨v, e1, e2⟩ := h1 i t h
  refine ⟨v, fs i, fun a => ∃ j, j ≠ i ∧ fs j a, e1, e2, ⟨by rw [List.length_set]; exact l, fun j a => j ≠ i ∧ fs j a, fun j t' q => ?_, fun j k x p q => h2 j k x p.2 q.2, fun j x p => ⟨j, p⟩⟩, fun a p ⟨j, q, r⟩ => q (h2 j i a r p), fun a q => h3 i a q, fun a ⟨j, _, q⟩ => h3 j a q⟩
  by_cases hj : j = i
  · subst hj
    by_cases hl : j < ρ.length
    · rw [List.getElem?_set_self hl] at q; cases q
    · rw [List.getElem?_eq_none (by rw [List.length_set]; omega)] at q; cases q
  · rw [List.getElem?_set_ne (Ne.symm hj)] at q
    obtain ⟨w, e3, e4⟩ := h1 j t' q
    exact ⟨w, e3, e4.mono fun a z => ⟨hj, z⟩⟩
/-- a slot whose tree is known is put -/
theorem EnvR.put (e : EnvR K G H σ ρ B) (h : σ[i]? = some (some v)) (ht : TR K G H t v A) (d : Dj A B) : EnvR K G H σ (ρ.set i (some t)) (Fu A B) := by
  obtain ⟨l, fs, h1, h2, h3⟩ := e
  refine ⟨by rw [List.length_set]; exact l, fun j a => (j = i ∧ A a) ∨ (j ≠ i ∧ fs j a), fun j t' q => ?_, fun j k x p q => ?_, fun j x p => ?_⟩
  · by_cases hj : j = i
    · subst hj
      have hl : j < ρ.length := by
        rw [← l]
        exact (List.getElem?_eq_some_iff.mp h).1
      rw [List.getElem?_set_self hl] at q
      cases q
      exact ⟨v, h, ht.mono fun a z => .inl ⟨rfl, z⟩⟩
    · rw [List.getElem?_set_ne (Ne.symm hj)] at q
      obtain ⟨w, e3, e4⟩ := h1 j t' q
      exact ⟨w, e3, e4.mono fun a z => .inr ⟨hj, z⟩⟩
  · rcases p with ⟨p1, p2⟩ | ⟨p1, p2⟩ <;> rcases q with ⟨q1, q2⟩ | ⟨q1, q2⟩
    · rw [p1, q1]
    · exact (d x p2 (h3 k x q2)).elim
    · exact (d x q2 (h3 j x p2)).elim
    · exact h2 j k x p2 q2
  · rcases p with ⟨_, p⟩ | ⟨_, p⟩
    · exact .inl p
    · exact .inr (h3 j x p)
/-- a slot is written -/
theorem EnvR.store (e : EnvR K G H σ ρ B) (ht : TR K G H t v A) (d : Dj A B) : EnvR K G H (σ.set i (some v)) (ρ.set i (some t)) (Fu A B) := by
  obtain ⟨l, fs, h1, h2, h3⟩ := e
  by_cases hl : i < ρ.length
  · have e' : EnvR K G H (σ.set i (some v)) (ρ.set i none) B := by
      refine ⟨by rw [List.length_set, List.length_set]; exact l, fs, fun j t' q => ?_, h2, h3⟩
      by_cases hj : j = i
      · subst hj
        rw [List.getElem?_set_self hl] at q; cases q
      · rw [List.getElem?_set_ne (Ne.symm hj)] at q
        obtain ⟨w, e3, e4⟩ := h1 j t' q
        exact ⟨w, by rw [List.getElem?_set_ne (Ne.symm hj)]; exact e3, e4⟩
    have := e'.put (t := t) (v := v) (List.getElem?_set_self (by omega)) ht d
    rw [List.set_set] at this
    exact this
  · refine ⟨by rw [List.length_set, List.length_set]; exact l, fs, fun j t' q => ?_, h2, fun j x p => .inr (h3 j x p)⟩
    have hj : i ≠ j := fun z => by
      subst z
      rw [List.getElem?_eq_none (by rw [List.length_set]; omega)] at q; cases q
    rw [List.getElem?_set_ne hj] at q
    obtain ⟨w, e3, e4⟩ := h1 j t' q
    exact ⟨w, by rw [List.getElem?_set_ne hj]; exact e3, e4⟩
theorem EnvR.kill (e : EnvR K G H σ ρ F) : EnvR K G H σ (ρ.set i none) F := by
  obtain ⟨l, fs, h1, h2, h3⟩ := e
  refine ⟨by rw [List.length_set]; exact l, fs, fun j t' q => ?_, h2, h3⟩
  by_cases hj : j = i
  · subst hj
    by_cases hl : j < ρ.length
    · rw [List.getElem?_set_self hl] at q; cases q
    · rw [List.getElem?_eq_none (by rw [List.length_set]; omega)] at q; cases q
  · rw [List.getElem?_set_ne (Ne.symm hj)] at q
    exact h1 j t' q
end
end FA
set_option Elab.async false
set_option linter.all false
set_option maxRecDepth 100000
namespace FA
open PySem PySem.Spec PyProof.Rows L2

/-! ### what is known of trees by computing -/
mutual
def T.data : T → Option PyData
  | .d x => some x
  | .tok _ _ => none
  | .scr _ _ => none
  | .nd k cs => if k.isLst = true then (T.datas cs).map PyData.list else none
def T.datas : List T → Option (List PyData)
  | [] => some []
  | t :: ts => match t.data, T.datas ts with
    | some x, some xs => some (x :: xs)
    | _, _ => none
end
def T.fz : T → Option T
  | .d x => some (.d x)
  | .tok k a => some (.tok k a)
  | .scr a ns => some (.scr a ns)
  | .nd k cs => (T.data (.nd k cs)).map T.d
def T.leafy : T → Bool
  | .d _ => true
  | .tok _ _ => true
  | .scr _ _ => true
  | .nd _ _ => false
mutual
def imm : PyData → Bool
  | .list _ => false
  | .dict _ => false
  | .tuple xs => imms xs
  | _ => true
def imms : List PyData → Bool
  | [] => true
  | x :: xs => imm x && imms xs
end
mutual
def T.closed : T → Bool
  | .d x => imm x
  | .tok _ _ => false
  | .scr _ _ => false
  | .nd _ cs => T.closeds cs
def T.closeds : List T → Bool
  | [] => true
  | t :: ts => t.closed && T.closeds ts
end
theorem closeds_get : ∀ {cs : List T} {i : Nat} {c : T}, T.closeds cs = true → cs[i]? = some c → c.closed = true
  | [], _, _, _, e => by cases e
  | t :: ts, 0, c, h, e => by
    cases e
    rw [T.closeds, Bool.and_eq_true] at h
    exact h.1
  | t :: ts, i + 1, c, h, e => by
    rw [T.closeds, Bool.and_eq_true] at h
    exact closeds_get (i := i) h.2 e

/-! ### several trees -/
structure TRs (K : PySem.W.Frag) (G H : Hp) (ts : List T) (vs : List V) (F : Fp) : Prop where
  len : ts.length = vs.length
  ex : ∃ fs : Nat → Fp, (∀ (i : Nat) t v, ts[i]? = some t → vs[i]? = some v → TR K G H t v (fs i)) ∧ (∀ i j x, fs i x → fs j x → i = j) ∧ ∀ i x, fs i x → F x
section
variable {K : PySem.W.Frag} {G H G' H' G2 H2 : Hp} {F F' F2 A B : Fp} {t : T} {v : V} {ts : List T} {vs : List V} {σ : L2.St} {ρ : Env} {i : Nat}
theorem TRs.nil : TRs K G H [] [] F := ⟨rfl, fun _ => Fz, fun i t v e => (by cases e), fun _ _ _ h => h.elim, fun _ _ h => h.elim⟩
theorem TRs.cons (h : TR K G H t v A) (r : TRs K G H ts vs B) (d : Dj A B) : TRs K G H (t :: ts) (v :: vs) (Fu A B) := by
  obtain ⟨l, fs, h1, h2, h3⟩ := r
  refine ⟨by rw [List.length_cons, List.length_cons, l], fun i => match i with | 0 => A | i + 1 => fs i, fun i t' v' e1 e2 => ?_, fun i j x p q => ?_, fun i x p => ?_⟩
  · cases i with
    | zero => cases e1; cases e2; exact h
    | succ i => exact h1 i t' v' e1 e2
  · cases i <;> cases j
    · rfl
    · exact (d x p (h3 _ x q)).elim
    · exact (d x q (h3 _ x p)).elim
    · rw [h2 _ _ x p q]
  · cases i with
    | zero => exact .inl p
    | succ i => exact .inr (h3 i x p)
theorem TRs.stay (e : TRs K G H ts vs F) (hG : Le G G') (hH : ∀ a o, F a → H a = some o → H' a = some o) : TRs K G' H' ts vs F := by
  obtain ⟨l, fs, h1, h2, h3⟩ := e
  exact ⟨l, fs, fun i t v e1 e2 => (h1 i t v e1 e2).stay hG fun a o z => hH a o (h3 i a z), h2, h3⟩
theorem TRs.step (h : TRs K G H ts vs A) (s : Step G H F G' H' F') (d : Dj A F) : TRs K G' H' ts vs A := h.stay s.le fun a o q e => s.fr a o (fun r => d a q r) e
theorem TRs.uncons (h : TRs K G H (t :: ts) vs F) : ∃ v r A B, vs = v :: r ∧ TR K G H t v A ∧ TRs K G H ts r B ∧ Dj A B ∧ (∀ a, A a → F a) ∧ ∀ a, B a → F a := by
  obtain ⟨l, fs, h1, h2, h3⟩ := h
  cases vs with
  | nil => cases l
  | cons v r =>
    exact ⟨v, r, fs 0, fun a => ∃ i, fs (i + 1) a, rfl, h1 0 t v rfl rfl, ⟨Nat.succ.inj l, fun i => fs (i + 1), fun i t' v' e1 e2 => h1 (i + 1) t' v' e1 e2, fun i j x p q => Nat.succ.inj (h2 _ _ x p q), fun i x p => ⟨i, p⟩⟩, fun a p ⟨i, q⟩ => (by cases h2 _ _ a p q), fun a p => h3 0 a p, fun a ⟨i, p⟩ => h3 _ a p⟩
theorem TRs.nil_inv (h : TRs K G H [] vs F) : vs = [] := List.length_eq_zero_iff.mp h.len.symm

/-! ### freezing -/
open Classical in
noncomputable def GF (G H : Hp) (F : Fp) : Hp := fun a => if F a then H a else G a
theorem GF.yes {a : Addr} (h : F a) : GF G H F a = H a := by unfold GF; rw [if_pos h]
theorem GF.not {a : Addr} (h : ¬ F a) : GF G H F a = G a := by unfold GF; rw [if_neg h]
theorem GF.le (o : Ok G H F) : Le G (GF G H F) := fun a u e => by
  rw [GF.not]
  · exact e
  · intro h
    rw [o.no a h] at e
    cases e
theorem GF.up (o : Ok G H F) : Le (GF G H F) H := fun a u e => by
  by_cases h : F a
  · rw [GF.yes h] at e; exact e
  · rw [GF.not h] at e; exact o.le a u e
theorem GF.ng {a : Addr} (h : GF G H F a ≠ none) : G a ≠ none ∨ F a := by
  by_cases q : F a
  · exact .inr q
  · rw [GF.not q] at h; exact .inl h
/-- freezing some cells is a step -/
theorem GF.step (o : Ok G H (Fu A B)) (d : Dj A B) : Step G H (Fu A B) (GF G H A) H B ∧ Ok (GF G H A) H B := by
  have oA : Ok G H A := o.less fun a h => .inl h
  refine ⟨⟨GF.le oA, fun a h => ?_, fun _ _ _ h => h, fun _ h => h, fun a h => .inl (.inr h)⟩, ⟨GF.up oA, fun a h => ?_, fun a h => o.cell a (.inr h)⟩⟩
  · rcases GF.ng h with q | q
    · exact .inl q
    · exact .inr (.inl (.inl q))
  · rw [GF.not fun q => d a q h]
    exact o.no a (.inr h)
theorem datas_some : ∀ {ts : List T} {xs : List PyData}, T.datas ts = some xs → ts.length = xs.length ∧ ∀ (i : Nat) t, ts[i]? = some t → ∃ x, xs[i]? = some x ∧ t.data = some x
  | [], xs, h => by
    rw [T.datas] at h
    cases h
    exact ⟨rfl, fun i t e => by cases e⟩
  | t :: ts, xs, h => by
    rw [T.datas] at h
    split at h
    · rename_i x ys e1 e2
      cases h
      obtain ⟨l, r⟩ := datas_some e2
      refine ⟨by rw [List.length_cons, List.length_cons, l], fun i t' e => ?_⟩
      cases i with
      | zero => cases e; exact ⟨x, rfl, e1⟩
      | succ i => exact r i t' e
    · cases h
theorem TR.freeze (h : TR K G H t v A) (o : Ok G H A) {x : PyData} (e : t.data = some x) : DR K (GF G H A) x v := by
  have gen : ∀ (t : T) (v : V) (F : Fp), TR K G H t v F → (∀ a, F a → A a) → ∀ x, t.data = some x → DR K (GF G H A) x v := by
    intro t v F h
    induction h with
    | d h =>
      intro _ x e
      rw [T.data] at e
      cases e
      exact h.le (GF.le o)
    | tok h => intro _ x e; rw [T.data] at e; cases e
    | scr h => intro _ x e; rw [T.data] at e; cases e
    | @nd k cs a vs F fs h1 h2 h3 h4 h5 h6 h7 ih =>
      intro hs x e
      rw [T.data] at e
      by_cases hk : k.isLst = true
      · rw [if_pos hk] at e
        cases q : T.datas cs with
        | none => rw [q] at e; cases e
        | some xs =>
          rw [q] at e
          cases e
          obtain ⟨l, r⟩ := datas_some q
          rw [DR]
          refine ⟨a, vs, rfl, (GF.yes (hs a h7)).trans (h1.lst hk), DRs.of (l.symm.trans h2) fun i d w e1 e2 => ?_⟩
          have hi : i < cs.length := by
            rw [l]
            exact (List.getElem?_eq_some_iff.mp e1).1
          obtain ⟨y, ey, dy⟩ := r i cs[i] (List.getElem?_eq_getElem hi)
          rw [e1] at ey
          cases ey
          exact ih i cs[i] w (List.getElem?_eq_getElem hi) e2 (fun a z => hs a (h5 i a z)) d dy
      · rw [if_neg hk] at e
        cases e
  exact gen t v A h (fun _ z => z) x e
theorem TR.fz (h : TR K G H t v A) (o : Ok G H A) {u : T} (e : t.fz = some u) : TR K (GF G H A) H u v Fz := by
  cases h with
  | d h => cases e; exact .d (h.le (GF.le o))
  | tok h => cases e; exact .tok (h.le (GF.le o))
  | scr h => cases e; exact .scr ((GF.le o).l h)
  | @nd k cs a vs F fs h1 h2 h3 h4 h5 h6 h7 =>
    rw [T.fz] at e
    cases q : T.data (.nd k cs) with
    | none => rw [q] at e; cases e
    | some x =>
      rw [q] at e
      cases e
      exact .d (TR.freeze (.nd fs h1 h2 h3 h4 h5 h6 h7) o q)
theorem fz_leafy : ∀ {t u : T}, t.fz = some u → u.leafy = true
  | .d _, _, e => by cases e; rfl
  | .tok _ _, _, e => by cases e; rfl
  | .scr _ _, _, e => by cases e; rfl
  | .nd k cs, u, e => by
    rw [T.fz] at e
    cases q : T.data (.nd k cs) with
    | none => rw [q] at e; cases e
    | some x => rw [q] at e; cases e; rfl
/-- leaves need no cells -/
theorem TR.leaf (h : TR K G H t v A) (e : t.leafy = true) : TR K G H t v F := by
  cases h with
  | d h => exact .d h
  | tok h => exact .tok h
  | scr h => exact .scr h
  | nd fs => cases e

/-! ### data without mutable cells stays when these are taken out -/
section
variable (hG : ∀ a, (∃ xs, G a = some (.tup xs)) ∨ (∃ o xs, G a = some (.frz o (.tup xs))) → G' a = G a)
include hG
mutual
theorem DR.imm : ∀ {x : PyData} {v : V}, FA.imm x = true → DR K G x v → DR K G' x v
  | .none, _, _, h => by simpa [DR] using h
  | .bool _, _, _, h => by simpa [DR] using h
  | .int _, _, _, h => by simpa [DR] using h
  | .str _, _, _, h => by simpa [DR] using h
  | .list _, _, e, _ => by rw [FA.imm] at e; cases e
  | .dict _, _, e, _ => by rw [FA.imm] at e; cases e
  | .tuple xs, _, e, h => by
    rw [FA.imm] at e
    rw [DR] at h ⊢
    obtain ⟨a, vs, rfl, h2, h3⟩ := h
    exact ⟨a, vs, rfl, (hG a (.inl ⟨_, h2⟩)).trans h2, DRs.imm e h3⟩
theorem DRs.imm : ∀ {xs : List PyData} {vs : List V}, FA.imms xs = true → DRs K G xs vs → DRs K G' xs vs
  | [], _, _, h => by simpa [DRs] using h
  | x :: xs, _, e, h => by
    rw [imms, Bool.and_eq_true] at e
    rw [DRs] at h ⊢
    obtain ⟨v, r, rfl, h2, h3⟩ := h
    exact ⟨v, r, rfl, DR.imm e.1 h2, DRs.imm e.2 h3⟩
end
theorem TR.clo (h : TR K G H t v F) : t.closed = true → TR K G' H t v F := by
  induction h with
  | d h => intro e; rw [T.closed] at e; exact .d (DR.imm hG e h)
  | tok h => intro e; rw [T.closed] at e; cases e
  | scr h => intro e; rw [T.closed] at e; cases e
  | @nd k cs a vs F fs h1 h2 h3 h4 h5 h6 h7 ih =>
    intro e
    rw [T.closed] at e
    exact .nd fs h1 h2 (fun i c w e1 e2 => ih i c w e1 e2 (closeds_get e e1)) h4 h5 h6 h7
end
end
end FA
set_option Elab.async false
set_option linter.all false
set_option maxRecDepth 100000
namespace FA
open PySem PySem.Spec PyProof.Rows L2

/-! ### exceptions -/
structure Exc where
  cls : Str
  fs : List (Str × PyData)
def FlatR : PyData → V → Prop
  | .none, v => v = .non
  | .bool b, v => v = .bl b
  | .int i, v => v = .int i
  | .str x, v => v = .str x
  | _, _ => False
structure XR (mg : Str → Option Value) (x : Exc) (cls : Value) (d : Option Addr) (H : Hp) : Prop where
  ex : ∃ C, mg x.cls = some (.ref C) ∧ cls = .ref C
  no : x.fs = [] → d = none
  fs : x.fs ≠ [] → ∃ dx, d = some dx ∧ H dx = some (.xd (x.fs.map fun p => (p.1, pV p.2)))

abbrev EXk := Exc → Env → Prop
abbrev ME := Env → EXk → (T → Env → Prop) → Prop
/-- where one stands: the written part, the module's names, the wish -/
structure Cw where
  K : PySem.W.Frag
  mg : Str → Option Value
  W : WX
section
variable (c : Cw)
def XW (EX : EXk) (G H : Hp) (F : Fp) (σ : L2.St) : Prop :=
  ∀ x ρ' cls d G' H' F', EX x ρ' → Step G H F G' H' F' → Ok G' H' F' → EnvR c.K G' H' σ ρ' F' → XR c.mg x cls d H' → c.W cls d σ H'
def Res (G H : Hp) (F : Fp) (σ : L2.St) (P : T → Env → Prop) (v : V) (H' : Hp) : Prop :=
  ∃ G' F' Fv t ρ', Step G H F G' H' (Fu Fv F') ∧ Ok G' H' (Fu Fv F') ∧ Dj Fv F' ∧ EnvR c.K G' H' σ ρ' F' ∧ TR c.K G' H' t v Fv ∧ P t ρ'
def tG (m : ME) : TE := fun σ H Q => ∃ G F ρ P EX, Ok G H F ∧ EnvR c.K G H σ ρ F ∧ XW c EX G H F σ ∧ m ρ EX P ∧ ∀ v H', Res c G H F σ P v H' → Q v H'
end
/-- an operand: computed, a leaf that a slot holds, a tree that a slot lends -/
inductive Opd where
  | e (m : ME)
  | b (i : Nat)
  | o (i : Nat)
def mA : List Opd → Env → EXk → (List T → Env → Prop) → Prop
  | [], ρ, _, P => P [] ρ
  | .e m :: os, ρ, EX, P => m ρ EX fun t ρ1 => mA os ρ1 EX fun ts ρ2 => P (t :: ts) ρ2
  | .b i :: os, ρ, EX, P => ∃ t, ρ[i]? = some (some t) ∧ t.leafy = true ∧ mA os ρ EX fun ts ρ2 => P (t :: ts) ρ2
  | .o i :: os, ρ, EX, P => ∃ t, ρ[i]? = some (some t) ∧ mA os (ρ.set i none) EX fun ts ρ2 => P (t :: ts) ρ2
def back : List Opd → List T → Env → Env
  | .o i :: os, t :: ts, ρ => back os ts (ρ.set i (some t))
  | .b _ :: os, _ :: ts, ρ => back os ts ρ
  | .e _ :: os, _ :: ts, ρ => back os ts ρ
  | _, _, ρ => ρ
section
variable (c : Cw)
def tO : Opd → TE
  | .e m => tG c m
  | .b i => tVar i
  | .o i => tVar i
def tOs : List Opd → TA
  | [] => tNil
  | o :: os => tCons (tO c o) (tOs os)
end
/-- what was lent, stands at its slot -/
def Bk : List Opd → List V → L2.St → Prop
  | .o i :: os, v :: vs, σ => σ[i]? = some (some v) ∧ Bk os vs σ
  | .b _ :: os, _ :: vs, σ => Bk os vs σ
  | .e _ :: os, _ :: vs, σ => Bk os vs σ
  | [], [], _ => True
  | _, _, _ => False
theorem Bk_len : ∀ {os : List Opd} {vs : List V} {σ : L2.St}, Bk os vs σ → os.length = vs.length
  | [], [], _, _ => rfl
  | [], _ :: _, _, h => h.elim
  | .b _ :: _, [], _, h => h.elim
  | .o _ :: _, [], _, h => h.elim
  | .e _ :: _, [], _, h => h.elim
  | .o i :: os, v :: vs, σ, h => by rw [List.length_cons, List.length_cons, Bk_len h.2]
  | .b _ :: os, v :: vs, σ, h => by
    have h' : Bk os vs σ := h
    rw [List.length_cons, List.length_cons, Bk_len h']
  | .e _ :: os, v :: vs, σ, h => by
    have h' : Bk os vs σ := h
    rw [List.length_cons, List.length_cons, Bk_len h']
section
variable {c : Cw} {G H G' H' G2 H2 : Hp} {F F' F2 A B : Fp} {t : T} {v : V} {ts : List T} {vs : List V} {σ : L2.St} {ρ : Env} {i : Nat} {EX : EXk}
theorem XW.step (x : XW c EX G H F σ) (s : Step G H F G' H' F') : XW c EX G' H' F' σ := fun e ρ' cls d G2 H2 F2 h s2 o en r => x e ρ' cls d G2 H2 F2 h (s.trans s2) o en r
theorem XW.wide (x : XW c EX G H F σ) (h : ∀ a, A a → F a) : XW c EX G H A σ := fun e ρ' cls d G2 H2 F2 h' s2 o en r => x e ρ' cls d G2 H2 F2 h' (s2.wide h) o en r
theorem mA_read : ∀ {os : List Opd} {G H : Hp} {F : Fp} {ρ : Env} {P : List T → Env → Prop} {R : List V → Hp → Prop}, Ok G H F → EnvR c.K G H σ ρ F → XW c EX G H F σ → mA os ρ EX P →
    (∀ vs H' G' F' Fa ts ρ', Step G H F G' H' (Fu Fa F') → Ok G' H' (Fu Fa F') → Dj Fa F' → EnvR c.K G' H' σ ρ' F' → TRs c.K G' H' ts vs Fa → Bk os vs σ → P ts ρ' → R vs H') → tOs c os σ H R
  | [], G, H, F, ρ, P, R, ok, en, xw, hm, h => by
    show R [] H
    refine h [] H G F Fz [] ρ (Step.refl.less fun a q => ?_) (ok.less fun a q => ?_) (fun a q => q.elim) en .nil trivial hm
    · rcases q with q | q
      · exact q.elim
      · exact q
    · rcases q with q | q
      · exact q.elim
      · exact q
  | .e m :: os, G, H, F, ρ, P, R, ok, en, xw, hm, h => by
    refine ⟨G, F, ρ, _, EX, ok, en, xw, hm, fun v H1 ⟨G1, F1, Fv, t, ρ1, st, ok1, dj, en1, tr, hp⟩ => ?_⟩
    have ok1' : Ok G1 H1 F1 := ok1.less fun a q => .inr q
    have okv : Ok G1 H1 Fv := ok1.less fun a q => .inl q
    have st1 : Step G H F G1 H1 F1 := st.less fun a q => .inr q
    refine mA_read ok1' en1 (xw.step st1) hp fun vs H2 G2 F2 Fa ts ρ2 s2 ok2 dj2 en2 trs bk hP => ?_
    have tr2 := tr.step s2 dj
    have ap : Dj Fv (Fu Fa F2) := s2.apart okv dj
    have ok3 := s2.okA okv dj ok2
    refine h (v :: vs) H2 G2 F2 (Fu Fv Fa) (t :: ts) ρ2 ((st.trans s2.frame).less fun a q => ?_) (ok3.less fun a q => ?_) (fun a q r => ?_) en2 (.cons tr2 trs fun a q r => ap a q (.inl r)) bk hP
    · rcases q with (q | q) | q
      · exact .inl q
      · exact .inr (.inl q)
      · exact .inr (.inr q)
    · rcases q with (q | q) | q
      · exact .inl q
      · exact .inr (.inl q)
      · exact .inr (.inr q)
    · rcases q with q | q
      · exact ap a q (.inr r)
      · exact dj2 a q r
  | .b i :: os, G, H, F, ρ, P, R, ok, en, xw, hm, h => by
    obtain ⟨t, et, hl, hm⟩ := hm
    obtain ⟨v, A, B, ev, tr, enB, dAB, hA, hB⟩ := en.take et
    refine ⟨v, ev, ?_⟩
    have tl : TR c.K G H t v Fz := tr.leaf hl
    refine mA_read ok en xw hm fun vs H2 G2 F2 Fa ts ρ2 s2 ok2 dj2 en2 trs bk hP => ?_
    refine h (v :: vs) H2 G2 F2 (Fu Fz Fa) (t :: ts) ρ2 (s2.less fun a q => ?_) (ok2.less fun a q => ?_) (fun a q r => ?_) en2 (.cons (tl.step s2 fun a q => q.elim) trs fun a q => q.elim) bk hP
    · rcases q with (q | q) | q
      · exact q.elim
      · exact .inl q
      · exact .inr q
    · rcases q with (q | q) | q
      · exact q.elim
      · exact .inl q
      · exact .inr q
    · rcases q with q | q
      · exact q.elim
      · exact dj2 a q r
  | .o i :: os, G, H, F, ρ, P, R, ok, en, xw, hm, h => by
    obtain ⟨t, et, hm⟩ := hm
    obtain ⟨v, A, B, ev, tr, enB, dAB, hA, hB⟩ := en.take et
    refine ⟨v, ev, ?_⟩
    have okA : Ok G H A := ok.less hA
    refine mA_read (ok.less hB) enB (xw.wide hB) hm fun vs H2 G2 F2 Fa ts ρ2 s2 ok2 dj2 en2 trs bk hP => ?_
    have tr2 := tr.step s2 dAB
    have ap : Dj A (Fu Fa F2) := s2.apart okA dAB
    have ok3 := s2.okA okA dAB ok2
    have s3 : Step G H F G2 H2 (Fu A (Fu Fa F2)) := s2.frame.wide fun a q => by
      rcases q with q | q
      · exact hA a q
      · exact hB a q
    refine h (v :: vs) H2 G2 F2 (Fu A Fa) (t :: ts) ρ2 (s3.less fun a q => ?_) (ok3.less fun a q => ?_) (fun a q r => ?_) en2 (.cons tr2 trs fun a q r => ap a q (.inl r)) ⟨ev, bk⟩ hP
    · rcases q with (q | q) | q
      · exact .inl q
      · exact .inr (.inl q)
      · exact .inr (.inr q)
    · rcases q with (q | q) | q
      · exact .inl q
      · exact .inr (.inl q)
      · exact .inr (.inr q)
    · rcases q with q | q
      · exact ap a q (.inr r)
      · exact dj2 a q r
/-- what was lent goes back -/
theorem back_ok : ∀ {os : List Opd} {ts : List T} {vs : List V} {ρ : Env} {A B : Fp}, EnvR c.K G H σ ρ B → TRs c.K G H ts vs A → Dj A B → Bk os vs σ → EnvR c.K G H σ (back os ts ρ) (Fu A B)
  | [], ts, vs, ρ, A, B, en, tr, dj, bk => by
    cases ts <;> exact en.mono fun a q => .inr q
  | .e m :: os, [], vs, ρ, A, B, en, tr, dj, bk => en.mono fun a q => .inr q
  | .b i :: os, [], vs, ρ, A, B, en, tr, dj, bk => en.mono fun a q => .inr q
  | .o i :: os, [], vs, ρ, A, B, en, tr, dj, bk => en.mono fun a q => .inr q
  | .e m :: os, t :: ts, vs, ρ, A, B, en, tr, dj, bk => by
    obtain ⟨v, r, A1, A2, rfl, h1, h2, d12, s1, s2⟩ := tr.uncons
    refine (back_ok (os := os) en h2 (fun a p q => dj a (s2 a p) q) bk).mono fun a q => ?_
    rcases q with q | q
    · exact .inl (s2 a q)
    · exact .inr q
  | .b i :: os, t :: ts, vs, ρ, A, B, en, tr, dj, bk => by
    obtain ⟨v, r, A1, A2, rfl, h1, h2, d12, s1, s2⟩ := tr.uncons
    refine (back_ok (os := os) en h2 (fun a p q => dj a (s2 a p) q) bk).mono fun a q => ?_
    rcases q with q | q
    · exact .inl (s2 a q)
    · exact .inr q
  | .o i :: os, t :: ts, vs, ρ, A, B, en, tr, dj, bk => by
    obtain ⟨v, r, A1, A2, rfl, h1, h2, d12, s1, s2⟩ := tr.uncons
    obtain ⟨ev, bk⟩ := bk
    have e1 := en.put ev h1 fun a p q => dj a (s1 a p) q
    refine (back_ok (os := os) e1 h2 (fun a p q => ?_) bk).mono fun a q => ?_
    · rcases q with q | q
      · exact d12 a q p
      · exact dj a (s2 a p) q
    · rcases q with q | q | q
      · exact .inl (s2 a q)
      · exact .inl (s1 a q)
      · exact .inr q
end

/-! ### operations on trees: nothing of ours is changed -/
abbrev OpT := List T → (T → Prop) → Prop
def Res1 (K : PySem.W.Frag) (G H : Hp) (P : T → Prop) (v : V) (H' : Hp) : Prop := ∃ G' Fv t, Step G H Fz G' H' Fv ∧ Ok G' H' Fv ∧ TR K G' H' t v Fv ∧ P t
abbrev RL := List V → Hp → VK → Prop
def OpS (K : PySem.W.Frag) (r : RL) (o : OpT) : Prop := ∀ ts vs G H F P Q, Ok G H F → TRs K G H ts vs F → o ts P → (∀ v H', Res1 K G H P v H' → Q v H') → r vs H Q
def mOp (o : OpT) (os : List Opd) : ME := fun ρ EX P => mA os ρ EX fun ts ρ' => o ts fun t => P t (back os ts ρ')
section
variable {c : Cw} {G H G' H' G2 H2 : Hp} {F F' F2 A B : Fp} {σ : L2.St} {ρ : Env} {EX : EXk} {o : OpT} {os : List Opd} {r : RL} {Q : VK}
/-- behind an operation all of ours is as before -/
theorem after_op {Fa Fv : Fp} {ts : List T} {vs : List V} {t : T} {v : V} {P : T → Env → Prop} (s1 : Step G H F G' H' (Fu Fa F')) (ok1 : Ok G' H' (Fu Fa F')) (dj : Dj Fa F') (en : EnvR c.K G' H' σ ρ F') (tr : TRs c.K G' H' ts vs Fa) (bk : Bk os vs σ)
    (s2 : Step G' H' Fz G2 H2 Fv) (ok2 : Ok G2 H2 Fv) (tv : TR c.K G2 H2 t v Fv) (hP : P t (back os ts ρ)) : Res c G H F σ P v H2 := by
  have dz : ∀ {A : Fp}, Dj A Fz := fun _ _ h => h
  have apv : Dj (Fu Fa F') Fv := s2.apart ok1 dz
  refine ⟨G2, Fu Fa F', Fv, t, back os ts ρ, (s1.trans (s2.frame (A := Fu Fa F') |>.wide fun a q => ?_)).less fun a q => ?_, (s2.okA ok1 dz ok2).less fun a q => ?_, fun a p q => apv a q p, back_ok (en.step s2 dz) (tr.step s2 dz) dj bk, tv, hP⟩
  · rcases q with q | q
    · exact q
    · exact q.elim
  · rcases q with q | q
    · exact .inr q
    · exact .inl q
  · rcases q with q | q
    · exact .inr q
    · exact .inl q
theorem mOp_read (h : OpS c.K r o) {σ : L2.St} {H : Hp} (q : tG c (mOp o os) σ H Q) : tOs c os σ H fun vs H' => r vs H' Q := by
  obtain ⟨G, F, ρ, P, EX, ok, en, xw, hm, hQ⟩ := q
  refine mA_read ok en xw hm fun vs H1 G1 F1 Fa ts ρ1 s1 ok1 dj en1 tr bk hP => ?_
  refine h ts vs G1 H1 Fa _ _ (ok1.less fun a q => .inl q) tr hP fun v H2 ⟨G2, Fv, t, s2, ok2, tv, hP2⟩ => ?_
  exact hQ v H2 (after_op s1 ok1 dj en1 tr bk s2 ok2 tv hP2)
end

/-! ### a def's promise, by trees -/
abbrev Spec := List T → (Exc → Prop) → (T → Prop) → Prop
/-- leaves alone -/
def spP (K : PySem.W.Frag) (mg : Str → Option Value) (n : Nat) (sp : Spec) : Sp := fun vs H Q E => ∃ G ts P EX, Ok G H Fz ∧ ts.length = n ∧ (∀ t ∈ ts, t.leafy = true) ∧ TRs K G H ts vs Fz ∧ sp ts EX P ∧ (∀ v H', Res1 K G H P v H' → Q v H') ∧
  ∀ x cls d G' H' F', EX x → Step G H Fz G' H' F' → Ok G' H' F' → XR mg x cls d H' → E cls d H'
def fzs : List T → Option (List T)
  | [] => some []
  | t :: ts => match t.fz, fzs ts with
    | some u, some us => some (u :: us)
    | _, _ => none
def leafys (ts : List T) : Bool := ts.all T.leafy
def mCall (sp : Spec) (os : List Opd) : ME := fun ρ EX P => mA os ρ EX fun ts ρ' => ∃ us, fzs ts = some us ∧ sp us (fun x => EX x (back os ts ρ')) fun t => (leafys ts || t.closed) = true ∧ P t (back os ts ρ')
theorem fzs_len : ∀ {ts us : List T}, fzs ts = some us → us.length = ts.length ∧ (∀ u ∈ us, u.leafy = true) ∧ ∀ (i : Nat) t, ts[i]? = some t → ∃ u, us[i]? = some u ∧ t.fz = some u
  | [], us, h => by
    rw [fzs] at h
    cases h
    exact ⟨rfl, fun u z => (by cases z), fun i t e => (by cases e)⟩
  | t :: ts, us, h => by
    rw [fzs] at h
    split at h
    · rename_i x ys e1 e2
      cases h
      obtain ⟨l, r, q⟩ := fzs_len e2
      refine ⟨by rw [List.length_cons, List.length_cons, l], fun u z => ?_, fun i t' e => ?_⟩
      · rcases List.mem_cons.mp z with z | z
        · rw [z]; exact fz_leafy e1
        · exact r u z
      · cases i with
        | zero => cases e; exact ⟨x, rfl, e1⟩
        | succ i => exact q i t' e
    · cases h
section
variable {c : Cw} {G H G' H' G2 H2 : Hp} {F F' F2 A B : Fp} {σ : L2.St} {ρ : Env} {EX : EXk} {os : List Opd} {Q : VK} {sp : Spec} {n : Nat}
/-- the frozen cells are ours again -/
theorem unfreeze {Fv : Fp} (o : Ok G H A) (s : Step (GF G H A) H Fz G' H' Fv) (o' : Ok G' H' Fv) :
    ∃ G2, Step G H Fz G2 H' Fv ∧ Ok G2 H' Fv ∧ ∀ a, (∃ xs, G' a = some (.tup xs)) ∨ (∃ u xs, G' a = some (.frz u (.tup xs))) → G2 a = G' a := by
  classical
  refine ⟨fun a => if A a then none else G' a, ⟨fun a u e => ?_, fun a e => ?_, s.fr, s.th, s.fp⟩, ⟨fun a u e => ?_, fun a q => ?_, o'.cell⟩, fun a e => ?_⟩
  · have na : ¬ A a := fun q => by rw [o.no a q] at e; cases e
    show (if A a then none else G' a) = some u
    rw [if_neg na]
    exact s.le a u (GF.le o a u e)
  · by_cases na : A a
    · exact absurd (if_pos na) e
    · have e2 : (if A a then none else G' a) = G' a := if_neg na
      rcases s.ng a (fun z => e (e2.trans z)) with q | q | q
      · rw [GF.not na] at q; exact .inl q
      · exact q.elim
      · exact .inr (.inr q)
  · by_cases na : A a
    · have e2 : (if A a then none else G' a) = none := if_pos na
      rw [show (if A a then none else G' a) = some u from e] at e2
      cases e2
    · have e2 : (if A a then none else G' a) = G' a := if_neg na
      exact o'.le a u (e2.symm.trans e)
  · by_cases na : A a
    · exact if_pos na
    · exact (if_neg na).trans (o'.no a q)
  · refine if_neg fun na => ?_
    have cc := o.cell a na
    cases eH : H a with
    | none => rw [eH] at cc; exact cc
    | some u =>
      have e1 := s.fr a u (fun z => z) eH
      rw [eH] at cc
      rcases e with ⟨xs, e⟩ | ⟨w, xs, e⟩
      · rw [o'.le a _ e] at e1
        cases e1
        exact cc
      · rw [o'.le a _ e] at e1
        cases e1
        exact cc
theorem fzs_at {ts us : List T} {vs : List V} {Fa : Fp} (tr : TRs c.K G H ts vs Fa) (okA : Ok G H Fa) (eu : fzs ts = some us) : TRs c.K (GF G H Fa) H us vs Fz := by
  obtain ⟨l, hle, hfz⟩ := fzs_len eu
  obtain ⟨l2, fs, h1, h2, h3⟩ := tr
  refine ⟨l.trans l2, fun _ => Fz, fun i u v e1 e2 => ?_, fun _ _ _ z => z.elim, fun _ _ z => z.elim⟩
  have hi : i < ts.length := by
    rw [← l]
    exact (List.getElem?_eq_some_iff.mp e1).1
  obtain ⟨u', e3, e4⟩ := hfz i ts[i] (List.getElem?_eq_getElem hi)
  rw [e1] at e3
  cases e3
  exact ((h1 i ts[i] v (List.getElem?_eq_getElem hi) e2).mono (h3 i)).fz okA e4
theorem mCall_read {σ : L2.St} {H : Hp} (hn : os.length = n) (q : tG c (mCall sp os) σ H Q) : tOs c os σ H fun vs H' => spP c.K c.mg n sp vs H' Q (WE c.W σ) := by
  obtain ⟨G, F, ρ, P, EX, ok, en, xw, hm, hQ⟩ := q
  refine mA_read ok en xw hm fun vs H1 G1 F1 Fa ts ρ1 s1 ok1 dj en1 tr bk hP => ?_
  obtain ⟨us, eu, hs⟩ := hP
  obtain ⟨l, hle, hfz⟩ := fzs_len eu
  have hlv : us.length = n := by
    rw [l, tr.len, ← hn]
    exact (Bk_len bk).symm
  -- leaves alone, or a result that shares nothing
  have dz : ∀ {A : Fp}, Dj A Fz := fun _ _ h => h
  have key : ∀ Fa : Fp, Step G H F G1 H1 (Fu Fa F1) → Ok G1 H1 (Fu Fa F1) → Dj Fa F1 → TRs c.K G1 H1 ts vs Fa → ((∀ a, Fa a ↔ False) ∨ leafys ts = false) → spP c.K c.mg n sp vs H1 Q (WE c.W σ) := by
    intro Fa s1 ok1 dj tr hc
    have okA : Ok G1 H1 Fa := ok1.less fun a q => .inl q
    refine ⟨GF G1 H1 Fa, us, _, _, ⟨GF.up okA, fun _ z => z.elim, fun _ z => z.elim⟩, hlv, hle, fzs_at tr okA eu, hs, fun v H2 ⟨G2, Fv, t, s2, ok2, tv, hcl, hP2⟩ => ?_, fun x cls d G2 H2 F2 hx s2 ok2 xr => ?_⟩
    · rcases hc with hc | hc
      · have eG : GF G1 H1 Fa = G1 := funext fun a => GF.not fun z => (hc a).mp z
        rw [eG] at s2
        exact hQ v H2 (after_op s1 ok1 dj en1 tr bk s2 ok2 tv hP2)
      · obtain ⟨G3, s3, ok3, keep⟩ := unfreeze okA s2 ok2
        refine hQ v H2 (after_op s1 ok1 dj en1 tr bk s3 ok3 ?_ hP2)
        rw [hc, Bool.false_or] at hcl
        exact tv.clo keep hcl
    · obtain ⟨G3, s3, ok3, keep⟩ := unfreeze okA s2 ok2
      have apv : Dj (Fu Fa F1) F2 := s3.apart ok1 dz
      have en2 : EnvR c.K G3 H2 σ (back os ts ρ1) (Fu Fa F1) := back_ok (en1.step s3 dz) (tr.step s3 dz) dj bk
      have ok4 := s3.okA ok1 dz ok3
      refine xw x _ cls d G3 H2 (Fu Fa F1) hx ((s1.trans (s3.frame (A := Fu Fa F1) |>.wide fun a q => ?_)).less fun a q => .inl q) (ok4.less fun a q => .inl q) en2 xr
      rcases q with q | q
      · exact q
      · exact q.elim
  by_cases hl : leafys ts = true
  · refine key Fz (s1.less fun a q => ?_) (ok1.less fun a q => ?_) (fun a q => q.elim) ?_ (.inl fun a => Iff.rfl)
    · rcases q with q | q
      · exact q.elim
      · exact .inr q
    · rcases q with q | q
      · exact q.elim
      · exact .inr q
    · obtain ⟨l2, fs, h1, h2, h3⟩ := tr
      refine ⟨l2, fun _ => Fz, fun i t v e1 e2 => (h1 i t v e1 e2).leaf ?_, fun _ _ _ z => z.elim, fun _ _ z => z⟩
      unfold leafys at hl
      exact List.all_eq_true.mp hl t (List.mem_of_getElem? e1)
  · exact key Fa s1 ok1 dj tr (.inr (by simpa using hl))
end
end FA
set_option Elab.async false
set_option linter.all false
set_option maxRecDepth 100000
namespace FA
open PySem PySem.Spec PyProof.Rows L2

theorem PE_imp {X : Cx} {e : Expr} {t t' : TE} (h : PE X e t) (i : ∀ σ H Q, t' σ H Q → t σ H Q) : PE X e t' := ⟨fun pins s σ H Q I q => h.run pins s σ H Q I (i σ H Q q)⟩
theorem PT_imp {X : Cx} {e : Expr} {t t' : TT} (h : PT X e t) (i : ∀ σ H Q, t' σ H Q → t σ H Q) : PT X e t' := ⟨fun pins s σ H Q I q => h.run pins s σ H Q I (i σ H Q q)⟩
abbrev cw (X : Cx) (W : WX) : Cw := ⟨X.K, X.mg, W⟩
/-- an expression, an operand, a list of operands means .. -/
abbrev EJ (X : Cx) (W : WX) (e : Expr) (m : ME) : Prop := PE X e (tG (cw X W) m)
abbrev EO (X : Cx) (W : WX) (e : Expr) (o : Opd) : Prop := PE X e (tO (cw X W) o)
abbrev EAs (X : Cx) (W : WX) (es : List Expr) (os : List Opd) : Prop := PA X es (tOs (cw X W) os)

/-! ### tests -/
abbrev MT := Env → EXk → (Bool → Env → Prop) → Prop
section
variable (c : Cw)
def ResT (G H : Hp) (F : Fp) (σ : L2.St) (P : Bool → Env → Prop) (b : Bool) (H' : Hp) : Prop :=
  ∃ G' F' ρ', Step G H F G' H' F' ∧ Ok G' H' F' ∧ EnvR c.K G' H' σ ρ' F' ∧ P b ρ'
def tT (m : MT) : TT := fun σ H Q => ∃ G F ρ P EX, Ok G H F ∧ EnvR c.K G H σ ρ F ∧ XW c EX G H F σ ∧ m ρ EX P ∧ ∀ b H', ResT c G H F σ P b H' → Q b H'
end
abbrev ET (X : Cx) (W : WX) (e : Expr) (m : MT) : Prop := PT X e (tT (cw X W) m)
def tVal (m : ME) : MT := fun ρ EX P => m ρ EX fun t ρ' => ∃ b, t = .d (.bool b) ∧ P b ρ'
def tAndM (a b : MT) : MT := fun ρ EX P => a ρ EX fun x ρ' => if x = true then b ρ' EX P else P false ρ'
def tOrM (a b : MT) : MT := fun ρ EX P => a ρ EX fun x ρ' => if x = true then P true ρ' else b ρ' EX P
def tNotM (a : MT) : MT := fun ρ EX P => a ρ EX fun x ρ' => P (!x) ρ'

/-! ### names and constants -/
def mVar (i : Nat) : ME := fun ρ _ P => ∃ t, ρ[i]? = some (some t) ∧ t.leafy = true ∧ P t ρ
/-- a tree that is frozen at its slot -/
def mFrz (i : Nat) : ME := fun ρ _ P => ∃ t u, ρ[i]? = some (some t) ∧ t.fz = some u ∧ P u (ρ.set i (some u))
def mMov (i : Nat) : ME := fun ρ _ P => ∃ t, ρ[i]? = some (some t) ∧ P t (ρ.set i none)
def mC (x : PyData) : ME := fun ρ _ P => P (.d x) ρ
section
variable {X : Cx} {W : WX} {e a b : Expr} {m ma mb : ME} {pos : Pos} {i : Nat} {x : Str}
theorem eo_b (i : Nat) {x : Str} {pos : Pos} (hN : X.N[i]? = some x := by rfl) (hv : Vis X.env.scope x := by first | exact Or.inl rfl | exact Or.inr (Or.inl rfl) | exact Or.inr (Or.inr rfl)) (hd : (x == ("__debug__" : Str)) = false := by decide +kernel)
    (hcd : (x == ("__classdict__" : Str)) = false := by decide +kernel) : EO X W (.Name x pos) (.b i) := pe_var hN hv hd hcd
theorem eo_o (i : Nat) {x : Str} {pos : Pos} (hN : X.N[i]? = some x := by rfl) (hv : Vis X.env.scope x := by first | exact Or.inl rfl | exact Or.inr (Or.inl rfl) | exact Or.inr (Or.inr rfl)) (hd : (x == ("__debug__" : Str)) = false := by decide +kernel)
    (hcd : (x == ("__classdict__" : Str)) = false := by decide +kernel) : EO X W (.Name x pos) (.o i) := pe_var hN hv hd hcd
theorem eo_e (h : EJ X W e m) : EO X W e (.e m) := h
theorem ea_nil : EAs X W [] [] := pa_nil
theorem ea_cons {o : Opd} {es : List Expr} {os : List Opd} (h : EO X W e o) (r : EAs X W es os) (hs : starEach (e :: es) X.env = (false, eval e X.env) :: starEach es X.env := by rfl) : EAs X W (e :: es) (o :: os) := pa_cons h r hs
theorem ej_var (i : Nat) {x : Str} {pos : Pos} (hN : X.N[i]? = some x := by rfl) (hv : Vis X.env.scope x := by first | exact Or.inl rfl | exact Or.inr (Or.inl rfl) | exact Or.inr (Or.inr rfl)) (hd : (x == ("__debug__" : Str)) = false := by decide +kernel)
    (hcd : (x == ("__classdict__" : Str)) = false := by decide +kernel) : EJ X W (.Name x pos) (mVar i) := by
  refine PE_imp (pe_var hN hv hd hcd) fun σ H Q h => ?_
  obtain ⟨G, F, ρ, P, EX, ok, en, xw, ⟨t, e1, hl, hP⟩, hQ⟩ := h
  obtain ⟨v, A, B, ev, tr, enB, dAB, hA, hB⟩ := en.take e1
  exact ⟨v, ev, hQ v H ⟨G, F, Fz, _, ρ, Step.refl.less fun a q => q.elim (fun z => z.elim) id, ok.less fun a q => q.elim (fun z => z.elim) id, fun a q => q.elim, en, tr.leaf hl, hP⟩⟩
theorem ej_frz (i : Nat) {x : Str} {pos : Pos} (hN : X.N[i]? = some x := by rfl) (hv : Vis X.env.scope x := by first | exact Or.inl rfl | exact Or.inr (Or.inl rfl) | exact Or.inr (Or.inr rfl)) (hd : (x == ("__debug__" : Str)) = false := by decide +kernel)
    (hcd : (x == ("__classdict__" : Str)) = false := by decide +kernel) : EJ X W (.Name x pos) (mFrz i) := by
  refine PE_imp (pe_var hN hv hd hcd) fun σ H Q h => ?_
  obtain ⟨G, F, ρ, P, EX, ok, en, xw, ⟨t, u, e1, e2, hP⟩, hQ⟩ := h
  obtain ⟨v, A, B, ev, tr, enB, dAB, hA, hB⟩ := en.take e1
  refine ⟨v, ev, hQ v H ?_⟩
  have okA : Ok G H A := ok.less hA
  have okB : Ok G H B := ok.less hB
  have s := GF.step (A := A) (B := B) (ok.less fun a q => q.elim (hA a) (hB a)) dAB
  have tu : TR (cw X W).K (GF G H A) H u v Fz := tr.fz okA e2
  have en2 : EnvR (cw X W).K (GF G H A) H σ (ρ.set i (some u)) (Fu Fz B) := by
    have := (enB.stay (GF.le okA) fun a o _ q => q).put ev tu fun a q => q.elim
    rw [List.set_set] at this
    exact this
  refine ⟨GF G H A, Fu Fz B, Fz, u, _, (s.1.wide fun a q => q.elim (hA a) (hB a)).less fun a q => ?_, s.2.less fun a q => ?_, fun a q => q.elim, en2, tu, hP⟩
  · rcases q with q | q | q
    · exact q.elim
    · exact q.elim
    · exact q
  · rcases q with q | q | q
    · exact q.elim
    · exact q.elim
    · exact q
theorem ej_mov (i : Nat) {x : Str} {pos : Pos} (hN : X.N[i]? = some x := by rfl) (hv : Vis X.env.scope x := by first | exact Or.inl rfl | exact Or.inr (Or.inl rfl) | exact Or.inr (Or.inr rfl)) (hd : (x == ("__debug__" : Str)) = false := by decide +kernel)
    (hcd : (x == ("__classdict__" : Str)) = false := by decide +kernel) : EJ X W (.Name x pos) (mMov i) := by
  refine PE_imp (pe_var hN hv hd hcd) fun σ H Q h => ?_
  obtain ⟨G, F, ρ, P, EX, ok, en, xw, ⟨t, e1, hP⟩, hQ⟩ := h
  obtain ⟨v, A, B, ev, tr, enB, dAB, hA, hB⟩ := en.take e1
  exact ⟨v, ev, hQ v H ⟨G, B, A, t, _, Step.refl.less fun a q => q.elim (hA a) (hB a), ok.less fun a q => q.elim (hA a) (hB a), dAB, enB, tr, hP⟩⟩
theorem ej_c {d : PyData} {v : V} (h : PE X e (tC v)) (hv : FlatR d v) : EJ X W e (mC d) := by
  refine PE_imp h fun σ H Q h => ?_
  obtain ⟨G, F, ρ, P, EX, ok, en, xw, hP, hQ⟩ := h
  refine hQ v H ⟨G, F, Fz, _, ρ, Step.refl.less fun a q => q.elim (fun z => z.elim) id, ok.less fun a q => q.elim (fun z => z.elim) id, fun a q => q.elim, en, .d ?_, hP⟩
  cases d <;> first | exact hv.elim | (rw [DR]; exact hv)
theorem ej_int {i j pos} : EJ X W (.Constant (.int i) j pos) (mC (.int i)) := ej_c pe_int rfl
theorem ej_bl {b j pos} : EJ X W (.Constant (.bool b) j pos) (mC (.bool b)) := ej_c pe_bl rfl
theorem ej_non {j pos} : EJ X W (.Constant .none j pos) (mC .none) := ej_c pe_non rfl
theorem ej_str {x j pos} : EJ X W (.Constant (.str x) j pos) (mC (.str x)) := ej_c pe_str rfl
theorem ej_glob {x : Str} {v : V} {u : Value} {pos : Pos} {d : PyData} (hg : Gl X x) (hm : X.mg x = some u) (r : RelV v u) (hv : FlatR d v) (hd : (x == ("__debug__" : Str)) = false := by decide +kernel) : EJ X W (.Name x pos) (mC d) := ej_c (pe_glob hg hm r hd) hv


/-! ### operations -/
def r2L (r : R2) : RL := fun vs H Q => match vs with
  | [x, y] => r x y H Q
  | _ => False
def r1L (r : V → Hp → VK → Prop) : RL := fun vs H Q => match vs with
  | [x] => r x H Q
  | _ => False
theorem ej_bin {o : OpT} {r : R2} {op : Operator} {o1 o2 : Opd} (ho : OpR X (binaryOp op) r) (os : OpS X.K (r2L r) o) (ha : EO X W a o1) (hb : EO X W b o2) : EJ X W (.BinOp a op b pos) (mOp o [o1, o2]) :=
  PE_imp (pe_op ho ha hb) fun σ H Q h => mOp_read (c := cw X W) os h
theorem ej_cmp {o : OpT} {r : R2} {op : CmpOp} {o1 o2 : Opd} (ho : OpR X (compareOp op) r) (os : OpS X.K (r2L r) o) (ha : EO X W a o1) (hb : EO X W b o2) (hm : behindInMarks op b = false := by rfl) : EJ X W (.Compare a [op] [b] pos) (mOp o [o1, o2]) :=
  PE_imp (pe_cmpR ho ha hb hm) fun σ H Q h => mOp_read (c := cw X W) os h
theorem ej_ix {o : OpT} {r : R2} {o1 o2 : Opd} (ho : IxR X r) (os : OpS X.K (r2L r) o) (ha : EO X W a o1) (hb : EO X W b o2) (hs : PlainIx b := by exact fun _ _ => rfl) : EJ X W (.Subscript a b pos) (mOp o [o1, o2]) :=
  PE_imp (pe_ix ho ha hb hs) fun σ H Q h => mOp_read (c := cw X W) os h
theorem ej_un {o : OpT} {r : V → Hp → VK → Prop} {op : UnaryOp} {o1 : Opd} (ho : UnR X (unaryOp op) r) (os : OpS X.K (r1L r) o) (ha : EO X W a o1) : EJ X W (.UnaryOp op a pos) (mOp o [o1]) :=
  PE_imp (pe_un ho ha) fun σ H Q h => mOp_read (c := cw X W) os h
theorem ej_bf {o : OpT} {r : RL} {id : String} {x : Str} {p : Pos} {es : List Expr} {os' : List Opd} (hc : CallR X (.builtin id) r) (os : OpS X.K r o) (hg : Gl X x) (hm : X.mg x = none) (hv : bootBuiltins x = some (.builtin id)) (ha : EAs X W (e :: es) os') (hn : x ≠ "__name__" := by decide +kernel) (hdb : (x == ("__debug__" : Str)) = false := by decide +kernel)
    (he : starEach (e :: es) X.env = (false, eval e X.env) :: starEach es X.env := by rfl) (hpl : (backTo pos (starEach es X.env)).any (·.1) = false := by rfl) : EJ X W (.Call (.Name x p) (e :: es) [] pos) (mOp o os') :=
  PE_imp (pe_callB hc hg hm hv ha hn hdb he hpl) fun σ H Q h => mOp_read (c := cw X W) os h
theorem ej_bt {o : OpT} {r : RL} {id : String} {x : Str} {p : Pos} {es : List Expr} {os' : List Opd} (hc : CallR X (.type id) r) (os : OpS X.K r o) (hg : Gl X x) (hm : X.mg x = none) (hv : bootBuiltins x = some (.type id)) (ha : EAs X W (e :: es) os') (hn : x ≠ "__name__" := by decide +kernel) (hdb : (x == ("__debug__" : Str)) = false := by decide +kernel)
    (he : starEach (e :: es) X.env = (false, eval e X.env) :: starEach es X.env := by rfl) (hpl : (backTo pos (starEach es X.env)).any (·.1) = false := by rfl) : EJ X W (.Call (.Name x p) (e :: es) [] pos) (mOp o os') :=
  PE_imp (pe_callTy hc hg hm hv ha hn hdb he hpl) fun σ H Q h => mOp_read (c := cw X W) os h
/-- a call of a def -/
theorem ej_call {x : Str} {p : Pos} {es : List Expr} {os : List Opd} {k n : Nat} {f : Addr} {fd : FuncData} {ps : List Str} {sp : Spec} (F : FnOk X.prog X.w X.K X.mg X.base (L2.CX X.prog X.w) k f fd ps (spP X.K X.mg n sp)) (hr : Room k X.A) (hm : X.mg x = some (.ref f)) (hk : PySem.W.keepIn X.K (.ref f) = true) (hb : Binds X.K fd ps [])
    (tk : Takes X W) (hg : Gl X x) (ha : EAs X W (e :: es) os) (hn : os.length = n := by rfl) (hdb : (x == ("__debug__" : Str)) = false := by decide +kernel) (he : starEach (e :: es) X.env = (false, eval e X.env) :: starEach es X.env := by rfl) (hpl : (backTo pos (starEach es X.env)).any (·.1) = false := by rfl) :
    EJ X W (.Call (.Name x p) (e :: es) [] pos) (mCall sp os) :=
  PE_imp (pe_callS F hr hg hm hk hb (fun σ => passAt tk σ) ha hdb he hpl) fun σ H Q h => mCall_read (c := cw X W) hn h

/-! ### displays -/
def mLst (os : List Opd) : ME := fun ρ EX P => mA os ρ EX fun ts ρ' => ts.length ≤ sizeLine ∧ P (.nd .lst ts) ρ'
def mTup (os : List Opd) : ME := fun ρ EX P => mA os ρ EX fun ts ρ' => ts.length ≤ sizeLine ∧ ∃ ds, T.datas ts = some ds ∧ P (.d (.tuple ds)) ρ'
end
section
variable {K : PySem.W.Frag} {G H G' H' : Hp} {F A B : Fp} {t : T} {v : V} {ts cs : List T} {vs : List V} {p : Addr}
def Fone (p : Addr) : Fp := fun a => a = p
/-- a new list of these -/
theorem new_lst (ok : Ok G H F) (tr : TRs K G H ts vs F) (hp : H p = none) : Step G H F G (upd H p (.lst vs)) (Fu (Fone p) F) ∧ Ok G (upd H p (.lst vs)) (Fu (Fone p) F) ∧ TR K G (upd H p (.lst vs)) (.nd .lst ts) (.ref p) (Fu (Fone p) F) := by
  have hle : ∀ a o, H a = some o → upd H p (.lst vs) a = some o := fun a o e => by
    rw [upd_ne (ne_of_none e hp)]
    exact e
  have gp : G p = none := by
    cases e : G p with
    | none => rfl
    | some o => rw [ok.le p o e] at hp; cases hp
  refine ⟨⟨.refl G, fun a h => .inl h, fun a o _ e => hle a o e, fun a h => ?_, fun a h => ?_⟩, ⟨fun a o e => hle a o (ok.le a o e), fun a h => ?_, fun a h => ?_⟩, ?_⟩
  · cases e : H a with
    | none => exact absurd e h
    | some o => rw [hle a o e]; simp
  · rcases h with h | h
    · right
      have e : a = p := h
      rw [e]
      exact hp
    · exact .inl h
  · rcases h with h | h
    · have e : a = p := h
      rw [e]
      exact gp
    · exact ok.no a h
  · rcases h with h | h
    · have e : a = p := h
      rw [e, upd_same]
      trivial
    · have c := ok.cell a h
      cases e : H a with
      | none => rw [e] at c; exact c.elim
      | some o => rw [hle a o e, ← e]; exact c
  · have tr' := tr.stay (G' := G) (H' := upd H p (.lst vs)) (.refl G) fun a o _ e => hle a o e
    obtain ⟨l, fs, h1, h2, h3⟩ := tr'
    exact .nd fs upd_same l h1 h2 (fun i x q => .inr (h3 i x q)) (fun i q => ok.tracked (h3 i p q) hp) (.inl rfl)
theorem new_tup {ds : List PyData} (ok : Ok G H F) (tr : DRs K G ds vs) (hp : H p = none) : Step G H F (upd G p (.tup vs)) (upd H p (.tup vs)) F ∧ Ok (upd G p (.tup vs)) (upd H p (.tup vs)) F ∧ DR K (upd G p (.tup vs)) (.tuple ds) (.ref p) := by
  have hle : ∀ a o, H a = some o → upd H p (.tup vs) a = some o := fun a o e => by
    rw [upd_ne (ne_of_none e hp)]
    exact e
  have gp : G p = none := by
    cases e : G p with
    | none => rfl
    | some o => rw [ok.le p o e] at hp; cases hp
  have gle : ∀ a o, G a = some o → upd G p (.tup vs) a = some o := fun a o e => by
    rw [upd_ne (ne_of_none e gp)]
    exact e
  refine ⟨⟨gle, fun a h => ?_, fun a o _ e => hle a o e, fun a h => ?_, fun a h => .inl h⟩, ⟨fun a o e => ?_, fun a h => ?_, fun a h => ?_⟩, ?_⟩
  · by_cases e : a = p
    · right; right
      rw [e]
      exact nc hp
    · rw [upd_ne e] at h
      exact .inl h
  · cases e : H a with
    | none => exact absurd e h
    | some o => rw [hle a o e]; simp
  · by_cases q : a = p
    · subst q
      rw [upd_same] at e ⊢
      exact e
    · rw [upd_ne q] at e ⊢
      exact ok.le a o e
  · rw [upd_ne (fun z : a = p => ok.tracked h (by rw [z]; exact hp))]
    exact ok.no a h
  · have c := ok.cell a h
    cases e : H a with
    | none => rw [e] at c; exact c.elim
    | some o => rw [hle a o e, ← e]; exact c
  · rw [DR]
    exact ⟨p, vs, rfl, upd_same, tr.le gle⟩
theorem datas_at {ds : List PyData} (tr : TRs K G H ts vs A) (ok : Ok G H A) (e : T.datas ts = some ds) : DRs K (GF G H A) ds vs := by
  obtain ⟨l, fs, h1, h2, h3⟩ := tr
  obtain ⟨l2, r⟩ := datas_some e
  refine DRs.of (l2.symm.trans l) fun i d v e1 e2 => ?_
  have hi : i < ts.length := by
    rw [l2]
    exact (List.getElem?_eq_some_iff.mp e1).1
  obtain ⟨x, e3, e4⟩ := r i ts[i] (List.getElem?_eq_getElem hi)
  rw [e1] at e3
  cases e3
  exact ((h1 i ts[i] v (List.getElem?_eq_getElem hi) e2).mono (h3 i)).freeze ok e4
end
section
variable {X : Cx} {W : WX} {e a b : Expr} {m ma mb : ME} {pos : Pos} {i : Nat} {x : Str}
theorem ej_lst {es : List Expr} {os : List Opd} (ha : EAs X W es os) : EJ X W (.List es pos) (mLst os) := by
  refine PE_imp (pe_lst ha) fun σ H Q h => ?_
  obtain ⟨G, F, ρ, P, EX, ok, en, xw, hm, hQ⟩ := h
  refine mA_read ok en xw hm fun vs H1 G1 F1 Fa ts ρ1 s1 ok1 dj en1 tr bk hP => ?_
  obtain ⟨hl, hP⟩ := hP
  refine ⟨by rw [← tr.len]; exact hl, fun p hp => hQ _ _ ?_⟩
  have okA : Ok G1 H1 Fa := ok1.less fun a q => .inl q
  have okB : Ok G1 H1 F1 := ok1.less fun a q => .inr q
  obtain ⟨s2, ok2, tv⟩ := new_lst okA tr hp
  have dj' : Dj F1 Fa := fun a p q => dj a q p
  have ap : Dj F1 (Fu (Fone p) Fa) := s2.apart okB dj'
  refine ⟨G1, F1, Fu (Fone p) Fa, _, ρ1, (s1.trans ((s2.frame (A := F1)).wide fun a q => ?_)).less fun a q => ?_, (s2.okA okB dj' ok2).less fun a q => ?_, fun a q r => ap a r q, en1.step s2 dj', tv, hP⟩
  · rcases q with q | q
    · exact .inr q
    · exact .inl q
  · rcases q with q | q
    · exact .inr q
    · exact .inl q
  · rcases q with q | q
    · exact .inr q
    · exact .inl q
theorem ej_tup {es : List Expr} {os : List Opd} {x1 : Nat} (ha : EAs X W es os) : EJ X W (.Tuple es x1 pos) (mTup os) := by
  refine PE_imp (pe_tup ha) fun σ H Q h => ?_
  obtain ⟨G, F, ρ, P, EX, ok, en, xw, hm, hQ⟩ := h
  refine mA_read ok en xw hm fun vs H1 G1 F1 Fa ts ρ1 s1 ok1 dj en1 tr bk hP => ?_
  obtain ⟨hl, ds, ed, hP⟩ := hP
  refine ⟨by rw [← tr.len]; exact hl, fun p hp => hQ _ _ ?_⟩
  have okA : Ok G1 H1 Fa := ok1.less fun a q => .inl q
  have dr := datas_at tr okA ed
  obtain ⟨s2, ok2⟩ := GF.step ok1 dj
  obtain ⟨s3, ok3, dv⟩ := new_tup ok2 dr hp
  refine ⟨_, F1, Fz, _, ρ1, (s1.trans (s2.trans s3)).less fun a q => ?_, ok3.less fun a q => ?_, fun a q => q.elim, (en1.stay (G' := GF G1 H1 Fa) (GF.le okA) fun a o _ q => q).stay s3.le fun a o z q => ?_, .d dv, hP⟩
  · rcases q with q | q
    · exact q.elim
    · exact q
  · rcases q with q | q
    · exact q.elim
    · exact q
  · rw [upd_ne (ne_of_none q hp)]
    exact q

/-! ### tests -/
theorem et_val (h : EJ X W e m) (he : ∀ whole, isTrue e X.env whole = (do let v ← whole; standAt e.pos; holding [v] (truthy v)) := by intro _; rfl) : ET X W e (tVal m) := by
  refine PT_imp (pt_val h he) fun σ H Q h => ?_
  obtain ⟨G, F, ρ, P, EX, ok, en, xw, hm, hQ⟩ := h
  refine ⟨G, F, ρ, _, EX, ok, en, xw, hm, fun v H' ⟨G', F', Fv, t, ρ', s, ok', dj, en', tr, b, et, hP⟩ => ?_⟩
  subst et
  cases tr with
  | d h =>
    rw [DR] at h
    exact ⟨b, h, hQ b H' ⟨G', F', ρ', s.less fun a q => .inr q, ok'.less fun a q => .inr q, en', hP⟩⟩
theorem et_cmp {o : OpT} {r : R2} {op : CmpOp} {o1 o2 : Opd} (ho : OpR X (compareOp op) r) (os : OpS X.K (r2L r) o) (ha : EO X W a o1) (hb : EO X W b o2) (hm : behindInMarks op b = false := by rfl) : ET X W (.Compare a [op] [b] pos) (tVal (mOp o [o1, o2])) := by
  refine PT_imp (pt_cmpR ho ha hb hm) fun σ H Q h => ?_
  obtain ⟨G, F, ρ, P, EX, ok, en, xw, hm, hQ⟩ := h
  refine mOp_read (c := cw X W) os ⟨G, F, ρ, _, EX, ok, en, xw, hm, fun v H' ⟨G', F', Fv, t, ρ', s, ok', dj, en', tr, b, et, hP⟩ => ?_⟩
  subst et
  cases tr with
  | d h =>
    rw [DR] at h
    exact ⟨b, h, hQ b H' ⟨G', F', ρ', s.less fun a q => .inr q, ok'.less fun a q => .inr q, en', hP⟩⟩
theorem tT_and {c : Cw} {σ : L2.St} {H : Hp} {Q : Bool → Hp → Prop} {a b : MT} (h : tT c (tAndM a b) σ H Q) : tAnd (tT c a) (tT c b) σ H Q := by
  obtain ⟨G, F, ρ, P, EX, ok, en, xw, hm, hQ⟩ := h
  refine ⟨G, F, ρ, _, EX, ok, en, xw, hm, fun x H' ⟨G', F', ρ', s, ok', en', hP⟩ => ?_⟩
  cases x with
  | true =>
    rw [if_pos rfl] at hP ⊢
    exact ⟨G', F', ρ', P, EX, ok', en', xw.step s, hP, fun y H2 ⟨G2, F2, ρ2, s2, ok2, en2, hP2⟩ => hQ y H2 ⟨G2, F2, ρ2, s.trans s2, ok2, en2, hP2⟩⟩
  | false =>
    rw [if_neg Bool.false_ne_true] at hP ⊢
    exact hQ false H' ⟨G', F', ρ', s, ok', en', hP⟩
theorem tT_or {c : Cw} {σ : L2.St} {H : Hp} {Q : Bool → Hp → Prop} {a b : MT} (h : tT c (tOrM a b) σ H Q) : tOr (tT c a) (tT c b) σ H Q := by
  obtain ⟨G, F, ρ, P, EX, ok, en, xw, hm, hQ⟩ := h
  refine ⟨G, F, ρ, _, EX, ok, en, xw, hm, fun x H' ⟨G', F', ρ', s, ok', en', hP⟩ => ?_⟩
  cases x with
  | false =>
    rw [if_neg Bool.false_ne_true] at hP ⊢
    exact ⟨G', F', ρ', P, EX, ok', en', xw.step s, hP, fun y H2 ⟨G2, F2, ρ2, s2, ok2, en2, hP2⟩ => hQ y H2 ⟨G2, F2, ρ2, s.trans s2, ok2, en2, hP2⟩⟩
  | true =>
    rw [if_pos rfl] at hP ⊢
    exact hQ true H' ⟨G', F', ρ', s, ok', en', hP⟩
/-- a test whatever its whole is -/
abbrev EW (X : Cx) (W : WX) (e : Expr) (m : MT) : Prop := PW X e (tT (cw X W) m)
theorem PW_imp {X : Cx} {e : Expr} {t t' : TT} (h : PW X e t) (i : ∀ σ H Q, t' σ H Q → t σ H Q) : PW X e t' := ⟨fun wh pins s σ H Q I q => h.run wh pins s σ H Q I (i σ H Q q)⟩
variable {t1 t2 : MT} {rest : List Expr}
theorem ew_and1 (ha : ET X W a t1) : EW X W (.BoolOp .And [a] pos) t1 := pw_and1 ha
theorem ew_or1 (ha : ET X W a t1) : EW X W (.BoolOp .Or [a] pos) t1 := pw_or1 ha
theorem ew_and (ha : ET X W a t1) (hb : EW X W (.BoolOp .And (b :: rest) pos) t2) : EW X W (.BoolOp .And (a :: b :: rest) pos) (tAndM t1 t2) := PW_imp (pw_and ha hb) fun _ _ _ h => tT_and h
theorem ew_or (ha : ET X W a t1) (hb : EW X W (.BoolOp .Or (b :: rest) pos) t2) : EW X W (.BoolOp .Or (a :: b :: rest) pos) (tOrM t1 t2) := PW_imp (pw_or ha hb) fun _ _ _ h => tT_or h
theorem et_w {m : MT} (h : EW X W e m) : ET X W e m := h.pt
theorem et_not (ha : ET X W a t1) : ET X W (.UnaryOp .Not a pos) (tNotM t1) := by
  refine PT_imp (pt_not ha) fun σ H Q h => ?_
  obtain ⟨G, F, ρ, P, EX, ok, en, xw, hm, hQ⟩ := h
  exact ⟨G, F, ρ, _, EX, ok, en, xw, hm, fun x H' ⟨G', F', ρ', s, ok', en', hP⟩ => hQ _ H' ⟨G', F', ρ', s, ok', en', hP⟩⟩
/-! ### and, or, not as values; a if t else b -/
def mAnd (a b : ME) : ME := fun ρ EX P => a ρ EX fun t ρ' => ∃ x, t = .d (.bool x) ∧ if x = true then b ρ' EX P else P (.d (.bool false)) ρ'
def mOr (a b : ME) : ME := fun ρ EX P => a ρ EX fun t ρ' => ∃ x, t = .d (.bool x) ∧ if x = true then P (.d (.bool true)) ρ' else b ρ' EX P
def mNot (a : ME) : ME := fun ρ EX P => a ρ EX fun t ρ' => ∃ x, t = .d (.bool x) ∧ P (.d (.bool (!x))) ρ'
def mIf (c : MT) (a b : ME) : ME := fun ρ EX P => c ρ EX fun x ρ' => if x = true then a ρ' EX P else b ρ' EX P
theorem ej_one {op} (h : EJ X W a m) : EJ X W (.BoolOp op [a] pos) m := pe_one h
theorem Res.more {c : Cw} {G H G' H' : Hp} {F F' : Fp} {σ : L2.St} {P : T → Env → Prop} {v : V} {H2 : Hp} (s : Step G H F G' H' F') (r : Res c G' H' F' σ P v H2) : Res c G H F σ P v H2 := by
  obtain ⟨G2, F2, Fv, t, ρ, s2, rest⟩ := r
  exact ⟨G2, F2, Fv, t, ρ, s.trans s2, rest⟩
theorem ej_and (ha : EJ X W a ma) (hb : EJ X W (.BoolOp .And (b :: rest) pos) mb) : EJ X W (.BoolOp .And (a :: b :: rest) pos) (mAnd ma mb) := by
  refine PE_imp (pe_and ha hb) fun σ H Q h => ?_
  obtain ⟨G, F, ρ, P, EX, ok, en, xw, hm, hQ⟩ := h
  refine ⟨G, F, ρ, _, EX, ok, en, xw, hm, fun v H' ⟨G', F', Fv, t, ρ', s, ok', dj, en', tr, x, et, hP⟩ => ?_⟩
  subst et
  have s1 : Step G H F G' H' F' := s.less fun a q => .inr q
  have ok1 : Ok G' H' F' := ok'.less fun a q => .inr q
  cases tr with
  | d h =>
    rw [DR] at h
    refine ⟨x, h, ?_⟩
    cases x with
    | true =>
      rw [if_pos rfl] at hP ⊢
      exact ⟨G', F', ρ', P, EX, ok1, en', xw.step s1, hP, fun v2 H2 r => hQ v2 H2 (r.more s1)⟩
    | false =>
      rw [if_neg Bool.false_ne_true] at hP ⊢
      exact hQ _ _ ⟨G', F', Fv, _, ρ', s, ok', dj, en', .d (by rw [DR]), hP⟩
theorem ej_not (ha : EJ X W a ma) : EJ X W (.UnaryOp .Not a pos) (mNot ma) := by
  refine PE_imp (pe_not ha) fun σ H Q h => ?_
  obtain ⟨G, F, ρ, P, EX, ok, en, xw, hm, hQ⟩ := h
  refine ⟨G, F, ρ, _, EX, ok, en, xw, hm, fun v H' ⟨G', F', Fv, t, ρ', s, ok', dj, en', tr, x, et, hP⟩ => ?_⟩
  subst et
  cases tr with
  | d h =>
    rw [DR] at h
    exact ⟨x, h, hQ _ _ ⟨G', F', Fv, _, ρ', s, ok', dj, en', .d (by rw [DR]), hP⟩⟩
theorem ej_if {c : Expr} (hc : ET X W c t1) (ha : EJ X W a ma) (hb : EJ X W b mb) : EJ X W (.IfExp c a b pos) (mIf t1 ma mb) := by
  refine PE_imp (pe_ifExp hc ha hb) fun σ H Q h => ?_
  obtain ⟨G, F, ρ, P, EX, ok, en, xw, hm, hQ⟩ := h
  refine ⟨G, F, ρ, _, EX, ok, en, xw, hm, fun x H' ⟨G', F', ρ', s, ok', en', hP⟩ => ?_⟩
  cases x with
  | true =>
    rw [if_pos rfl] at hP ⊢
    exact ⟨G', F', ρ', P, EX, ok', en', xw.step s, hP, fun v2 H2 r => hQ v2 H2 (r.more s)⟩
  | false =>
    rw [if_neg Bool.false_ne_true] at hP ⊢
    exact ⟨G', F', ρ', P, EX, ok', en', xw.step s, hP, fun v2 H2 r => hQ v2 H2 (r.more s)⟩
end
end FA
set_option Elab.async false
set_option linter.all false
set_option maxRecDepth 100000
namespace FA
open PySem PySem.Spec PyProof.Rows L2

section
variable {K : PySem.W.Frag} {G H G' H' : Hp} {F A B : Fp} {t u : T} {v w : V} {ts cs : List T} {vs : List V} {P : T → Prop} {Q : VK}
theorem trs1 (h : TRs K G H [t] vs F) : ∃ v, vs = [v] ∧ TR K G H t v F := by
  obtain ⟨v, r, A, B, rfl, h1, h2, _, s1, _⟩ := h.uncons
  have := h2.nil_inv
  subst this
  exact ⟨v, rfl, h1.mono s1⟩
theorem trs2 (h : TRs K G H [t, u] vs F) : ∃ v w, vs = [v, w] ∧ TR K G H t v F ∧ TR K G H u w F := by
  obtain ⟨v, r, A, B, rfl, h1, h2, _, s1, s2⟩ := h.uncons
  obtain ⟨w, rfl, h3⟩ := trs1 h2
  exact ⟨v, w, rfl, h1.mono s1, h3.mono s2⟩
theorem TR.dr {x : PyData} (h : TR K G H (.d x) v F) : DR K G x v := by
  cases h with
  | d h => exact h
theorem TR.int {i : Int} (h : TR K G H (.d (.int i)) v F) : v = .int i := by
  have := h.dr
  rw [DR] at this
  exact this
theorem Ok.z (o : Ok G H F) : Ok G H Fz := o.less fun _ z => z.elim
theorem res_same (o : Ok G H F) (h : TR K G H t v Fz) (hP : P t) : Res1 K G H P v H := ⟨G, Fz, t, Step.refl, o.z, h, hP⟩
/-- a flat value -/
theorem res_flat {x : PyData} (o : Ok G H F) (h : FlatR x v) (hP : P (.d x)) : Res1 K G H P v H := res_same o (.d (by cases x <;> first | exact h.elim | (rw [DR]; exact h))) hP
theorem res_int {i : Int} (o : Ok G H F) (hP : P (.d (.int i))) : Res1 K G H P (.int i) H := res_flat (x := .int i) o rfl hP
theorem res_bool {b : Bool} (o : Ok G H F) (hP : P (.d (.bool b))) : Res1 K G H P (.bl b) H := res_flat (x := .bool b) o rfl hP
/-- data at the whole heap -/
theorem TR.full {x : PyData} (h : TR K G H t v F) (o : Ok G H F) (e : t.data = some x) : DR K H x v := (h.freeze o e).le (GF.up o)

/-! ### ints -/
def oI (f : Int → Int → PyData) : OpT := fun ts P => match ts with
  | [.d (.int i), .d (.int j)] => P (.d (f i j))
  | _ => False
def oIC (C : Int → Int → Prop) (f : Int → Int → PyData) : OpT := fun ts P => match ts with
  | [.d (.int i), .d (.int j)] => C i j ∧ P (.d (f i j))
  | _ => False
theorem oI_S {g : Int → Int → V} {f : Int → Int → PyData} (h : ∀ i j, FlatR (f i j) (g i j)) : OpS K (r2L (rI0 g)) (oI f) := by
  intro ts vs G H F P Q ok tr ho hQ
  unfold oI at ho
  split at ho
  · obtain ⟨v, w, rfl, h1, h2⟩ := trs2 tr
    exact ⟨_, _, h1.int, h2.int, hQ _ _ (res_flat ok (h _ _) ho)⟩
  · exact ho.elim
theorem oIC_S {C : Int → Int → Prop} {g : Int → Int → V} {f : Int → Int → PyData} (h : ∀ i j, FlatR (f i j) (g i j)) : OpS K (r2L (rI C g)) (oIC C f) := by
  intro ts vs G H F P Q ok tr ho hQ
  unfold oIC at ho
  split at ho
  · obtain ⟨v, w, rfl, h1, h2⟩ := trs2 tr
    exact ⟨_, _, h1.int, h2.int, ho.1, hQ _ _ (res_flat ok (h _ _) ho.2)⟩
  · exact ho.elim
abbrev oAdd : OpT := oI fun i j => .int (i + j)
abbrev oSub : OpT := oI fun i j => .int (i - j)
abbrev oDiv : OpT := oIC CDivW fun i j => .int (i / j)
abbrev oMod : OpT := oIC (fun _ j => 0 < j) fun i j => .int (i % j)
abbrev oLt : OpT := oI fun i j => .bool (decide (i < j))
abbrev oLe : OpT := oI fun i j => .bool (decide (i ≤ j))
abbrev oGt : OpT := oI fun i j => .bool (decide (j < i))
abbrev oGe : OpT := oI fun i j => .bool (decide (j ≤ i))
theorem oAdd_S : OpS K (r2L (rI0 fun i j => .int (i + j))) oAdd := oI_S fun _ _ => rfl
theorem oSub_S : OpS K (r2L (rI0 fun i j => .int (i - j))) oSub := oI_S fun _ _ => rfl
theorem oDiv_S : OpS K (r2L (rI CDivW fun i j => .int (i / j))) oDiv := oIC_S fun _ _ => rfl
theorem oMod_S : OpS K (r2L (rI (fun _ j => 0 < j) fun i j => .int (i % j))) oMod := oIC_S fun _ _ => rfl
theorem oLt_S : OpS K (r2L (rI0 fun i j => .bl (decide (i < j)))) oLt := oI_S fun _ _ => rfl
theorem oLe_S : OpS K (r2L (rI0 fun i j => .bl (decide (i ≤ j)))) oLe := oI_S fun _ _ => rfl
theorem oGt_S : OpS K (r2L (rI0 fun i j => .bl (decide (j < i)))) oGt := oI_S fun _ _ => rfl
theorem oGe_S : OpS K (r2L (rI0 fun i j => .bl (decide (j ≤ i)))) oGe := oI_S fun _ _ => rfl
def oNeg : OpT := fun ts P => match ts with
  | [.d (.int i)] => P (.d (.int (-i)))
  | _ => False
theorem oNeg_S : OpS K (r1L (rU fun i => .int (-i))) oNeg := by
  intro ts vs G H F P Q ok tr ho hQ
  unfold oNeg at ho
  split at ho
  · obtain ⟨v, rfl, h1⟩ := trs1 tr
    exact ⟨_, h1.int, hQ _ _ (res_int ok ho)⟩
  · exact ho.elim
def oMax : OpT := oI fun i j => .int (if j > i then j else i)
def oMin : OpT := oI fun i j => .int (if j < i then j else i)
theorem oMax_S : OpS K (fun xs H Q => ∃ i j, xs = [.int i, .int j] ∧ Q (.int (if j > i then j else i)) H) oMax := by
  intro ts vs G H F P Q ok tr ho hQ
  unfold oMax oI at ho
  split at ho
  · obtain ⟨v, w, rfl, h1, h2⟩ := trs2 tr
    exact ⟨_, _, by rw [h1.int, h2.int], hQ _ _ (res_int ok ho)⟩
  · exact ho.elim
theorem oMin_S : OpS K (fun xs H Q => ∃ i j, xs = [.int i, .int j] ∧ Q (.int (if j < i then j else i)) H) oMin := by
  intro ts vs G H F P Q ok tr ho hQ
  unfold oMin oI at ho
  split at ho
  · obtain ⟨v, w, rfl, h1, h2⟩ := trs2 tr
    exact ⟨_, _, by rw [h1.int, h2.int], hQ _ _ (res_int ok ho)⟩
  · exact ho.elim
def oAbs : OpT := fun ts P => match ts with
  | [.d (.int i)] => P (.d (.int (if i < 0 then -i else i)))
  | _ => False
theorem oAbs_S : OpS K (fun xs H Q => ∃ i, xs = [.int i] ∧ Q (.int (if i < 0 then -i else i)) H) oAbs := by
  intro ts vs G H F P Q ok tr ho hQ
  unfold oAbs at ho
  split at ho
  · obtain ⟨v, rfl, h1⟩ := trs1 tr
    exact ⟨_, by rw [h1.int], hQ _ _ (res_int ok ho)⟩
  · exact ho.elim

/-! ### comparing data -/
def oEq : OpT := fun ts P => ∃ x y, T.datas ts = some [x, y] ∧ SeqAt.shaped x = true ∧ SeqAt.shaped y = true ∧ P (.d (.bool (PyData.eqv x y)))
def oNe : OpT := fun ts P => ∃ x y, T.datas ts = some [x, y] ∧ SeqAt.shaped x = true ∧ SeqAt.shaped y = true ∧ P (.d (.bool (!PyData.eqv x y)))
theorem data2 {x y : PyData} (h : T.datas ts = some [x, y]) : ∃ t u, ts = [t, u] ∧ t.data = some x ∧ u.data = some y := by
  obtain ⟨l, r⟩ := datas_some h
  match ts, l with
  | [t, u], _ =>
    obtain ⟨x', e1, e2⟩ := r 0 t rfl
    obtain ⟨y', e3, e4⟩ := r 1 u rfl
    cases e1
    cases e3
    exact ⟨t, u, rfl, e2, e4⟩
theorem oEq_S : OpS K (r2L (rEqD K)) oEq := by
  intro ts vs G H F P Q ok tr ⟨x, y, e, s1, s2, hP⟩ hQ
  obtain ⟨t, u, rfl, e1, e2⟩ := data2 e
  obtain ⟨v, w, rfl, h1, h2⟩ := trs2 tr
  exact ⟨x, y, (h1.full ok e1).dp (nod_shaped s1), (h2.full ok e2).dp (nod_shaped s2), s1, s2, hQ _ _ (res_bool ok hP)⟩
theorem oNe_S : OpS K (r2L (rNeD K)) oNe := by
  intro ts vs G H F P Q ok tr ⟨x, y, e, s1, s2, hP⟩ hQ
  obtain ⟨t, u, rfl, e1, e2⟩ := data2 e
  obtain ⟨v, w, rfl, h1, h2⟩ := trs2 tr
  exact ⟨x, y, (h1.full ok e1).dp (nod_shaped s1), (h2.full ok e2).dp (nod_shaped s2), s1, s2, hQ _ _ (res_bool ok hP)⟩
/-- is None -/
def T.isN : T → Bool
  | .d .none => true
  | _ => false
theorem TR.isN (h : TR K G H t v F) : decide (v = .non) = t.isN := by
  cases h with
  | d h => rename_i x; cases x <;> (first | (rw [DR] at h; subst h; rfl) | (rw [DR] at h; obtain ⟨a, vs, rfl, _⟩ := h; rfl) | (rw [DR] at h; obtain ⟨a, o, ws, rfl, _⟩ := h; rfl))
  | tok h => rfl
  | scr h => rfl
  | nd fs => rfl
def oIsN (neg : Bool) : OpT := fun ts P => match ts with
  | [t, .d .none] => P (.d (.bool (t.isN != neg)))
  | _ => False
theorem oNotN_S : OpS K (r2L (fun x y H Q => y = .non ∧ Q (.bl (!decide (x = .non))) H)) (oIsN true) := by
  intro ts vs G H F P Q ok tr ho hQ
  unfold oIsN at ho
  split at ho
  · obtain ⟨v, w, rfl, h1, h2⟩ := trs2 tr
    have e := h2.dr
    rw [DR] at e
    refine ⟨e, hQ _ _ (res_flat ok ?_ ho)⟩
    rw [h1.isN, Bool.bne_true]
    rfl
  · exact ho.elim

/-! ### lists and tuples -/
def T.kids : T → Option (List T)
  | .d (.list xs) => some (xs.map T.d)
  | .d (.tuple xs) => some (xs.map T.d)
  | .scr _ ns => some (ns.map fun n => T.d (.int n))
  | .nd k cs => if k.isLst = true ∧ leafys cs = true then some cs else none
  | _ => none
def T.isL : T → Bool
  | .d (.list _) => true
  | .scr _ _ => true
  | .nd k _ => k.isLst
  | _ => false
/-- a list that is not the script -/
def T.isS : T → Bool
  | .d (.list _) => true
  | .nd k _ => k.isLst
  | _ => false
theorem isS_l {t : T} (h : t.isS = true) : t.isL = true := by
  unfold T.isS at h
  split at h
  · rfl
  · exact h
  · cases h
theorem drs_trs {ds : List PyData} (h : DRs K G ds vs) : TRs K G H (ds.map T.d) vs Fz := by
  refine ⟨by rw [List.length_map]; exact h.length, fun _ => Fz, fun i t v e1 e2 => ?_, fun _ _ _ z => z.elim, fun _ _ z => z⟩
  rw [List.getElem?_map] at e1
  cases e : ds[i]? with
  | none => rw [e] at e1; cases e1
  | some d =>
    rw [e] at e1
    cases e1
    obtain ⟨w, e3, e4⟩ := h.get' e
    rw [e2] at e3
    cases e3
    exact .d e4
theorem kids_at (tr : TR K G H t v F) (ok : Ok G H F) (e : t.kids = some cs) : ∃ a vs, v = .ref a ∧ ((t.isL = true ∧ SqL K H a vs ∧ (t.isS = true → H a = some (.lst vs))) ∨ (t.isL = false ∧ SqT K H a vs)) ∧ TRs K G H cs vs Fz := by
  cases tr with
  | tok h => cases e
  | @scr a ns F' h =>
    cases e
    refine ⟨a, _, rfl, .inl ⟨rfl, ok.le.l h, fun z => (by cases z)⟩, ⟨by rw [List.length_map, List.length_map], fun _ => Fz, fun i t v e1 e2 => ?_, fun _ _ _ z => z.elim, fun _ _ z => z⟩⟩
    rw [List.getElem?_map] at e1 e2
    cases q : ns[i]? with
    | none => rw [q] at e1; cases e1
    | some n =>
      rw [q] at e1 e2
      cases e1
      cases e2
      exact .d (by rw [DR])
  | d h =>
    rename_i x
    cases x with
    | list xs =>
      cases e
      rw [DR] at h
      obtain ⟨a, vs, rfl, h1, h2⟩ := h
      exact ⟨a, vs, rfl, .inl ⟨rfl, .of (ok.le _ _ h1), fun _ => ok.le _ _ h1⟩, drs_trs h2⟩
    | tuple xs =>
      cases e
      rw [DR] at h
      obtain ⟨a, vs, rfl, h1, h2⟩ := h
      exact ⟨a, vs, rfl, .inr ⟨rfl, .of (ok.le _ _ h1)⟩, drs_trs h2⟩
    | _ => cases e
  | @nd k cs' a vs F fs h1 h2 h3 h4 h5 h6 h7 =>
    have e : (if k.isLst = true ∧ leafys cs' = true then some cs' else none) = some cs := e
    by_cases hl : k.isLst = true ∧ leafys cs' = true
    · rw [if_pos hl] at e
      cases e
      have hh := h1.lst hl.1
      refine ⟨a, vs, rfl, .inl ⟨hl.1, .of hh, fun _ => hh⟩, ⟨h2, fun _ => Fz, fun i t w e1 e2 => (h3 i t w e1 e2).leaf ?_, fun _ _ _ z => z.elim, fun _ _ z => z⟩⟩
      have hl2 := hl.2
      unfold leafys at hl2
      exact List.all_eq_true.mp hl2 t (List.mem_of_getElem? e1)
    · rw [if_neg hl] at e
      cases e
theorem TRs.get {i : Nat} (h : TRs K G H ts vs F) (e : ts[i]? = some t) : ∃ v, vs[i]? = some v ∧ TR K G H t v F := by
  obtain ⟨l, fs, h1, h2, h3⟩ := h
  have hi : i < vs.length := by
    rw [← l]
    exact (List.getElem?_eq_some_iff.mp e).1
  exact ⟨vs[i], List.getElem?_eq_getElem hi, (h1 i t _ e (List.getElem?_eq_getElem hi)).mono (h3 i)⟩
theorem atI_trs {i : Int} (h : TRs K G H ts vs F) (e : atI ts i = some t) : ∃ v, atI vs i = some v ∧ TR K G H t v F := by
  unfold atI at e ⊢
  rw [← h.len]
  cases q : ixN ts.length i with
  | none => rw [q] at e; cases e
  | some j =>
    rw [q] at e
    exact h.get e
/-- either -/
def rIxS (K : PySem.W.Frag) : R2 := fun x y H Q => rIxL K x y H Q ∨ rIxT K x y H Q
theorem ix_seq' {X : Cx} : IxR X (rIxS X.K) := ix_list.or ix_tup
def oIxA : OpT := fun ts P => match ts with
  | [t, .d (.int i)] => ∃ cs x, t.kids = some cs ∧ atI cs i = some x ∧ P x
  | _ => False
theorem oIxA_S : OpS K (r2L (rIxS K)) oIxA := by
  intro ts vs G H F P Q ok tr ho hQ
  unfold oIxA at ho
  split at ho
  · obtain ⟨cs, x, e1, e2, hP⟩ := ho
    obtain ⟨v, w, rfl, h1, h2⟩ := trs2 tr
    obtain ⟨a, vs', rfl, hk, trk⟩ := kids_at h1 ok e1
    obtain ⟨z, e3, h3⟩ := atI_trs trk e2
    rcases hk with hk | hk
    · exact .inl ⟨a, vs', _, z, rfl, h2.int, hk.2.1, e3, hQ _ _ (res_same ok h3 hP)⟩
    · exact .inr ⟨a, vs', _, z, rfl, h2.int, hk.2, e3, hQ _ _ (res_same ok h3 hP)⟩
  · exact ho.elim
def T.size : T → Option Nat
  | .d (.list xs) => some xs.length
  | .d (.tuple xs) => some xs.length
  | .scr _ ns => some ns.length
  | .nd k cs => if k.isLst = true then some cs.length else none
  | _ => none
theorem size_at {n : Nat} (tr : TR K G H t v F) (ok : Ok G H F) (e : t.size = some n) : ∃ a vs, v = .ref a ∧ (SqL K H a vs ∨ SqT K H a vs) ∧ vs.length = n := by
  cases tr with
  | tok h => cases e
  | @scr a ns F' h =>
    cases e
    exact ⟨a, _, rfl, .inl (ok.le.l h), List.length_map _⟩
  | d h =>
    rename_i x
    cases x with
    | list xs =>
      cases e
      rw [DR] at h
      obtain ⟨a, vs, rfl, h1, h2⟩ := h
      exact ⟨a, vs, rfl, .inl (.of (ok.le _ _ h1)), h2.length.symm⟩
    | tuple xs =>
      cases e
      rw [DR] at h
      obtain ⟨a, vs, rfl, h1, h2⟩ := h
      exact ⟨a, vs, rfl, .inr (.of (ok.le _ _ h1)), h2.length.symm⟩
    | _ => cases e
  | @nd k cs' a vs F fs h1 h2 h3 h4 h5 h6 h7 =>
    have e : (if k.isLst = true then some cs'.length else none) = some n := e
    by_cases hk : k.isLst = true
    · rw [if_pos hk] at e
      cases e
      exact ⟨a, vs, rfl, .inl (.of (h1.lst hk)), h2.symm⟩
    · rw [if_neg hk] at e
      cases e
def oLen : OpT := fun ts P => match ts with
  | [t] => ∃ n : Nat, t.size = some n ∧ P (.d (.int n))
  | _ => False
theorem oLen_S : OpS K (fun xs H Q => ∃ p ys, xs = [.ref p] ∧ (SqL K H p ys ∨ SqT K H p ys) ∧ Q (.int ys.length) H) oLen := by
  intro ts vs G H F P Q ok tr ho hQ
  unfold oLen at ho
  split at ho
  · obtain ⟨n, e, hP⟩ := ho
    obtain ⟨v, rfl, h1⟩ := trs1 tr
    obtain ⟨a, vs', rfl, h2, h3⟩ := size_at h1 ok e
    exact ⟨a, vs', rfl, h2, by rw [h3]; exact hQ _ _ (res_int ok hP)⟩
  · exact ho.elim
/-- a new list of leaves -/
theorem res_lst (ok : Ok G H F) (tr : TRs K G H cs vs Fz) {p : Addr} (hp : H p = none) (hP : P (.nd .lst cs)) : Res1 K G H P (.ref p) (upd H p (.lst vs)) := by
  obtain ⟨s, o, h⟩ := new_lst ok.z tr hp
  exact ⟨G, _, _, s, o, h, hP⟩
theorem res_tup {ds : List PyData} (ok : Ok G H F) (tr : DRs K G ds vs) {p : Addr} (hp : H p = none) (hP : P (.d (.tuple ds))) : Res1 K G H P (.ref p) (upd H p (.tup vs)) := by
  obtain ⟨s, o, h⟩ := new_tup ok.z tr hp
  exact ⟨_, _, _, s, o, .d h, hP⟩
theorem trs_drs {ds : List PyData} (h : TRs K G H (ds.map T.d) vs F) : DRs K G ds vs := by
  refine DRs.of (by rw [← h.len, List.length_map]) fun i d v e1 e2 => ?_
  obtain ⟨w, e3, e4⟩ := h.get (i := i) (t := .d d) (by rw [List.getElem?_map, e1]; rfl)
  rw [e2] at e3
  cases e3
  exact e4.dr
/-- tuple(xs): of a list new, of a tuple itself -/
def oTuple : OpT := fun ts P => match ts with
  | [t] => ∃ ds : List PyData, t.kids = some (ds.map T.d) ∧ P (.d (.tuple ds))
  | _ => False
theorem oTuple_S : OpS K (fun xs H Q => ∃ p ys, xs = [.ref p] ∧ ((SqL K H p ys ∧ ∀ l, H l = none → Q (.ref l) (upd H l (.tup ys))) ∨ (SqT K H p ys ∧ Q (.ref p) H))) oTuple := by
  intro ts vs G H F P Q ok tr ho hQ
  unfold oTuple at ho
  split at ho
  · obtain ⟨ds, e, hP⟩ := ho
    obtain ⟨v, rfl, h1⟩ := trs1 tr
    obtain ⟨a, vs', rfl, hk, trk⟩ := kids_at h1 ok e
    have dr := trs_drs trk
    refine ⟨a, vs', rfl, ?_⟩
    rcases hk with hk | hk
    · exact .inl ⟨hk.2.1, fun l hl => hQ _ _ (res_tup ok dr hl hP)⟩
    · refine .inr ⟨hk.2, hQ _ _ (res_same ok ?_ hP)⟩
      -- the tuple itself
      cases h1 with
      | d h =>
        rename_i x
        cases x with
        | tuple xs =>
          have e2 : xs.map T.d = ds.map T.d := Option.some.inj e
          have e3 : xs = ds := by
            refine List.map_inj_right (f := T.d) ?_ |>.mp e2
            intro x y q
            cases q
            rfl
          subst e3
          exact .d h
        | list xs => cases hk.1
        | _ => cases e
      | tok h => cases e
      | scr h => cases hk.1
      | @nd k cs' a' vs'' F' fs g1 g2 g3 g4 g5 g6 g7 =>
        have e : (if k.isLst = true ∧ leafys cs' = true then some cs' else none) = some (ds.map T.d) := e
        have hk1 : k.isLst = false := hk.1
        rw [hk1] at e
        cases e
  · exact ho.elim
theorem TRs.append {us : List T} {ws : List V} (h : TRs K G H ts vs Fz) (h' : TRs K G H us ws Fz) : TRs K G H (ts ++ us) (vs ++ ws) Fz := by
  obtain ⟨l, fs, h1, h2, h3⟩ := h
  obtain ⟨l', fs', h1', h2', h3'⟩ := h'
  refine ⟨by rw [List.length_append, List.length_append, l, l'], fun _ => Fz, fun i t v e1 e2 => ?_, fun _ _ _ z => z.elim, fun _ _ z => z⟩
  by_cases hi : i < ts.length
  · rw [List.getElem?_append_left hi] at e1
    rw [List.getElem?_append_left (by omega)] at e2
    exact (h1 i t v e1 e2).mono fun a q => h3 i a q
  · rw [List.getElem?_append_right (by omega)] at e1
    rw [List.getElem?_append_right (by omega), ← l] at e2
    exact (h1' _ t v e1 e2).mono fun a q => h3' _ a q
/-- list + list -/
def oCat : OpT := fun ts P => match ts with
  | [t, u] => t.isS = true ∧ u.isS = true ∧ ∃ cs es, t.kids = some cs ∧ u.kids = some es ∧ cs.length + es.length ≤ sizeLine ∧ P (.nd .lst (cs ++ es))
  | _ => False
theorem oCat_S : OpS K (r2L rCat) oCat := by
  intro ts vs G H F P Q ok tr ho hQ
  unfold oCat at ho
  split at ho
  · obtain ⟨l1, l2, cs, es, e1, e2, hz, hP⟩ := ho
    obtain ⟨v, w, rfl, h1, h2⟩ := trs2 tr
    obtain ⟨a, vs', rfl, hk, trk⟩ := kids_at h1 ok e1
    obtain ⟨b, ws', rfl, hk2, trk2⟩ := kids_at h2 ok e2
    rw [isS_l l1] at hk
    rw [isS_l l2] at hk2
    rcases hk with hk | hk
    · rcases hk2 with hk2 | hk2
      · exact ⟨a, b, vs', ws', rfl, rfl, hk.2.2 l1, hk2.2.2 l2, by rw [← trk.len, ← trk2.len]; exact hz, fun p hp => hQ _ _ (res_lst ok (trk.append trk2) hp hP)⟩
      · cases hk2.1
    · cases hk.1
  · exact ho.elim
theorem TRs.rep (h : TRs K G H ts vs Fz) : ∀ n : Nat, TRs K G H (List.replicate n ts).flatten (List.replicate n vs).flatten Fz
  | 0 => .nil
  | n + 1 => by
    rw [List.replicate_succ, List.replicate_succ, List.flatten_cons, List.flatten_cons]
    exact h.append (TRs.rep h n)
/-- list * int -/
def oRep : OpT := fun ts P => match ts with
  | [t, .d (.int k)] => t.isS = true ∧ ∃ cs, t.kids = some cs ∧ -(2 ^ 63) ≤ k ∧ k < 2 ^ 63 ∧ cs.length * k.toNat ≤ sizeLine ∧ P (.nd .lst (List.replicate k.toNat cs).flatten)
  | _ => False
theorem oRep_S : OpS K (r2L rRep) oRep := by
  intro ts vs G H F P Q ok tr ho hQ
  unfold oRep at ho
  split at ho
  · obtain ⟨l1, cs, e1, k1, k2, hz, hP⟩ := ho
    obtain ⟨v, w, rfl, h1, h2⟩ := trs2 tr
    obtain ⟨a, vs', rfl, hk, trk⟩ := kids_at h1 ok e1
    rw [isS_l l1] at hk
    rcases hk with hk | hk
    · exact ⟨a, _, vs', rfl, h2.int, hk.2.2 l1, k1, k2, by rw [← trk.len]; exact hz, fun p hp => hQ _ _ (res_lst ok (trk.rep _) hp hP)⟩
    · cases hk.1
  · exact ho.elim
/-- tuple + tuple -/
def oCatT : OpT := fun ts P => match ts with
  | [.d (.tuple xs), .d (.tuple ys)] => xs.length + ys.length ≤ sizeLine ∧ P (.d (.tuple (xs ++ ys)))
  | _ => False
theorem oCatT_S : OpS K (r2L (rCatA K)) oCatT := by
  intro ts vs G H F P Q ok tr ho hQ
  unfold oCatT at ho
  split at ho
  · rename_i xs ys
    obtain ⟨hz, hP⟩ := ho
    obtain ⟨v, w, rfl, h1, h2⟩ := trs2 tr
    have d1 := h1.dr
    have d2 := h2.dr
    have t1 := h1.dr
    have t2 := h2.dr
    rw [DR] at d1 d2
    obtain ⟨a, vs, rfl, s1, r1⟩ := d1
    obtain ⟨b, ws, rfl, s2, r2⟩ := d2
    refine ⟨a, b, vs, ws, rfl, rfl, .of (ok.le _ _ s1), .of (ok.le _ _ s2), by rw [← r1.length, ← r2.length]; exact hz, fun e => ?_, fun _ e => ?_, fun _ _ p hp => hQ _ _ (res_tup ok (r1.append r2) hp hP)⟩
    · subst e
      have : xs = [] := List.length_eq_zero_iff.mp r1.length
      subst this
      exact hQ _ _ (res_same ok (.d t2) hP)
    · subst e
      have : ys = [] := List.length_eq_zero_iff.mp r2.length
      subst this
      rw [List.append_nil] at hP
      exact hQ _ _ (res_same ok (.d t1) hP)
  · exact ho.elim
end
end FA
set_option Elab.async false
set_option linter.all false
set_option maxRecDepth 100000
namespace FA
open PySem PySem.Spec PyProof.Rows L2

/-! ### statements -/
structure Kt where
  nx : Env → Prop
  rt : T → Env → Prop
  bk : Env → Prop := fun _ => False
  ct : Env → Prop := fun _ => False
abbrev MS := Env → EXk → Kt → Prop
section
variable (c : Cw)
def XWS (EX : EXk) (G H : Hp) (F : Fp) : Prop := ∀ σ, XW c EX G H F σ
def ResS (G H : Hp) (F : Fp) (P : Env → Prop) (σ' : L2.St) (H' : Hp) : Prop := ∃ G' F' ρ', Step G H F G' H' F' ∧ Ok G' H' F' ∧ EnvR c.K G' H' σ' ρ' F' ∧ P ρ'
def ResR (G H : Hp) (F : Fp) (P : T → Env → Prop) (v : V) (H' : Hp) : Prop := ∃ G' Fv F' t ρ' σ', Step G H F G' H' (Fu Fv F') ∧ Ok G' H' (Fu Fv F') ∧ Dj Fv F' ∧ EnvR c.K G' H' σ' ρ' F' ∧ TR c.K G' H' t v Fv ∧ P t ρ'
structure KD (G H : Hp) (F : Fp) (κ : Kt) (D : Ends) : Prop where
  nx : ∀ σ' H', ResS c G H F κ.nx σ' H' → D.nx σ' H'
  rt : ∀ v H', ResR c G H F κ.rt v H' → D.rt v H'
  bk : ∀ σ' H', ResS c G H F κ.bk σ' H' → D.bk σ' H'
  ct : ∀ σ' H', ResS c G H F κ.ct σ' H' → D.ct σ' H'
def tS (m : MS) : TS := fun D σ H => ∃ G F ρ κ EX, Ok G H F ∧ EnvR c.K G H σ ρ F ∧ XWS c EX G H F ∧ m ρ EX κ ∧ KD c G H F κ D
end
theorem PS_imp {X : Cx} {e : Stmt} {t t' : TS} (h : PS X e t) (i : ∀ D σ H, t' D σ H → t D σ H) : PS X e t' := ⟨fun pins s σ H D I q => h.run pins s σ H D I (i D σ H q)⟩
theorem PSs_imp {X : Cx} {e : List Stmt} {t t' : TS} (h : PSs X e t) (i : ∀ D σ H, t' D σ H → t D σ H) : PSs X e t' := ⟨fun pins s σ H D I q => h.run pins s σ H D I (i D σ H q)⟩
abbrev SJ (X : Cx) (W : WX) (s : Stmt) (m : MS) : Prop := PS X s (tS (cw X W) m)
abbrev SJs (X : Cx) (W : WX) (s : List Stmt) (m : MS) : Prop := PSs X s (tS (cw X W) m)
section
variable {c : Cw} {G H G' H' G2 H2 : Hp} {F F' F2 A B : Fp} {t : T} {v : V} {ts : List T} {vs : List V} {σ : L2.St} {ρ : Env} {i : Nat} {EX : EXk} {κ : Kt} {D : Ends} {P : Env → Prop} {R : T → Env → Prop}
theorem XWS.step (x : XWS c EX G H F) (s : Step G H F G' H' F') : XWS c EX G' H' F' := fun σ => (x σ).step s
theorem ResS.more {σ' : L2.St} {H2 : Hp} (s : Step G H F G' H' F') (r : ResS c G' H' F' P σ' H2) : ResS c G H F P σ' H2 := by
  obtain ⟨G2, F2, ρ, s2, r⟩ := r
  exact ⟨G2, F2, ρ, s.trans s2, r⟩
theorem ResR.more {v : V} {H2 : Hp} (s : Step G H F G' H' F') (r : ResR c G' H' F' R v H2) : ResR c G H F R v H2 := by
  obtain ⟨G2, Fv, F2, t, ρ2, σ2, s2, r⟩ := r
  exact ⟨G2, Fv, F2, t, ρ2, σ2, s.trans s2, r⟩
theorem KD.step (k : KD c G H F κ D) (s : Step G H F G' H' F') : KD c G' H' F' κ D :=
  ⟨fun σ' H' r => k.nx σ' H' (r.more s), fun v H' r => k.rt v H' (r.more s), fun σ' H' r => k.bk σ' H' (r.more s), fun σ' H' r => k.ct σ' H' (r.more s)⟩
/-- go on with a statement -/
theorem tS_go {m : MS} (ok : Ok G H F) (en : EnvR c.K G H σ ρ F) (xw : XWS c EX G H F) (hm : m ρ EX κ) (k : KD c G H F κ D) : tS c m D σ H := ⟨G, F, ρ, κ, EX, ok, en, xw, hm, k⟩
end
def mNext : MS := fun ρ _ κ => κ.nx ρ
def mSeq (a b : MS) : MS := fun ρ EX κ => a ρ EX { κ with nx := fun ρ' => b ρ' EX κ }
def mDrop (m : ME) : MS := fun ρ EX κ => m ρ EX fun _ ρ' => κ.nx ρ'
def mRet (m : ME) : MS := fun ρ EX κ => m ρ EX κ.rt
def mRetN : MS := fun ρ _ κ => κ.rt (.d .none) ρ
def mIfS (c : MT) (a b : MS) : MS := fun ρ EX κ => c ρ EX fun x ρ' => if x = true then a ρ' EX κ else b ρ' EX κ
/-- names that are not read again -/
def mKill : List Nat → MS → MS
  | is, m => fun ρ EX κ => m (is.foldl (fun ρ i => ρ.set i none) ρ) EX κ
section
variable {X : Cx} {W : WX} {e a b : Expr} {m ma mb : ME} {s : Stmt} {rest : List Stmt} {m1 m2 : MS} {pos : Pos} {i : Nat} {x : Str}
theorem sj_nil : SJs X W [] mNext := PSs_imp pss_nil fun D σ H ⟨G, F, ρ, κ, EX, ok, en, xw, hm, k⟩ => k.nx σ H ⟨G, F, ρ, .refl, ok, en, hm⟩
theorem tS_seq {c : Cw} {D : Ends} {σ : L2.St} {H : Hp} (h : tS c (mSeq m1 m2) D σ H) : tSeq (tS c m1) (tS c m2) D σ H := by
  obtain ⟨G, F, ρ, κ, EX, ok, en, xw, hm, k⟩ := h
  exact ⟨G, F, ρ, _, EX, ok, en, xw, hm, ⟨fun σ' H' ⟨G', F', ρ', s, ok', en', hP⟩ => ⟨G', F', ρ', κ, EX, ok', en', xw.step s, hP, k.step s⟩, k.rt, k.bk, k.ct⟩⟩
theorem sj_cons (h1 : SJ X W s m1) (h2 : SJs X W rest m2) : SJs X W (s :: rest) (mSeq m1 m2) := PSs_imp (pss_cons h1 h2) fun _ _ _ h => tS_seq h
theorem EnvR_kills {K : PySem.W.Frag} {G H : Hp} {σ : L2.St} {F : Fp} : ∀ {is : List Nat} {ρ : Env}, EnvR K G H σ ρ F → EnvR K G H σ (is.foldl (fun ρ i => ρ.set i none) ρ) F
  | [], _, e => e
  | i :: is, ρ, e => EnvR_kills (is := is) e.kill
theorem sj_kill {sts : List Stmt} (is : List Nat) (h : SJs X W sts m1) : SJs X W sts (mKill is m1) := PSs_imp h fun D σ H ⟨G, F, ρ, κ, EX, ok, en, xw, hm, k⟩ => ⟨G, F, _, κ, EX, ok, EnvR_kills en, xw, hm, k⟩
theorem sj_expr (h : EJ X W e m) (hs : swapsWith e none pos.line X.env = pure false := by rfl) : SJ X W (.Expr e pos) (mDrop m) := by
  refine PS_imp (ps_expr h hs) fun D σ H ⟨G, F, ρ, κ, EX, ok, en, xw, hm, k⟩ => ?_
  exact ⟨G, F, ρ, _, EX, ok, en, xw σ, hm, fun v H' ⟨G', F', Fv, t, ρ', s, ok', dj, en', tr, hP⟩ => k.nx σ H' ⟨G', F', ρ', s.less fun a q => .inr q, ok'.less fun a q => .inr q, en', hP⟩⟩
theorem sj_ret (h : EJ X W e m) : SJ X W (.Return (some e) pos) (mRet m) := by
  refine PS_imp (ps_ret h) fun D σ H ⟨G, F, ρ, κ, EX, ok, en, xw, hm, k⟩ => ?_
  exact ⟨G, F, ρ, _, EX, ok, en, xw σ, hm, fun v H' ⟨G', F', Fv, t, ρ', s, ok', dj, en', tr, hP⟩ => k.rt v H' ⟨G', Fv, F', t, ρ', σ, s, ok', dj, en', tr, hP⟩⟩
theorem sj_if {t1 : MT} {sa sb : List Stmt} {c : Expr} (hc : ET X W c t1) (ha : SJs X W sa m1) (hb : SJs X W sb m2) : SJ X W (.If c sa sb pos) (mIfS t1 m1 m2) := by
  refine PS_imp (ps_if hc ha hb) fun D σ H ⟨G, F, ρ, κ, EX, ok, en, xw, hm, k⟩ => ?_
  refine ⟨G, F, ρ, _, EX, ok, en, xw σ, hm, fun x H' ⟨G', F', ρ', s, ok', en', hP⟩ => ?_⟩
  cases x with
  | true =>
    rw [if_pos rfl] at hP ⊢
    exact tS_go ok' en' (xw.step s) hP (k.step s)
  | false =>
    rw [if_neg Bool.false_ne_true] at hP ⊢
    exact tS_go ok' en' (xw.step s) hP (k.step s)
end

/-! ### targets -/
inductive Tg where
  | n (i : Nat)
  | t (ts : List Tg)
mutual
def tgA : Tg → T → Env → (Env → Prop) → Prop
  | .n i, t, ρ, P => P (ρ.set i (some t))
  | .t gs, t, ρ, P => ∃ cs, t.kids = some cs ∧ t.isL = false ∧ cs.length = gs.length ∧ tgAs gs cs ρ P
def tgAs : List Tg → List T → Env → (Env → Prop) → Prop
  | [], cs, ρ, P => cs = [] ∧ P ρ
  | g :: gs, cs, ρ, P => ∃ x xs, cs = x :: xs ∧ tgA g x ρ fun ρ' => tgAs gs xs ρ' P
end
mutual
def tgS : Tg → List Nat
  | .n i => [i]
  | .t gs => tgSs gs
def tgSs : List Tg → List Nat
  | [] => []
  | g :: gs => tgS g ++ tgSs gs
end
/-- the slots but these are as they were -/
def Sam (vs : List Nat) (σ σ' : L2.St) : Prop := σ'.length = σ.length ∧ ∀ j, j ∉ vs → σ'[j]? = σ[j]?
section
variable (c : Cw)
def tTg (g : Tg) : TG := fun v σ H Q => ∃ G F ρ t Fv P, Ok G H (Fu Fv F) ∧ Dj Fv F ∧ EnvR c.K G H σ ρ F ∧ TR c.K G H t v Fv ∧ tgA g t ρ P ∧ ∀ σ' ρ' F', (∀ a, F' a → Fv a ∨ F a) → Sam (tgS g) σ σ' → EnvR c.K G H σ' ρ' F' → P ρ' → Q σ' H
def tTgs (gs : List Tg) : TGs := fun vs σ H Q => ∃ G F ρ ts P, Ok G H F ∧ EnvR c.K G H σ ρ F ∧ TRs c.K G H ts vs Fz ∧ tgAs gs ts ρ P ∧ ∀ σ' ρ' F', (∀ a, F' a → F a) → Sam (tgSs gs) σ σ' → EnvR c.K G H σ' ρ' F' → P ρ' → Q σ' H
end
abbrev GJ (X : Cx) (e : Expr) (g : Tg) : Prop := ∀ W, PG X e (tTg (cw X W) g)
abbrev GJs (X : Cx) (es : List Expr) (gs : List Tg) : Prop := ∀ W, PGs X es (tTgs (cw X W) gs)
theorem PG_imp {X : Cx} {e : Expr} {t t' : TG} (h : PG X e t) (i : ∀ v σ H Q, t' v σ H Q → t v σ H Q) : PG X e t' := ⟨fun pins s σ H v u Q I r q => h.run pins s σ H v u Q I r (i v σ H Q q)⟩
theorem PGs_imp {X : Cx} {e : List Expr} {t t' : TGs} (h : PGs X e t) (i : ∀ v σ H Q, t' v σ H Q → t v σ H Q) : PGs X e t' := ⟨fun pins s σ H v u Q I r q => h.run pins s σ H v u Q I r (i v σ H Q q)⟩
section
variable {X : Cx} {W : WX} {e : Expr} {es : List Expr} {g : Tg} {gs : List Tg} {pos : Pos} {x : Str}
theorem gj_n (i : Nat) (hN : X.N.Nodup) (hi : X.N[i]? = some x := by rfl) (hx : Loc X.env.scope x := by first | exact Or.inl rfl | exact Or.inr rfl) (hf : X.fn x = true ∨ X.env.scope.names.lookup x = some .local := by first | exact .inl rfl | exact .inr rfl) : GJ X (.Name x pos) (.n i) := fun W => by
  refine PG_imp (pg_name hN hi hx hf) fun v σ H Q ⟨G, F, ρ, t, Fv, P, ok, dj, en, tr, hP, hQ⟩ => ?_
  exact hQ _ _ _ (fun a q => q) ⟨List.length_set, fun j hj => List.getElem?_set_ne (fun z => hj (by rw [z]; exact List.mem_singleton.mpr rfl))⟩ (en.store tr dj) hP
theorem gjs_nil : GJs X [] [] := fun W => PGs_imp pgs_nil fun v σ H Q ⟨G, F, ρ, ts, P, ok, en, tr, hP, hQ⟩ => by
  obtain ⟨e, hP⟩ := hP
  subst e
  exact ⟨tr.nil_inv, hQ σ ρ F (fun a q => q) ⟨rfl, fun _ _ => rfl⟩ en hP⟩
theorem gjs_cons (h1 : GJ X e g) (h2 : GJs X es gs) (hs : (assignEach (e :: es) X.env).map (·.2) = assign e X.env :: (assignEach es X.env).map (·.2) := by rfl) : GJs X (e :: es) (g :: gs) := fun W => by
  refine PGs_imp (pgs_cons (h1 W) (h2 W) hs) fun vs σ H Q ⟨G, F, ρ, ts, P, ok, en, tr, hP, hQ⟩ => ?_
  obtain ⟨y, ys, e1, hP⟩ := hP
  subst e1
  obtain ⟨v, r, A, B, rfl, t1, t2, d, sA, sB⟩ := tr.uncons
  refine ⟨v, r, rfl, G, F, ρ, y, Fz, _, ok.less fun a q => q.elim (fun z => z.elim) id, fun a q => q.elim, en, t1.mono sA, hP, fun σ1 ρ1 F1 s1 sm1 en1 hP1 => ?_⟩
  have s1' : ∀ a, F1 a → F a := fun a q => (s1 a q).elim (fun z => z.elim) id
  obtain ⟨l, fs, q1, q2, q3⟩ := t2
  exact ⟨G, F1, ρ1, ys, P, ok.less s1', en1, ⟨l, fs, q1, q2, fun i x q => sB x (q3 i x q)⟩, hP1, fun σ' ρ' F' s' sm' en' hP' => hQ σ' ρ' F' (fun a q => s1' a (s' a q)) ⟨sm'.1.trans sm1.1, fun j hj => (sm'.2 j fun z => hj (List.mem_append_right _ z)).trans (sm1.2 j fun z => hj (List.mem_append_left _ z))⟩ en' hP'⟩
theorem gj_t {k : Nat} (hc : X.calm = true) (h : GJs X es gs) (hn : (assignEach es X.env).length = gs.length := by rfl) (hst : (assignEach es X.env).findIdx? (·.1) = none := by rfl) : GJ X (.Tuple es k pos) (.t gs) := fun W => by
  refine PG_imp (pg_tup hc (h W) hn hst) fun v σ H Q ⟨G, F, ρ, t, Fv, P, ok, dj, en, tr, hP, hQ⟩ => ?_
  obtain ⟨cs, ek, el, elen, hP⟩ := hP
  obtain ⟨a, vs, rfl, hk, trk⟩ := kids_at tr (ok.less fun a q => .inl q) ek
  rcases hk with hk | hk
  · rw [el] at hk
    cases hk.1
  · refine ⟨a, vs, rfl, hk.2, trk.len.symm.trans elen, G, F, ρ, cs, P, ok.less fun a q => .inr q, en, trk, hP, fun σ' ρ' F' s' sm' en' hP' => hQ σ' ρ' F' (fun a q => .inr (s' a q)) sm' en' hP'⟩
end

/-! ### assignments -/
def mSet (i : Nat) (m : ME) : MS := fun ρ EX κ => m ρ EX fun t ρ' => κ.nx (ρ'.set i (some t))
section
variable {X : Cx} {W : WX} {e a b : Expr} {m : ME} {pos pos' : Pos} {x : Str} {g : Tg}
theorem tS_set {i : Nat} {D : Ends} {σ : L2.St} {H : Hp} {c : Cw} (h : tS c (mSet i m) D σ H) : tAsg (tG c m) (gName i) D σ H := by
  obtain ⟨G, F, ρ, κ, EX, ok, en, xw, hm, k⟩ := h
  exact ⟨G, F, ρ, _, EX, ok, en, xw σ, hm, fun v H' ⟨G', F', Fv, t, ρ', s, ok', dj, en', tr, hP⟩ => k.nx _ H' ⟨G', Fu Fv F', _, s, ok', en'.store tr dj, hP⟩⟩
theorem sj_set (i : Nat) (h : EJ X W e m) (hN : X.N.Nodup) (hi : X.N[i]? = some x := by rfl) (hx : Loc X.env.scope x := by first | exact Or.inl rfl | exact Or.inr rfl) (hs : swapsWith e (some (.Name x pos')) pos.line X.env = pure false := by rfl)
    (hf : X.fn x = true ∨ X.env.scope.names.lookup x = some .local := by first | exact .inl rfl | exact .inr rfl) : SJ X W (.Assign [.Name x pos'] e pos) (mSet i m) := PS_imp (ps_set hN hi hx h hs hf) fun D σ H h => tS_set h
end

/-- frozen as it is stored -/
def mFz (m : ME) : ME := fun ρ EX P => m ρ EX fun t ρ' => ∃ u, t.fz = some u ∧ P u ρ'
theorem ej_fz {X : Cx} {W : WX} {e : Expr} {m : ME} (h : EJ X W e m) : EJ X W e (mFz m) := by
  refine PE_imp h fun σ H Q ⟨G, F, ρ, P, EX, ok, en, xw, hm, hQ⟩ => ?_
  refine ⟨G, F, ρ, _, EX, ok, en, xw, hm, fun v H' ⟨G', F', Fv, t, ρ', s, ok', dj, en', tr, u, eu, hP⟩ => ?_⟩
  have okv : Ok G' H' Fv := ok'.less fun a q => .inl q
  obtain ⟨s2, ok2⟩ := GF.step ok' dj
  exact hQ v H' ⟨GF G' H' Fv, F', Fz, u, ρ', (s.trans s2).less fun a q => q.elim (fun z => z.elim) id, ok2.less fun a q => q.elim (fun z => z.elim) id, fun a q => q.elim, en'.stay (GF.le okv) fun a o _ q => q, tr.fz okv eu, hP⟩
/-! ### what a loop walks -/
/-- the items as trees, whatever steps are taken -/
def Walks (K : PySem.W.Frag) (J : It) (cs : List T) (G H : Hp) (F : Fp) : Prop := ∀ G' H' F', Step G H F G' H' F' → Ok G' H' F' →
  (∀ (i : Nat) t, cs[i]? = some t → J.go i H' ∧ ∀ x H'', J.yld i H' x H'' → ∃ G'', Step G' H' F' G'' H'' F' ∧ Ok G'' H'' F' ∧ Le H' H'' ∧ TR K G'' H'' t x Fz) ∧ J.stop cs.length H'
abbrev MI := Env → EXk → (List T → Env → Prop) → Prop
section
variable (c : Cw)
def tI (m : MI) : TI := fun σ H R => ∃ G F ρ P EX, Ok G H F ∧ EnvR c.K G H σ ρ F ∧ XW c EX G H F σ ∧ m ρ EX P ∧
  ∀ J H' G' F' cs ρ', Step G H F G' H' F' → Ok G' H' F' → EnvR c.K G' H' σ ρ' F' → Walks c.K J cs G' H' F' → P cs ρ' → R J H'
end
abbrev IJ (X : Cx) (W : WX) (tg e : Expr) (m : MI) : Prop := PI X tg e (tI (cw X W) m)
theorem PI_imp {X : Cx} {tg e : Expr} {t t' : TI} (h : PI X tg e t) (i : ∀ σ H Q, t' σ H Q → t σ H Q) : PI X tg e t' := ⟨fun pins s σ H R I q => h.run pins s σ H R I (i σ H R q)⟩
section
variable {K : PySem.W.Frag} {G H G' H' : Hp} {F F' : Fp} {cs : List T} {vs : List V} {a : Addr}
/-- a list that stands whatever is done -/
def Stab (K : PySem.W.Frag) (a : Addr) (vs : List V) (G H : Hp) (F : Fp) : Prop := ∀ G' H' F', Step G H F G' H' F' → Ok G' H' F' → SqL K H' a vs
theorem walks_l (tr : TRs K G H cs vs Fz) (st : Stab K a vs G H F) : Walks K (Itl K a) cs G H F := fun G' H' F' s ok' => by
  have e : SqL K H' a vs := st G' H' F' s ok'
  have trs := tr.stay (H' := H') s.le fun a o z => z.elim
  refine ⟨fun i t et => ?_, ⟨vs, e, by rw [tr.len]; exact Nat.le_refl _⟩⟩
  obtain ⟨v, ev, tv⟩ := trs.get et
  refine ⟨⟨vs, v, e, ev⟩, fun x H'' y => ?_⟩
  obtain ⟨rfl, f⟩ := y
  have ex : x = v := Option.some.inj ((f vs e).symm.trans ev)
  subst ex
  exact ⟨G', .refl, ok', .refl _, tv⟩
theorem walks_t (tr : TRs K G H cs vs Fz) (h : SqT K G a vs) (ok : Ok G H F) : Walks K (Itt K a) cs G H F := fun G' H' F' s ok' => by
  have e : SqT K H' a vs := Le.t ok'.le (Le.t s.le h)
  have trs := tr.stay (H' := H') s.le fun a o z => z.elim
  refine ⟨fun i t et => ?_, ⟨vs, e, by rw [tr.len]; exact Nat.le_refl _⟩⟩
  obtain ⟨v, ev, tv⟩ := trs.get et
  refine ⟨⟨vs, v, e, ev⟩, fun x H'' y => ?_⟩
  obtain ⟨rfl, f⟩ := y
  have ex : x = v := Option.some.inj ((f vs e).symm.trans ev)
  subst ex
  exact ⟨G', .refl, ok', .refl _, tv⟩
def rngT (lo : Int) (n : Nat) : List T := (List.range n).map fun (k : Nat) => T.d (.int (lo + k))
theorem walks_r (lo : Int) (n : Nat) : Walks K (Itr lo n) (rngT lo n) G H F := fun G' H' F' s ok' => by
  have hl : (rngT lo n).length = n := by unfold rngT; rw [List.length_map, List.length_range]
  refine ⟨fun i t et => ?_, by rw [hl]; exact Nat.le_refl _⟩
  unfold rngT at et
  rw [List.getElem?_map] at et
  cases q : (List.range n)[i]? with
  | none => rw [q] at et; cases et
  | some k =>
    rw [q] at et
    cases et
    have hk := List.getElem?_eq_some_iff.mp q
    obtain ⟨hi, hk⟩ := hk
    rw [List.length_range] at hi
    rw [List.getElem_range] at hk
    subst hk
    refine ⟨hi, fun x H'' y => ?_⟩
    obtain ⟨rfl, rfl⟩ := y
    exact ⟨G', .refl, ok', .refl _, .d (by rw [DR])⟩
/-- pairs with the place -/
def enT (k : Nat) : List PyData → List T
  | [] => []
  | x :: xs => .d (.tuple [.int k, x]) :: enT (k + 1) xs
theorem enT_length : ∀ (xs : List PyData) (k : Nat), (enT k xs).length = xs.length
  | [], _ => rfl
  | x :: xs, k => by rw [enT, List.length_cons, List.length_cons, enT_length xs]
theorem enT_get : ∀ (xs : List PyData) (k i : Nat) (t : T), (enT k xs)[i]? = some t → ∃ x, xs[i]? = some x ∧ t = .d (.tuple [.int ((k + i : Nat) : Int), x])
  | [], _, _, _, h => by cases h
  | x :: xs, k, 0, t, h => by
    cases h
    exact ⟨x, rfl, rfl⟩
  | x :: xs, k, i + 1, t, h => by
    obtain ⟨y, e1, e2⟩ := enT_get xs (k + 1) i t h
    exact ⟨y, e1, by rw [e2, Nat.add_right_comm, Nat.add_assoc]⟩
theorem walks_e {ds : List PyData} (tr : DRs K G ds vs) (st : Stab K a vs G H F) : Walks K (Ite K a) (enT 0 ds) G H F := fun G' H' F' s ok' => by
  have e : SqL K H' a vs := st G' H' F' s ok'
  have trs := tr.le s.le
  refine ⟨fun i t et => ?_, ⟨vs, e, by rw [enT_length, tr.length]; exact Nat.le_refl _⟩⟩
  obtain ⟨d, ed, rfl⟩ := enT_get ds 0 i t et
  obtain ⟨v, ev, dv⟩ := trs.get' ed
  refine ⟨⟨vs, v, e, ev⟩, fun x H'' y => ?_⟩
  obtain ⟨T, z, rfl, hT, rfl, f⟩ := y
  have ex : z = v := Option.some.inj ((f vs e).symm.trans ev)
  subst ex
  obtain ⟨s2, ok2, dt⟩ := new_tup (K := K) (ds := [.int (i : Int), d]) (vs := [.int (i : Int), z]) ok' (by
    rw [DRs]
    refine ⟨_, _, rfl, by rw [DR], ?_⟩
    rw [DRs]
    exact ⟨_, _, rfl, dv, by rw [DRs]⟩) hT
  refine ⟨_, s2, ok2, (fun a u e => by
    rw [upd_ne (ne_of_none e hT)]
    exact e), .d ?_⟩
  rw [Nat.zero_add]
  exact dt
def zpT : List PyData → List PyData → List T
  | x :: xs, y :: ys => .d (.tuple [x, y]) :: zpT xs ys
  | _, _ => []
theorem zpT_get : ∀ (xs ys : List PyData) (i : Nat) (t : T), (zpT xs ys)[i]? = some t → ∃ x y, xs[i]? = some x ∧ ys[i]? = some y ∧ t = .d (.tuple [x, y])
  | [], _, _, _, h => by cases h
  | _ :: _, [], _, _, h => by cases h
  | x :: xs, y :: ys, 0, t, h => by
    cases h
    exact ⟨x, y, rfl, rfl, rfl⟩
  | x :: xs, y :: ys, i + 1, t, h => zpT_get xs ys i t h
theorem zpT_length : ∀ xs ys : List PyData, (zpT xs ys).length = min xs.length ys.length
  | [], _ => by simp [zpT]
  | _ :: _, [] => by simp [zpT]
  | x :: xs, y :: ys => by
    rw [zpT, List.length_cons, List.length_cons, List.length_cons, zpT_length xs ys]
    omega
theorem pair_ok {d1 d2 : PyData} {x y : V} {T : Addr} (ok : Ok G H F) (h1 : DR K G d1 x) (h2 : DR K G d2 y) (hT : H T = none) : ∃ G'', Step G H F G'' (upd H T (.tup [x, y])) F ∧ Ok G'' (upd H T (.tup [x, y])) F ∧ Le H (upd H T (.tup [x, y])) ∧ TR K G'' (upd H T (.tup [x, y])) (.d (.tuple [d1, d2])) (.ref T) Fz := by
  obtain ⟨s2, ok2, dt⟩ := new_tup (K := K) (ds := [d1, d2]) (vs := [x, y]) ok (by
    rw [DRs]
    refine ⟨_, _, rfl, h1, ?_⟩
    rw [DRs]
    exact ⟨_, _, rfl, h2, by rw [DRs]⟩) hT
  exact ⟨_, s2, ok2, (fun a u e => by
    rw [upd_ne (ne_of_none e hT)]
    exact e), .d dt⟩
theorem walks_z {ds es : List PyData} {ws : List V} {b : Addr} (tr : DRs K G ds vs) (tr2 : DRs K G es ws) (st : Stab K a vs G H F) (st2 : Stab K b ws G H F) : Walks K (Itz K a b) (zpT ds es) G H F := fun G' H' F' s ok' => by
  have e : SqL K H' a vs := st G' H' F' s ok'
  have e2 : SqL K H' b ws := st2 G' H' F' s ok'
  have trs := tr.le s.le
  have trs2 := tr2.le s.le
  refine ⟨fun i t et => ?_, ⟨vs, ws, e, e2, by rw [zpT_length, tr.length, tr2.length]; omega⟩⟩
  obtain ⟨d, d2, ed, ed2, rfl⟩ := zpT_get ds es i t et
  obtain ⟨v, ev, dv⟩ := trs.get' ed
  obtain ⟨v2, ev2, dv2⟩ := trs2.get' ed2
  refine ⟨⟨vs, ws, v, v2, e, e2, ev, ev2⟩, fun x H'' y => ?_⟩
  obtain ⟨T, z, z2, rfl, hT, rfl, f, f2⟩ := y
  have ex : z = v := Option.some.inj ((f vs e).symm.trans ev)
  have ex2 : z2 = v2 := Option.some.inj ((f2 ws e2).symm.trans ev2)
  subst ex ex2
  exact pair_ok ok' dv dv2 hT
theorem walks_zt {ds es : List PyData} {ws : List V} {b : Addr} (ok : Ok G H F) (tr : DRs K G ds vs) (tr2 : DRs K G es ws) (h : SqT K G a vs) (h2 : SqT K G b ws) : Walks K (RZ.ItzT K a b) (zpT ds es) G H F := fun G' H' F' s ok' => by
  have e : SqT K H' a vs := Le.t ok'.le (Le.t s.le h)
  have e2 : SqT K H' b ws := Le.t ok'.le (Le.t s.le h2)
  have trs := tr.le s.le
  have trs2 := tr2.le s.le
  refine ⟨fun i t et => ?_, ⟨vs, ws, e, e2, by rw [zpT_length, tr.length, tr2.length]; omega⟩⟩
  obtain ⟨d, d2, ed, ed2, rfl⟩ := zpT_get ds es i t et
  obtain ⟨v, ev, dv⟩ := trs.get' ed
  obtain ⟨v2, ev2, dv2⟩ := trs2.get' ed2
  refine ⟨⟨vs, ws, v, v2, e, e2, ev, ev2⟩, fun x H'' y => ?_⟩
  obtain ⟨T, z, z2, rfl, hT, rfl, f, f2⟩ := y
  have ex : z = v := Option.some.inj ((f vs e).symm.trans ev)
  have ex2 : z2 = v2 := Option.some.inj ((f2 ws e2).symm.trans ev2)
  subst ex ex2
  exact pair_ok ok' dv dv2 hT
end
end FA
set_option Elab.async false
set_option linter.all false
set_option maxRecDepth 100000
namespace FA
open PySem PySem.Spec PyProof.Rows L2

/-! ### sources of loops -/
def miR1 (o : Opd) : MI := fun ρ EX P => mA [o] ρ EX fun ts ρ' => ∃ j, ts = [.d (.int j)] ∧ -(2 ^ 62) ≤ j ∧ j < 2 ^ 62 ∧ P (rngT 0 j.toNat) (back [o] ts ρ')
def miR2 (o1 o2 : Opd) : MI := fun ρ EX P => mA [o1, o2] ρ EX fun ts ρ' => ∃ i j, ts = [.d (.int i), .d (.int j)] ∧ (-(2 ^ 62) ≤ i ∧ i < 2 ^ 62 ∧ -(2 ^ 62) ≤ j ∧ j < 2 ^ 62) ∧ P (rngT i (j - i).toNat) (back [o1, o2] ts ρ')
def miE (m : ME) : MI := fun ρ EX P => mA [.e m] ρ EX fun ts ρ' => ∃ t ds, ts = [t] ∧ t.isL = true ∧ t.kids = some (ds.map T.d) ∧ P (enT 0 ds) ρ'
def miZ (m1 m2 : ME) : MI := fun ρ EX P => mA [.e m1, .e m2] ρ EX fun ts ρ' => ∃ t u ds es, ts = [t, u] ∧ t.isL = u.isL ∧ t.kids = some (ds.map T.d) ∧ u.kids = some (es.map T.d) ∧ P (zpT ds es) ρ'
section
variable {K : PySem.W.Frag} {G H G' H' : Hp} {F F' Fv : Fp} {cs : List T} {vs : List V} {a : Addr} {t : T} {v : V}
theorem kids_l (tr : TR K G H t v Fv) (ok : Ok G H Fv) (okF : Ok G H F) (dj : Dj Fv F) (e : t.kids = some cs) (hl : t.isL = true) : ∃ a vs, v = .ref a ∧ SqL K H a vs ∧ Stab K a vs G H F ∧ TRs K G H cs vs Fz := by
  have tr0 := tr
  cases tr with
  | tok h => cases e
  | @scr a ns F' h =>
    obtain ⟨a', vs', ea, hk, trk⟩ := kids_at tr0 ok e
    cases ea
    rcases hk with hk | hk
    · refine ⟨a, _, rfl, ok.le.l h, fun G' H' F' s ok' => ok'.le.l (s.le.l h), ?_⟩
      cases e
      refine ⟨by rw [List.length_map, List.length_map], fun _ => Fz, fun i t v e1 e2 => ?_, fun _ _ _ z => z.elim, fun _ _ z => z⟩
      rw [List.getElem?_map] at e1 e2
      cases q : ns[i]? with
      | none => rw [q] at e1; cases e1
      | some n =>
        rw [q] at e1 e2
        cases e1
        cases e2
        exact .d (by rw [DR])
    · cases hk.1
  | d h =>
    rename_i x
    cases x with
    | list xs =>
      cases e
      rw [DR] at h
      obtain ⟨a, vs, rfl, h1, h2⟩ := h
      exact ⟨a, vs, rfl, .of (ok.le _ _ h1), fun G' H' F' s ok' => .of (ok'.le _ _ (s.le _ _ h1)), drs_trs h2⟩
    | tuple xs => cases hl
    | _ => cases e
  | @nd k cs' a vs F' fs h1 h2 h3 h4 h5 h6 h7 =>
    obtain ⟨a', vs', ea, hk, trk⟩ := kids_at tr0 ok e
    cases ea
    have hkl : k.isLst = true := hl
    rcases hk with hk | hk
    · exact ⟨a, vs', rfl, hk.2.1, fun G' H' F' s ok' => .of (s.fr a _ (fun z => dj a h7 z) (hk.2.2 hkl)), trk⟩
    · have z : k.isLst = false := hk.1
      rw [hkl] at z
      cases z
theorem kids_t (tr : TR K G H t v Fv) (e : t.kids = some cs) (hl : t.isL = false) : ∃ a vs, v = .ref a ∧ SqT K G a vs ∧ TRs K G H cs vs Fz := by
  cases tr with
  | tok h => cases e
  | scr h => cases hl
  | d h =>
    rename_i x
    cases x with
    | list xs => cases hl
    | tuple xs =>
      cases e
      rw [DR] at h
      obtain ⟨a, vs, rfl, h1, h2⟩ := h
      exact ⟨a, vs, rfl, .of h1, drs_trs h2⟩
    | _ => cases e
  | @nd k cs' a vs F' fs h1 h2 h3 h4 h5 h6 h7 =>
    have e : (if k.isLst = true ∧ leafys cs' = true then some cs' else none) = some cs := e
    have hk1 : k.isLst = false := hl
    rw [hk1] at e
    cases e
end
section
variable {X : Cx} {W : WX} {e a b tg : Expr} {m m1 m2 : ME} {pos : Pos} {x : Str} {p : Pos}
theorem ij_r1 {o : Opd} (hm : X.mg "range" = none) (ha : EO X W a o) (hg : Gl X "range" := by rfl) (hs : starEach [a] X.env = [(false, eval a X.env)] := by rfl) : IJ X W tg (.Call (.Name "range" p) [a] [] pos) (miR1 o) := by
  refine PI_imp (pi_range1 hg hm (pa_cons ha pa_nil hs) hs) fun σ H R ⟨G, F, ρ, P, EX, ok, en, xw, hm, hR⟩ => ?_
  refine mA_read (os := [o]) (c := cw X W) ok en xw hm fun vs H1 G1 F1 Fa ts ρ1 s1 ok1 dj en1 tr bk hP => ?_
  obtain ⟨j, rfl, h1, h2, hP⟩ := hP
  obtain ⟨v, rfl, t1⟩ := trs1 tr
  exact ⟨j, by rw [t1.int], h1, h2, hR _ H1 G1 (Fu Fa F1) _ _ s1 ok1 (back_ok en1 tr dj bk) (walks_r 0 j.toNat) hP⟩
theorem ij_r2 {o1 o2 : Opd} (hm : X.mg "range" = none) (ha : EO X W a o1) (hb : EO X W b o2) (hg : Gl X "range" := by rfl) (hs : starEach [a, b] X.env = [(false, eval a X.env), (false, eval b X.env)] := by rfl) (hs2 : starEach [b] X.env = [(false, eval b X.env)] := by rfl) : IJ X W tg (.Call (.Name "range" p) [a, b] [] pos) (miR2 o1 o2) := by
  have hs1 : starEach [a, b] X.env = (false, eval a X.env) :: starEach [b] X.env := by rw [hs, hs2]
  refine PI_imp (pi_range2 hg hm (pa_cons ha (pa_cons hb pa_nil hs2) hs1) hs hs2) fun σ H R ⟨G, F, ρ, P, EX, ok, en, xw, hm, hR⟩ => ?_
  refine mA_read (os := [o1, o2]) (c := cw X W) ok en xw hm fun vs H1 G1 F1 Fa ts ρ1 s1 ok1 dj en1 tr bk hP => ?_
  obtain ⟨i, j, rfl, h1, hP⟩ := hP
  obtain ⟨v, w, rfl, t1, t2⟩ := trs2 tr
  exact ⟨i, j, by rw [t1.int, t2.int], h1, hR _ H1 G1 (Fu Fa F1) _ _ s1 ok1 (back_ok en1 tr dj bk) (walks_r i (j - i).toNat) hP⟩
theorem ij_en {elts : List Expr} {kk : Nat} {tpos : Pos} (hm : X.mg "enumerate" = none) (ha : EJ X W a m) (hg : Gl X "enumerate" := by rfl) (hs : starEach [a] X.env = [(false, eval a X.env)] := by rfl) : IJ X W (.Tuple elts kk tpos) (.Call (.Name "enumerate" p) [a] [] pos) (miE m) := by
  refine PI_imp (pi_enum hg hm (pa_cons ha pa_nil hs) hs) fun σ H R ⟨G, F, ρ, P, EX, ok, en, xw, hm, hR⟩ => ?_
  refine mA_read (os := [.e m]) (c := cw X W) ok en xw hm fun vs H1 G1 F1 Fa ts ρ1 s1 ok1 dj en1 tr bk hP => ?_
  obtain ⟨t, ds, rfl, hl, ek, hP⟩ := hP
  obtain ⟨v, rfl, t1⟩ := trs1 tr
  have ok2 : Ok G1 H1 F1 := ok1.less fun a q => .inr q
  obtain ⟨a, vs, rfl, ha, na, trk⟩ := kids_l t1 (ok1.less fun a q => .inl q) ok2 dj ek hl
  exact ⟨a, vs, rfl, ha, hR _ H1 G1 F1 _ _ (s1.less fun a q => .inr q) ok2 en1 (walks_e (trs_drs trk) na) hP⟩
theorem ij_zp {elts : List Expr} {kk : Nat} {tpos : Pos} (hm : X.mg "zip" = none) (ha : EJ X W a m1) (hb : EJ X W b m2) (hg : Gl X "zip" := by rfl) (hs2 : starEach [b] X.env = (false, eval b X.env) :: starEach [] X.env := by rfl)
    (hs : starEach [a, b] X.env = (false, eval a X.env) :: starEach [b] X.env := by rfl) (hpl : (backTo pos (starEach [b] X.env)).any (·.1) = false := by rfl) : IJ X W (.Tuple elts kk tpos) (.Call (.Name "zip" p) [a, b] [] pos) (miZ m1 m2) := by
  refine PI_imp (RZ.pi_zipA hg hm (pa_cons ha (pa_cons hb pa_nil hs2) hs) hs hpl) fun σ H R ⟨G, F, ρ, P, EX, ok, en, xw, hm, hR⟩ => ?_
  refine mA_read (os := [.e m1, .e m2]) (c := cw X W) ok en xw hm fun vs H1 G1 F1 Fa ts ρ1 s1 ok1 dj en1 tr bk hP => ?_
  obtain ⟨t, u, ds, es, rfl, hl, ek, ek2, hP⟩ := hP
  obtain ⟨v, w, rfl, t1, t2⟩ := trs2 tr
  have ok2 : Ok G1 H1 F1 := ok1.less fun a q => .inr q
  have okA : Ok G1 H1 Fa := ok1.less fun a q => .inl q
  cases hu : u.isL with
  | true =>
    obtain ⟨a, vs, rfl, ha, na, trk⟩ := kids_l t1 okA ok2 dj ek (hl.trans hu)
    obtain ⟨b, ws, rfl, hb, nb, trk2⟩ := kids_l t2 okA ok2 dj ek2 hu
    exact ⟨a, b, vs, ws, rfl, .inl ⟨ha, hb, hR _ H1 G1 F1 _ _ (s1.less fun a q => .inr q) ok2 en1 (walks_z (trs_drs trk) (trs_drs trk2) na nb) hP⟩⟩
  | false =>
    obtain ⟨a, vs, rfl, ha, trk⟩ := kids_t t1 ek (hl.trans hu)
    obtain ⟨b, ws, rfl, hb, trk2⟩ := kids_t t2 ek2 hu
    exact ⟨a, b, vs, ws, rfl, .inr ⟨Le.t ok2.le ha, Le.t ok2.le hb, hR _ H1 G1 F1 _ _ (s1.less fun a q => .inr q) ok2 en1 (walks_zt ok2 (trs_drs trk) (trs_drs trk2) ha hb) hP⟩⟩
end

/-! ### for -/
def forM (g : Tg) (m : MS) : List T → Env → EXk → Kt → Prop
  | [], ρ, _, κ => κ.nx ρ
  | c :: cs, ρ, EX, κ => tgA g c ρ fun ρ1 => m ρ1 EX { κ with nx := fun ρ2 => forM g m cs ρ2 EX κ, ct := fun ρ2 => forM g m cs ρ2 EX κ, bk := κ.nx }
def mFor (mi : MI) (g : Tg) (m : MS) : MS := fun ρ EX κ => mi ρ EX fun cs ρ' => forM g m cs ρ' EX κ
theorem drop_get {α : Type} {l : List α} {i : Nat} {x : α} (h : l[i]? = some x) : l.drop i = x :: l.drop (i + 1) := by
  obtain ⟨hi, e⟩ := List.getElem?_eq_some_iff.mp h
  rw [List.drop_eq_getElem_cons hi, e]
section
variable {X : Cx} {W : WX} {tg iter : Expr} {body : List Stmt} {mi : MI} {g : Tg} {m : MS} {pos : Pos}
theorem sj_for (hp : PassesOwn (model X.prog X.w) X.A X.env X.xe) (hc : X.calm = true) (hi : IJ X W tg iter mi) (hg : GJ X tg g) (hb : SJs X W body m) (hs : ∀ x, foldedSetIterable iter X.env x = pure x := by intro _; rfl) :
    SJ X W (.For tg iter body [] pos) (mFor mi g m) := by
  refine PS_imp (ps_for hp hc hi (hg W) hb hs) fun D σ H ⟨G, F, ρ, κ, EX, ok, en, xw, hm, k⟩ => ?_
  refine ⟨G, F, ρ, _, EX, ok, en, xw σ, hm, fun J H1 G1 F1 cs ρ1 s1 ok1 en1 wk hP => ?_⟩
  refine ⟨fun i n σ' H' => n = cs.length - i ∧ i ≤ cs.length ∧ ∃ G' F' ρ', Step G1 H1 F1 G' H' F' ∧ Ok G' H' F' ∧ EnvR (cw X W).K G' H' σ' ρ' F' ∧ forM g m (cs.drop i) ρ' EX κ, ⟨cs.length, by simp, Nat.zero_le _, G1, F1, ρ1, .refl, ok1, en1, hP⟩, ?_⟩
  rintro i n σ' H' ⟨rfl, hi, G', F', ρ', s2, ok2, en2, hf⟩
  obtain ⟨w1, w2⟩ := wk G' H' F' s2 ok2
  by_cases hlt : i < cs.length
  · have ei : cs[i]? = some cs[i] := List.getElem?_eq_getElem hlt
    obtain ⟨go, yl⟩ := w1 i _ ei
    refine .inr ⟨go, _, fun σ3 H3 (h3 : (∃ G' F' ρ', Step G1 H1 F1 G' H3 F' ∧ Ok G' H3 F' ∧ EnvR (cw X W).K G' H3 σ3 ρ' F' ∧ forM g m (cs.drop (i + 1)) ρ' EX κ)) => ⟨cs.length - (i + 1), by omega, rfl, hlt, h3⟩, fun x H'' y => ?_⟩
    obtain ⟨G'', s3, ok3, le3, tv⟩ := yl x H'' y
    rw [drop_get ei] at hf
    have en3 : EnvR (cw X W).K G'' H'' σ' ρ' F' := en2.stay s3.le fun a o _ q => le3 a o q
    refine ⟨G'', F', ρ', cs[i], Fz, _, ok3.less fun a q => q.elim (fun z => z.elim) id, fun a q => q.elim, en3, tv, hf, fun σ4 ρ4 F4 sF sm en4 hP4 => ?_⟩
    have sF' : ∀ a, F4 a → F' a := fun a q => (sF a q).elim (fun z => z.elim) id
    have s4 : Step G1 H1 F1 G'' H'' F4 := (s2.trans s3).less sF'
    have s5 : Step G H F G'' H'' F4 := s1.trans s4
    refine ⟨G'', F4, ρ4, _, EX, ok3.less sF', en4, xw.step s5, hP4, ⟨fun σ5 H5 ⟨G5, F5, ρ5, t5, ok5, en5, hP5⟩ => ?_, fun v H5 r => ?_, fun σ5 H5 r => ?_, fun σ5 H5 ⟨G5, F5, ρ5, t5, ok5, en5, hP5⟩ => ?_⟩⟩
    · exact ⟨G5, F5, ρ5, s4.trans t5, ok5, en5, hP5⟩
    · exact k.rt v H5 (r.more s5)
    · exact k.nx σ5 H5 (r.more s5)
    · exact ⟨G5, F5, ρ5, s4.trans t5, ok5, en5, hP5⟩
  · have e : i = cs.length := by omega
    subst e
    rw [List.drop_length] at hf
    exact .inl ⟨w2, k.nx σ' H' ⟨G', F', ρ', s1.trans s2, ok2, en2, hf⟩⟩
end
end FA
set_option Elab.async false
set_option linter.all false
set_option maxRecDepth 100000
namespace FA
open PySem PySem.Spec PyProof.Rows L2

/-! ### list comprehensions -/
def killv (vs : List Nat) (ρ : Env) : Env := vs.foldl (fun ρ i => ρ.set i none) ρ
def EX0 : EXk := fun _ _ => False
def W0 : WX := fun _ _ _ _ => False
def lcM (g : Tg) (cond : MT) (elt : ME) (vs : List Nat) : List T → List T → Env → (T → Env → Prop) → Prop
  | [], ys, ρ, P => P (.nd .lst ys) ρ
  | c :: cs, ys, ρ, P => tgA g c ρ fun ρ1 => cond ρ1 EX0 fun b ρ2 => if b = true then elt ρ2 EX0 fun y ρ3 => ys.length < sizeLine ∧ lcM g cond elt vs cs (ys ++ [y]) (killv vs ρ3) P else lcM g cond elt vs cs ys (killv vs ρ2) P
def mLc (mi : MI) (g : Tg) (cond : MT) (elt : ME) (vs : List Nat) : ME := fun ρ EX P => mi ρ EX fun cs ρ' => lcM g cond elt vs cs [] (killv vs ρ') P
def tYesM : MT := fun ρ _ P => P true ρ
section
variable {K : PySem.W.Frag} {G H G' H' : Hp} {F F' A B : Fp} {t : T} {v : V} {σ σ' : L2.St} {ρ : Env} {vs : List Nat} {ys : List T} {acc : List V} {d : Addr}
theorem wipe_wide : ∀ {vs : List Nat} {ρ : Env}, EnvR K G H σ ρ F → EnvR K G H (wipe σ vs) (killv vs ρ) F := by
  intro vs
  have gen : ∀ (vs : List Nat) (ρ : Env), EnvR K G H σ ρ F → EnvR K G H (wipe σ vs) (killv vs ρ) F := by
    intro vs
    induction vs with
    | nil => exact fun ρ e => e
    | cons i vs ih =>
      intro ρ e
      have e1 := ih (ρ.set i none) e.kill
      -- the last slot
      obtain ⟨l, fs, h1, h2, h3⟩ := e1
      refine ⟨by unfold wipe; rw [List.length_set]; exact l, fs, fun j t q => ?_, h2, h3⟩
      obtain ⟨w, e3, e4⟩ := h1 j t q
      refine ⟨w, ?_, e4⟩
      unfold wipe
      by_cases hj : j = i
      · subst hj
        exfalso
        have q : (killv vs (ρ.set j none))[j]? = some (some t) := q
        -- a killed slot stays killed
        have kk : ∀ (vs : List Nat) (ρ : Env), ρ[j]? = none ∨ ρ[j]? = some none → (killv vs ρ)[j]? = none ∨ (killv vs ρ)[j]? = some none := by
          intro vs
          induction vs with
          | nil => exact fun ρ h => h
          | cons k vs ih2 =>
            intro ρ h
            refine ih2 (ρ.set k none) ?_
            by_cases hk : k = j
            · subst hk
              by_cases hl : k < ρ.length
              · exact .inr (by rw [List.getElem?_set_self hl])
              · exact .inl (List.getElem?_eq_none (by rw [List.length_set]; omega))
            · rw [List.getElem?_set_ne hk]
              exact h
        rcases kk vs (ρ.set j none) (by
          by_cases hl : j < ρ.length
          · exact .inr (by rw [List.getElem?_set_self hl])
          · exact .inl (List.getElem?_eq_none (by rw [List.length_set]; omega))) with z | z
        · rw [z] at q; cases q
        · rw [z] at q; cases q
      · rw [List.getElem?_set_ne (Ne.symm hj)]
        exact e3
  exact fun {ρ} e => gen vs ρ e
theorem unwipe (e : EnvR K G H (wipe σ vs) ρ F) : EnvR K G H σ ρ F := by
  obtain ⟨l, fs, h1, h2, h3⟩ := e
  rw [wipe_length] at l
  refine ⟨l, fs, fun j t q => ?_, h2, h3⟩
  obtain ⟨w, e3, e4⟩ := h1 j t q
  exact ⟨w, (wipe_some e3).1, e4⟩
/-- the block's slots wiped again -/
theorem rewipe (s : Sam vs (wipe σ vs) σ') : wipe σ' vs = wipe σ vs := by
  have key : ∀ (us : List Nat) (a b : L2.St), a.length = b.length → (∀ j, j ∉ us → a[j]? = b[j]?) → wipe a us = wipe b us := by
    intro us
    induction us with
    | nil =>
      intro a b _ h
      exact List.ext_getElem? fun j => h j (by simp)
    | cons i us ih =>
      intro a b l h
      unfold wipe
      refine List.ext_getElem? fun j => ?_
      by_cases hj : i = j
      · subst hj
        by_cases hl : i < a.length
        · rw [List.getElem?_set_self (by rw [wipe_length]; exact hl), List.getElem?_set_self (by rw [wipe_length]; omega)]
        · rw [List.getElem?_eq_none (by rw [List.length_set, wipe_length]; omega), List.getElem?_eq_none (by rw [List.length_set, wipe_length]; omega)]
      · rw [List.getElem?_set_ne hj, List.getElem?_set_ne hj]
        have gw : ∀ (us : List Nat) (a b : L2.St), a.length = b.length → j ∉ us → a[j]? = b[j]? → (wipe a us)[j]? = (wipe b us)[j]? := by
          intro us
          induction us with
          | nil => exact fun _ _ _ _ h => h
          | cons k us ih2 =>
            intro a b l nj h
            unfold wipe
            rw [List.getElem?_set_ne (fun z => nj (by rw [z]; exact List.mem_cons_self)), List.getElem?_set_ne (fun z => nj (by rw [z]; exact List.mem_cons_self))]
            exact ih2 a b l (fun z => nj (List.mem_cons_of_mem _ z)) h
        by_cases hm : j ∈ us
        · have wn : ∀ (us : List Nat) (a : L2.St), j ∈ us → (wipe a us)[j]? = if j < a.length then some none else none := by
            intro us
            induction us with
            | nil => exact fun _ z => by cases z
            | cons k us ih2 =>
              intro a z
              unfold wipe
              by_cases hk : k = j
              · subst hk
                by_cases hl : k < a.length
                · rw [List.getElem?_set_self (by rw [wipe_length]; exact hl), if_pos hl]
                · rw [List.getElem?_eq_none (by rw [List.length_set, wipe_length]; omega), if_neg hl]
              · rw [List.getElem?_set_ne hk]
                rcases List.mem_cons.mp z with z | z
                · exact absurd z.symm hk
                · exact ih2 a z
          rw [wn us a hm, wn us b hm, l]
        · refine gw us a b l hm (h j fun z => ?_)
          rcases List.mem_cons.mp z with z | z
          · exact hj z.symm
          · exact hm z
  have e1 : wipe σ' vs = wipe (wipe σ vs) vs := key vs σ' (wipe σ vs) s.1 s.2
  have e2 : wipe (wipe σ vs) vs = wipe σ vs := by
    refine key vs (wipe σ vs) σ (wipe_length σ vs) fun j nj => ?_
    have gw : ∀ (us : List Nat), j ∉ us → (wipe σ us)[j]? = σ[j]? := by
      intro us
      induction us with
      | nil => exact fun _ => rfl
      | cons k us ih2 =>
        intro nj
        unfold wipe
        rw [List.getElem?_set_ne (fun z => nj (by rw [z]; exact List.mem_cons_self))]
        exact ih2 fun z => nj (List.mem_cons_of_mem _ z)
    exact gw vs nj
  exact e1.trans e2
theorem Sam.mono {us : List Nat} (s : Sam us σ σ') (h : ∀ j, j ∈ us → j ∈ vs) : Sam vs σ σ' := ⟨s.1, fun j nj => s.2 j fun z => nj (h j z)⟩
/-- one more item in an owned list -/
theorem app_cell (ok : Ok G H (Fu A B)) (hd : H d = some (.lst acc)) (dA : A d) (ht : TR K G H t v B) (tr : TRs K G H ys acc F) (sF : ∀ a, F a → A a) (nd : ¬ F d) (dj : Dj A B) :
    Step G H (Fu A B) G (upd H d (.lst (acc ++ [v]))) (Fu A B) ∧ Ok G (upd H d (.lst (acc ++ [v]))) (Fu A B) ∧ TRs K G (upd H d (.lst (acc ++ [v]))) (ys ++ [t]) (acc ++ [v]) (Fu F B) := by
  have hne : ∀ a, a ≠ d → upd H d (.lst (acc ++ [v])) a = H a := fun a z => upd_ne z
  have gd : G d = none := ok.no d (.inl dA)
  refine ⟨⟨.refl G, fun a h => .inl h, fun a o n e => ?_, fun a h => ?_, fun a h => .inl h⟩, ⟨fun a o e => ?_, ok.no, fun a h => ?_⟩, ?_⟩
  · rw [hne a fun z => n (by rw [z]; exact .inl dA)]
    exact e
  · by_cases z : a = d
    · rw [z, upd_same]; simp
    · rw [hne a z]; exact h
  · rw [hne a fun z => by rw [z, gd] at e; cases e]
    exact ok.le a o e
  · by_cases z : a = d
    · rw [z, upd_same]; trivial
    · rw [hne a z]; exact ok.cell a h
  · have tr' := tr.stay (G' := G) (H' := upd H d (.lst (acc ++ [v]))) (.refl G) fun a o q e => by
      rw [hne a fun z => nd (z ▸ q)]
      exact e
    have ht' := ht.stay (G' := G) (H' := upd H d (.lst (acc ++ [v]))) (.refl G) fun a o q e => by
      rw [hne a fun z => dj a (z ▸ dA) q]
      exact e
    obtain ⟨l, fs, h1, h2, h3⟩ := tr'
    refine ⟨by rw [List.length_append, List.length_append, l]; rfl, fun i a => (i < ys.length ∧ fs i a) ∨ (i = ys.length ∧ B a), fun i c w e1 e2 => ?_, fun i j a p q => ?_, fun i a p => ?_⟩
    · by_cases hi : i < ys.length
      · rw [List.getElem?_append_left hi] at e1
        rw [List.getElem?_append_left (by omega)] at e2
        exact (h1 i c w e1 e2).mono fun a q => .inl ⟨hi, q⟩
      · have hi2 : i = ys.length := by
          have := (List.getElem?_eq_some_iff.mp e1).1
          rw [List.length_append, List.length_singleton] at this
          omega
        subst hi2
        rw [List.getElem?_append_right (Nat.le_refl _), Nat.sub_self] at e1
        rw [List.getElem?_append_right (by omega), ← l, Nat.sub_self] at e2
        cases e1
        cases e2
        exact ht'.mono fun a q => .inr ⟨rfl, q⟩
    · rcases p with ⟨p1, p2⟩ | ⟨p1, p2⟩ <;> rcases q with ⟨q1, q2⟩ | ⟨q1, q2⟩
      · exact h2 i j a p2 q2
      · exact (dj a (sF a (h3 i a p2)) q2).elim
      · exact (dj a (sF a (h3 j a q2)) p2).elim
      · rw [p1, q1]
    · rcases p with ⟨_, p⟩ | ⟨_, p⟩
      · exact .inl (h3 i a p)
      · exact .inr p
end
section
variable {X : Cx} {W : WX} {elt tg iter : Expr} {ifs : List Expr} {scope : Scope} {own : List (Str × Nat)} {pos : Pos} {mi : MI} {g : Tg} {cond : MT} {me : ME}
theorem lc_read {tt : TT} {c : Cw} (hg : ∀ j, j ∈ tgS g → j ∈ own.map (·.2)) (htt : ∀ σ H Q, tT ⟨c.K, c.mg, W0⟩ cond σ H Q → tt σ H Q) {σ : L2.St} {H : Hp} {Q : VK} (h : tG c (mLc mi g cond me (own.map (·.2))) σ H Q) :
    tLc (tI c mi) (tTg ⟨c.K, c.mg, W0⟩ g) tt (tG ⟨c.K, c.mg, W0⟩ me) (own.map (·.2)) σ H Q := by
  obtain ⟨G, F, ρ, P, EX, ok, en, xw, hm, hQ⟩ := h
  refine ⟨G, F, ρ, _, EX, ok, en, xw, hm, fun J H1 G1 F1 cs ρ1 s1 ok1 en1 wk hP D hD => ?_⟩
  generalize hvs : own.map (·.2) = vs at *
  refine ⟨fun i n H' => n = cs.length - i ∧ i ≤ cs.length ∧ ∃ G' F' A B ρ' ys acc, Step G1 H1 F1 G' H' (Fu A F') ∧ Ok G' H' (Fu A F') ∧ Dj A F' ∧ EnvR c.K G' H' (wipe σ vs) ρ' F' ∧ H' D = some (.lst acc) ∧ A D ∧ TRs c.K G' H' ys acc B ∧ (∀ a, B a → A a) ∧ ¬ B D ∧ lcM g cond me vs (cs.drop i) ys ρ' P,
    ⟨cs.length, by simp, Nat.zero_le _, ?_⟩, ?_⟩
  · obtain ⟨s2, ok2, _⟩ := new_lst (K := c.K) ok1.z (TRs.nil (K := c.K) (G := G1) (H := H1) (F := Fz)) hD
    have dz : Dj F1 Fz := fun _ _ z => z
    have ap : Dj F1 (Fu (Fone D) Fz) := s2.apart ok1 dz
    have nf : ¬ F1 D := fun z => ok1.tracked z hD
    refine ⟨G1, F1, Fu (Fone D) Fz, Fz, killv vs ρ1, [], [], ((s2.frame (A := F1)).wide fun a q => q.elim id fun z => z.elim).less fun a q => q.elim .inr .inl, (s2.okA ok1 dz ok2).less fun a q => q.elim .inr .inl, fun a p q => ap a q p, ?_, upd_same, .inl rfl, .nil, fun a z => z.elim, fun z => z, hP⟩
    exact wipe_wide (en1.stay (.refl G1) fun a o _ q => by rw [upd_ne (ne_of_none q hD)]; exact q)
  · rintro i n H' ⟨rfl, hi, G', F', A, B, ρ', ys, acc, s2, ok2, dj2, en2, hcell, hAD, trs, sB, nB, hf⟩
    have okF : Ok G' H' F' := ok2.less fun a q => .inr q
    have okA : Ok G' H' A := ok2.less fun a q => .inl q
    have s2F : Step G1 H1 F1 G' H' F' := s2.less fun a q => .inr q
    obtain ⟨w1, w2⟩ := wk G' H' F' s2F okF
    by_cases hlt : i < cs.length
    · have ei : cs[i]? = some cs[i] := List.getElem?_eq_getElem hlt
      obtain ⟨go, yl⟩ := w1 i _ ei
      refine .inr ⟨go, fun H3 => ∃ G' F' A B ρ' ys acc, Step G1 H1 F1 G' H3 (Fu A F') ∧ Ok G' H3 (Fu A F') ∧ Dj A F' ∧ EnvR c.K G' H3 (wipe σ vs) ρ' F' ∧ H3 D = some (.lst acc) ∧ A D ∧ TRs c.K G' H3 ys acc B ∧ (∀ a, B a → A a) ∧ ¬ B D ∧ lcM g cond me vs (cs.drop (i + 1)) ys ρ' P, fun H3 h3 => ⟨cs.length - (i + 1), by omega, rfl, hlt, h3⟩, fun x H'' y => ?_⟩
      obtain ⟨G'', s3, ok3, le3, tv⟩ := yl x H'' y
      rw [drop_get ei] at hf
      have en3 : EnvR c.K G'' H'' (wipe σ vs) ρ' F' := en2.stay s3.le fun a o _ q => le3 a o q
      have a3 := s3.okA okA dj2 ok3
      refine ⟨G'', F', ρ', cs[i], Fz, _, ok3.less fun a q => q.elim (fun z => z.elim) id, fun a q => q.elim, en3, tv, hf, fun σ4 ρ4 F4 sF sm en4 hP4 => ?_⟩
      have sF' : ∀ a, F4 a → F' a := fun a q => (sF a q).elim (fun z => z.elim) id
      have sm' : Sam vs (wipe σ vs) σ4 := sm.mono hg
      have wp : wipe σ4 vs = wipe σ vs := rewipe sm'
      have toW : ∀ {G5 H5 F5 ρ5}, EnvR c.K G5 H5 σ4 ρ5 F5 → EnvR c.K G5 H5 (wipe σ vs) (killv vs ρ5) F5 := fun e => by
        have := wipe_wide (vs := vs) e
        rw [wp] at this
        exact this
      have ok4 : Ok G'' H'' F4 := ok3.less sF'
      -- so far, the new list aside
      have s4 : Step G1 H1 F1 G'' H'' (Fu A F4) := (s2.trans (s3.frame (A := A))).less fun a q => q.elim .inl fun z => .inr (sF' a z)
      have a4 : Ok G'' H'' (Fu A F4) := a3.less fun a q => q.elim .inl fun z => .inr (sF' a z)
      have dj4 : Dj A F4 := fun a p q => dj2 a p (sF' a q)
      have okA4 : Ok G'' H'' A := a4.less fun a q => .inl q
      have cell4 : H'' D = some (.lst acc) := le3 _ _ hcell
      have trs4 : TRs c.K G'' H'' ys acc B := trs.stay s3.le fun a o _ q => le3 a o q
      refine ⟨wp, htt _ _ _ ⟨G'', F4, ρ4, _, EX0, ok4, en4, fun _ _ _ _ _ _ _ z => z.elim, hP4, fun b H5 ⟨G5, F5, ρ5, s5, ok5, en5, hP5⟩ => ?_⟩⟩
      have s5' : Step G1 H1 F1 G5 H5 (Fu A F5) := s4.trans (s5.frame (A := A))
      have a5 := s5.okA okA4 dj4 ok5
      have dj5 : Dj A F5 := s5.apart okA4 dj4
      have cell5 : H5 D = some (.lst acc) := s5.fr D _ (fun z => dj4 D hAD z) cell4
      have trs5 : TRs c.K G5 H5 ys acc B := trs4.step s5 fun a p q => dj4 a (sB a p) q
      cases b with
      | false =>
        rw [if_neg Bool.false_ne_true] at hP5
        refine iteF ?_
        exact ⟨G5, F5, A, B, _, ys, acc, s5', a5, dj5, toW en5, cell5, hAD, trs5, sB, nB, hP5⟩
      | true =>
        rw [if_pos rfl] at hP5
        refine iteT ?_
        refine ⟨G5, F5, ρ5, _, EX0, ok5, en5, fun _ _ _ _ _ _ _ z => z.elim, hP5, fun v H6 ⟨G6, F6, Fv, t, ρ6, s6, ok6, dj6, en6, tr6, hz, hP6⟩ => ?_⟩
        have okA5 : Ok G5 H5 A := a5.less fun a q => .inl q
        have s6' : Step G1 H1 F1 G6 H6 (Fu A (Fu Fv F6)) := s5'.trans (s6.frame (A := A))
        have a6 := s6.okA okA5 dj5 ok6
        have dj6' : Dj A (Fu Fv F6) := s6.apart okA5 dj5
        have cell6 : H6 D = some (.lst acc) := s6.fr D _ (fun z => dj5 D hAD z) cell5
        have trs6 : TRs c.K G6 H6 ys acc B := trs5.step s6 fun a p q => dj5 a (sB a p) q
        have djv : Dj A Fv := fun a p q => dj6' a p (.inl q)
        obtain ⟨s7, ok7, trs7⟩ := app_cell (a6.less fun a q => q.elim .inl fun z => .inr (.inl z)) cell6 hAD tr6 trs6 sB nB djv
        refine ⟨acc, cell6, by rw [← trs6.len]; exact hz, G6, F6, Fu A Fv, Fu B Fv, _, _, _, ?_, ?_, ?_, toW (en6.step s7 ?_), upd_same, .inl hAD, trs7, fun a q => q.elim (fun z => .inl (sB a z)) .inr, fun z => z.elim nB fun z => djv D hAD z, hP6⟩
        · have dF : Dj F6 (Fu A Fv) := fun a p q => q.elim (fun z => dj6' a z (.inr p)) fun z => dj6 a z p
          exact (s6'.trans ((s7.frame (A := F6)).wide fun a q => q.elim (fun z => .inr (.inr z)) fun z => z.elim .inl fun z => .inr (.inl z))).less fun a q => q.elim .inr .inl
        · have dF : Dj F6 (Fu A Fv) := fun a p q => q.elim (fun z => dj6' a z (.inr p)) fun z => dj6 a z p
          exact (s7.okA (ok6.less fun a q => .inr q) dF ok7).less fun a q => q.elim .inr .inl
        · exact fun a p q => p.elim (fun z => dj6' a z (.inr q)) fun z => dj6 a z q
        · exact fun a p q => q.elim (fun z => dj6' a z (.inr p)) fun z => dj6 a z p
    · have e : i = cs.length := by omega
      subst e
      rw [List.drop_length] at hf
      refine .inl ⟨w2, hQ _ H' ?_⟩
      obtain ⟨l, fs, h1, h2, h3⟩ := trs
      exact ⟨G', F', A, .nd .lst ys, ρ', s1.trans s2, ok2, dj2, unwipe en2, .nd fs hcell l h1 h2 (fun i x q => sB x (h3 i x q)) (fun i q => nB (h3 i D q)) hAD, hf⟩
theorem ej_lc {tt : TT} (hc : X.calm = true) (hN : X.N.Nodup) (hi : IJ X W tg iter mi) (ok : BlkOk X.N X.env.scope scope own) (hgs : ∀ j, j ∈ tgS g → j ∈ own.map (·.2))
    (hg : ∀ (s : Shared) (H : Hp) (C : Addr) (cl : List (Str × Addr)) (fp : List Addr), GJ (X.blk s H scope (compEnvC scope cl C X.env) fp) tg g) (ht : ∀ (s : Shared) (H : Hp) (C : Addr) (cl : List (Str × Addr)) (fp : List Addr), PTs (X.blk s H scope (compEnvC scope cl C X.env) fp) ifs tt)
    (htt : ∀ σ H Q, tT ⟨X.K, X.mg, W0⟩ cond σ H Q → tt σ H Q)
    (he : ∀ (s : Shared) (H : Hp) (C : Addr) (cl : List (Str × Addr)) (fp : List Addr), EJ (X.blk s H scope (compEnvC scope cl C X.env) fp) W0 elt me) (hs : ∀ x, foldedSetIterable iter X.env x = pure x := by intro _; rfl) :
    EJ X W (.ListComp elt [⟨tg, iter, ifs, 0⟩] scope pos) (mLc mi g cond me (own.map (·.2))) :=
  PE_imp (pe_lc hc hN hi ok (fun s H C cl fp => hg s H C cl fp W0) ht he hs) fun σ H Q h => lc_read (c := cw X W) hgs htt h
theorem pts_no : ∀ σ H Q, tT ⟨X.K, X.mg, W0⟩ tYesM σ H Q → tYes σ H Q := fun σ H Q ⟨G, F, ρ, P, EX, ok, en, xw, hm, hQ⟩ => hQ true H ⟨G, F, ρ, .refl, ok, en, hm⟩
/-- name = [..] on one line -/
theorem sj_setLc {i : Nat} {y : Str} {py : Pos} {spos : Pos} {tt : TT} (hc : X.calm = true) (hN : X.N.Nodup) (hy : X.N[i]? = some y) (hyl : X.env.scope.names.lookup y = some .local)
    (hsw : swapsWith (.ListComp elt [⟨tg, iter, ifs, 0⟩] scope pos) (some (.Name y py)) spos.line X.env = pure true) (hi : IJ X W tg iter mi) (ok : BlkOk X.N X.env.scope scope own) (hgs : ∀ j, j ∈ tgS g → j ∈ own.map (·.2))
    (hg : ∀ (s : Shared) (H : Hp) (C : Addr) (cl : List (Str × Addr)) (fp : List Addr), GJ (X.blk s H scope (compEnvC scope cl C X.env) fp) tg g) (ht : ∀ (s : Shared) (H : Hp) (C : Addr) (cl : List (Str × Addr)) (fp : List Addr), PTs (X.blk s H scope (compEnvC scope cl C X.env) fp) ifs tt)
    (htt : ∀ σ H Q, tT ⟨X.K, X.mg, W0⟩ cond σ H Q → tt σ H Q)
    (he : ∀ (s : Shared) (H : Hp) (C : Addr) (cl : List (Str × Addr)) (fp : List Addr), EJ (X.blk s H scope (compEnvC scope cl C X.env) fp) W0 elt me) (hs : ∀ x, foldedSetIterable iter X.env x = pure x := by intro _; rfl) :
    SJ X W (.Assign [.Name y py] (.ListComp elt [⟨tg, iter, ifs, 0⟩] scope pos) spos) (mSet i (mLc mi g cond me (own.map (·.2)))) :=
  PS_imp (ps_setLc hc hN hy hyl hsw hi ok (fun s H C cl fp => hg s H C cl fp W0) ht he hs) fun D σ H h => by
    obtain ⟨G, F, ρ, P, EX, ok', en, xw, hm, hQ⟩ := tS_set h
    exact lc_read (c := cw X W) hgs htt ⟨G, F, ρ, P, EX, ok', en, xw, hm, hQ⟩
end
end FA
set_option Elab.async false
set_option linter.all false
set_option maxRecDepth 100000
namespace FA
open PySem PySem.Spec PyProof.Rows L2

/-! ### a def by its body -/
def startE (n : Nat) (ts : List T) : Env := ts.map some ++ List.replicate (n - ts.length) none
section
variable {K : PySem.W.Frag} {G H : Hp} {F : Fp} {ts : List T} {vs : List V}
theorem start_ok {N : List Str} (tr : TRs K G H ts vs F) : EnvR K G H (L2.start N vs) (startE N.length ts) F := by
  unfold L2.start startE
  obtain ⟨l, fs, h1, h2, h3⟩ := tr
  refine ⟨by rw [List.length_append, List.length_append, List.length_map, List.length_map, List.length_replicate, List.length_replicate, l], fs, fun i t e => ?_, h2, h3⟩
  by_cases hi : i < ts.length
  · rw [List.getElem?_append_left (by rw [List.length_map]; exact hi), List.getElem?_map] at e
    cases q : ts[i]? with
    | none => rw [q] at e; cases e
    | some u =>
      rw [q] at e
      cases e
      have hv : i < vs.length := by rw [← l]; exact hi
      refine ⟨vs[i], ?_, h1 i t vs[i] q (List.getElem?_eq_getElem hv)⟩
      rw [List.getElem?_append_left (by rw [List.length_map, ← l]; exact hi), List.getElem?_map, List.getElem?_eq_getElem hv]
      rfl
  · rw [List.getElem?_append_right (by rw [List.length_map]; omega), List.getElem?_replicate] at e
    split at e <;> cases e
end
section
variable {P : Program} {w : World} {K : PySem.W.Frag} {mg : Str → Option Value} {base : Heap}
/-- the wish in a def's body -/
abbrev WD (E : XK) : WX := fun cls d _ H => E cls d H
theorem def_ok {x qual : Str} {st : Stmt} {f : Addr} {fd : FuncData} {N ps : List Str} {k n : Nat} {sp : Spec} {m : MS} (Fn : Fun K x qual st f fd) (S : FnScope N ps (defScope st)) (hn : ps.length = n)
    (hm : ∀ (cdv : Value) (A : Around) (outer : List PySem.Env) (s : Shared) (H : Hp) (E : XK), Room k (A.deeper (envOfC qual (defScope st) s.heap.objs.size f cdv)) →
      Takes (cxOf (L2.CX P w) P w K mg base N qual (defScope st) f cdv A outer s H E) (WD E) → SJs (cxOf (L2.CX P w) P w K mg base N qual (defScope st) f cdv A outer s H E) (WD E) (defBody st) m)
    (hs : ∀ ts EX Q, ts.length = n → (∀ t ∈ ts, t.leafy = true) → sp ts EX Q → m (startE N.length ts) (fun x _ => EX x) { nx := fun _ => Q (.d .none), rt := fun t _ => Q t }) :
    FnOk P w K mg base (L2.CX P w) (k + 1) f fd ps (spP K mg n sp) := by
  refine Fn.okX S (fun vs H Q E ⟨G, ts, _, _, _, hl, _, tr, _⟩ => by rw [hn, ← hl]; exact tr.len.symm) fun cdv A outer s H vs Q E hr ⟨G, ts, Pd, EX, ok, hl, hlf, tr, h, hQ, hX⟩ => ?_
  have tk : Takes (cxOf (L2.CX P w) P w K mg base N qual (defScope st) f cdv A outer s H E) (WD E) := takes_of rfl rfl rfl rfl
  refine ⟨_, hm cdv A outer s H E hr tk, ?_⟩
  refine ⟨G, Fz, _, _, _, ok, start_ok tr, fun σ y ρ' cls d G' H' F' hx s' ok' en' xr => ?_, hs ts EX Pd hl hlf h, ⟨fun σ' H' ⟨G', F', ρ', s', ok', en', hP⟩ => ?_, fun v H' ⟨G', Fv, F', t, ρ', σ', s', ok', dj', en', tv, hP⟩ => ?_, fun σ' H' ⟨_, _, _, _, _, _, z⟩ => z.elim, fun σ' H' ⟨_, _, _, _, _, _, z⟩ => z.elim⟩⟩
  · exact hX y cls d G' H' F' hx s' ok' xr
  · exact hQ _ _ ⟨G', Fz, _, s'.less fun a q => q.elim, ok'.z, .d (by rw [DR]), hP⟩
  · exact hQ _ _ ⟨G', Fv, t, s'.less fun a q => .inl q, ok'.less fun a q => .inl q, tv, hP⟩
end

/-! ### changes of an owned list at a name -/
section
variable {K : PySem.W.Frag} {G H : Hp} {F A B C : Fp} {t : T} {v : V} {σ : L2.St} {ρ : Env} {cs cs' : List T} {vs vs' : List V} {l : Addr} {i : Nat}
/-- a list cell gets new contents -/
theorem put_cell (ok : Ok G H F) (en : EnvR K G H σ ρ B) (ev : σ[i]? = some (some (.ref l))) (gl : G l = none) (cl : Cell (H l)) (Fl : F l) (nB : ¬ B l) (tr : TRs K G H cs' vs' C) (nC : ¬ C l) (dj : Dj C B) :
    Step G H F G (upd H l (.lst vs')) F ∧ Ok G (upd H l (.lst vs')) F ∧ EnvR K G (upd H l (.lst vs')) σ (ρ.set i (some (.nd .lst cs'))) (Fu (Fu (Fone l) C) B) := by
  have hne : ∀ a, a ≠ l → upd H l (.lst vs') a = H a := fun a z => upd_ne z
  refine ⟨⟨.refl G, fun a h => .inl h, fun a o n e => ?_, fun a h => ?_, fun a h => .inl h⟩, ⟨fun a o e => ?_, ok.no, fun a h => ?_⟩, ?_⟩
  · rw [hne a fun z => n (by rw [z]; exact Fl)]
    exact e
  · by_cases z : a = l
    · rw [z, upd_same]; simp
    · rw [hne a z]; exact h
  · rw [hne a fun z => by rw [z, gl] at e; cases e]
    exact ok.le a o e
  · by_cases z : a = l
    · rw [z, upd_same]; trivial
    · rw [hne a z]; exact ok.cell a h
  · have en' := en.stay (G' := G) (H' := upd H l (.lst vs')) (.refl G) fun a o q e => by
      rw [hne a fun z => nB (z ▸ q)]
      exact e
    have tr' := tr.stay (G' := G) (H' := upd H l (.lst vs')) (.refl G) fun a o q e => by
      rw [hne a fun z => nC (z ▸ q)]
      exact e
    obtain ⟨len, fs, h1, h2, h3⟩ := tr'
    refine en'.put ev (.nd fs upd_same len h1 h2 (fun i x q => .inr (h3 i x q)) (fun i q => nC (h3 i l q)) (.inl rfl)) fun a p q => ?_
    rcases p with p | p
    · have e : a = l := p
      rw [e] at q
      exact nB q
    · exact dj a p q
theorem nd_parts (h : TR K G H (.nd .lst cs) v A) (ok : Ok G H A) : ∃ (l : Addr) (vs : List V) (fs : Nat → Fp), v = .ref l ∧ H l = some (.lst vs) ∧ cs.length = vs.length ∧ (∀ (i : Nat) c w, cs[i]? = some c → vs[i]? = some w → TR K G H c w (fs i)) ∧
    (∀ i j x, fs i x → fs j x → i = j) ∧ (∀ i x, fs i x → A x) ∧ (∀ i, ¬ fs i l) ∧ A l := by
  cases h with
  | @nd k cs' a vs F fs h1 h2 h3 h4 h5 h6 h7 => exact ⟨a, vs, fs, rfl, h1, h2, h3, h4, h5, h6, h7⟩
end
/-- xs.append(e) of the list at slot i -/
def mApp (i : Nat) (m : ME) : MS := fun ρ EX κ => (∃ cs, ρ[i]? = some (some (.nd .lst cs))) ∧ m ρ EX fun t ρ' => ∃ cs, ρ'[i]? = some (some (.nd .lst cs)) ∧ cs.length < sizeLine ∧ κ.nx (ρ'.set i (some (.nd .lst (cs ++ [t]))))
section
variable {X : Cx} {W : WX} {e k : Expr} {m mk : ME} {pos cpos apos p p2 : Pos} {x : Str}
theorem sj_app (i : Nat) {es : List Expr} (h : EJ X W e m) (hN : X.N[i]? = some x := by rfl) (hv : Vis X.env.scope x := by first | exact Or.inl rfl | exact Or.inr (Or.inl rfl) | exact Or.inr (Or.inr rfl)) (hd : (x == ("__debug__" : Str)) = false := by decide +kernel)
    (hcd : (x == ("__classdict__" : Str)) = false := by decide +kernel)
    (hbase : attributeBase (.Name x p) "append" X.env (eval (.Name x p) X.env) = eval (.Name x p) X.env := by rfl)
    (hfew : ((backTo cpos (starEach [e] X.env)).all (fun x => !x.1) && (backToKw cpos (keywordEach [] X.env)).all (fun x => x.1.isSome)
      && decide ([e].length + ([] : List Keyword).length + (if ([] : List Keyword).isEmpty then 0 else 1) < 30)) = true := by rfl)
    (hline : (apos.endLine == cpos.line) = true := by rfl) (hs : starEach [e] X.env = (false, eval e X.env) :: starEach [] X.env := by rfl) (hplain : (backTo cpos (starEach [] X.env)).any (·.1) = false := by rfl)
    (hsw : swapsWith (.Call (.Attribute (.Name x p) "append" apos) [e] [] cpos) none pos.line X.env = pure false := by rfl) :
    SJ X W (.Expr (.Call (.Attribute (.Name x p) "append" apos) [e] [] cpos) pos) (mApp i m) := by
  refine PS_imp (ps_expr (pe_bm PySem.F.plainAttrs_list PySem.F.slot_list_append PySem.F.type_list_append mt_append (pe_var hN hv hd hcd) (pa_cons h pa_nil hs) hbase hfew hline hs hplain) hsw) fun D σ H ⟨G, F, ρ, κ, EX, ok, en, xw, ⟨⟨c0, e0⟩, hm⟩, kd⟩ => ?_
  obtain ⟨v, A, B, ev, tr, enB, dAB, hA, hB⟩ := en.take e0
  obtain ⟨l, vs, fs, rfl, hl, hlen, h3, h4, h5, h6, h7⟩ := nd_parts tr (ok.less hA)
  refine ⟨_, ev, .inl ⟨rfl, vs, .of hl⟩, G, F, ρ, _, EX, ok, en, xw σ, hm, fun y H' ⟨G', F', Fv, t, ρ', s, ok', dj, en', trt, cs, e1, hz, hP⟩ => ?_⟩
  obtain ⟨v', A', B', ev', tr', enB', dAB', hA', hB'⟩ := en'.take e1
  rw [ev] at ev'
  cases ev'
  have okA' : Ok G' H' A' := ok'.less fun a q => .inr (hA' a q)
  obtain ⟨l', vs', fs', el, hl', hlen', g3, g4, g5, g6, g7⟩ := nd_parts tr' okA'
  cases el
  refine ⟨l, vs', y, rfl, rfl, hl', by rw [← hlen']; exact hz, ?_⟩
  -- the children and the new one
  have trs : TRs (cw X W).K G' H' (cs ++ [t]) (vs' ++ [y]) (fun a => (∃ i, fs' i a) ∨ Fv a) := by
    refine ⟨by rw [List.length_append, List.length_append, hlen']; rfl, fun i a => (i < cs.length ∧ fs' i a) ∨ (i = cs.length ∧ Fv a), fun i c w e1 e2 => ?_, fun i j a p q => ?_, fun i a p => ?_⟩
    · by_cases hi : i < cs.length
      · rw [List.getElem?_append_left hi] at e1
        rw [List.getElem?_append_left (by omega)] at e2
        exact (g3 i c w e1 e2).mono fun a q => .inl ⟨hi, q⟩
      · have hi2 : i = cs.length := by
          have := (List.getElem?_eq_some_iff.mp e1).1
          rw [List.length_append, List.length_singleton] at this
          omega
        subst hi2
        rw [List.getElem?_append_right (Nat.le_refl _), Nat.sub_self] at e1
        rw [List.getElem?_append_right (by omega), ← hlen', Nat.sub_self] at e2
        cases e1
        cases e2
        exact trt.mono fun a q => .inr ⟨rfl, q⟩
    · rcases p with ⟨p1, p2⟩ | ⟨p1, p2⟩ <;> rcases q with ⟨q1, q2⟩ | ⟨q1, q2⟩
      · exact g4 i j a p2 q2
      · exact (dj a q2 (hA' a (g5 i a p2))).elim
      · exact (dj a p2 (hA' a (g5 j a q2))).elim
      · rw [p1, q1]
    · rcases p with ⟨_, p⟩ | ⟨_, p⟩
      · exact .inl ⟨i, p⟩
      · exact .inr p
  have okl := okA'.cell l g7
  obtain ⟨s2, ok2, en2⟩ := put_cell (C := fun a => (∃ i, fs' i a) ∨ Fv a) ok' enB' ev (okA'.no l g7) okl (.inr (hA' l g7)) (fun z => dAB' l g7 z) trs (fun z => z.elim (fun ⟨i, q⟩ => g6 i q) fun q => dj l q (hA' l g7)) (fun a p q => p.elim (fun ⟨i, z⟩ => dAB' a (g5 i a z) q) fun z => dj a z (hB' a q))
  rw [List.set_set] at en2
  refine kd.nx _ _ ⟨G', _, _, (s.trans s2).less fun a q => ?_, ok2.less fun a q => ?_, en2, hP⟩
  · rcases q with (q | ⟨i, q⟩ | q) | q
    · have e : a = l := q
      rw [e]
      exact .inr (hA' l g7)
    · exact .inr (hA' a (g5 i a q))
    · exact .inl q
    · exact .inr (hB' a q)
  · rcases q with (q | ⟨i, q⟩ | q) | q
    · have e : a = l := q
      rw [e]
      exact .inr (hA' l g7)
    · exact .inr (hA' a (g5 i a q))
    · exact .inl q
    · exact .inr (hB' a q)
end
end FA
set_option Elab.async false
set_option linter.all false
set_option maxRecDepth 100000
namespace FA
open PySem PySem.Spec PyProof.Rows L2

/-! ### operations of several kinds at once -/
section
variable {K : PySem.W.Frag} {G H : Hp} {F : Fp} {t u : T} {v w : V} {ts cs : List T} {vs : List V}
theorem OpS.or {r r' : RL} {o o' : OpT} (h : OpS K r o) (h' : OpS K r' o') : OpS K (fun vs H Q => r vs H Q ∨ r' vs H Q) (fun ts P => o ts P ∨ o' ts P) := by
  intro ts vs G H F P Q ok tr ho hQ
  rcases ho with ho | ho
  · exact .inl (h ts vs G H F P Q ok tr ho hQ)
  · exact .inr (h' ts vs G H F P Q ok tr ho hQ)
/-- one rule by what the operands are -/
theorem OpS.imp {r r' : RL} {o o' : OpT} (h : OpS K r o) (hr : ∀ vs H Q, r vs H Q → r' vs H Q) (ho : ∀ ts P, o' ts P → o ts P) : OpS K r' o' := fun ts vs G H F P Q ok tr q hQ => hr _ _ _ (h ts vs G H F P Q ok tr (ho _ _ q) hQ)
theorem TR.str {x : Str} (h : TR K G H (.d (.str x)) v F) : v = .str x := by
  have := h.dr
  rw [DR] at this
  exact this
def oAddS : OpT := fun ts P => match ts with
  | [.d (.str i), .d (.str j)] => i.length + j.length ≤ sizeLine ∧ P (.d (.str (i ++ j)))
  | _ => False
def rAddS : R2 := fun x y H Q => ∃ i j, x = .str i ∧ y = .str j ∧ i.length + j.length ≤ sizeLine ∧ Q (.str (i ++ j)) H
theorem oAddS_S : OpS K (r2L rAddS) oAddS := by
  intro ts vs G H F P Q ok tr ho hQ
  unfold oAddS at ho
  split at ho
  · obtain ⟨v, w, rfl, h1, h2⟩ := trs2 tr
    exact ⟨_, _, h1.str, h2.str, ho.1, hQ _ _ (res_flat (x := .str _) ok rfl ho.2)⟩
  · exact ho.elim
/-- a + b of ints, texts, lists, tuples -/
def rAddA (K : PySem.W.Frag) : R2 := fun x y H Q => (((rI0 fun i j => .int (i + j)) x y H Q ∨ rAddS x y H Q) ∨ rCat x y H Q) ∨ rCatA K x y H Q
theorem op_addA {X : Cx} : OpR X (binaryOp .Add) (rAddA X.K) := ((op_add.or op_add_str).or op_cat).or op_catA
def oAddA : OpT := fun ts P => match ts with
  | [.d (.int i), .d (.int j)] => P (.d (.int (i + j)))
  | [.d (.str i), .d (.str j)] => i.length + j.length ≤ sizeLine ∧ P (.d (.str (i ++ j)))
  | [.d (.tuple xs), .d (.tuple ys)] => xs.length + ys.length ≤ sizeLine ∧ P (.d (.tuple (xs ++ ys)))
  | [t, u] => t.isS = true ∧ u.isS = true ∧ ∃ cs es, t.kids = some cs ∧ u.kids = some es ∧ cs.length + es.length ≤ sizeLine ∧ P (.nd .lst (cs ++ es))
  | _ => False
theorem r2L_or {r r' : R2} {vs : List V} {H : Hp} {Q : VK} (h : r2L r vs H Q ∨ r2L r' vs H Q) : r2L (fun x y H Q => r x y H Q ∨ r' x y H Q) vs H Q := by
  match vs, h with
  | [x, y], h => exact h
  | [], h => exact h.elim id id
  | [_], h => exact h.elim id id
  | _ :: _ :: _ :: _, h => exact h.elim id id
theorem oAddA_S : OpS K (r2L (rAddA K)) oAddA := by
  intro ts vs G H F P Q ok tr ho hQ
  unfold oAddA at ho
  split at ho
  · exact r2L_or (.inl (r2L_or (.inl (r2L_or (.inl (oAdd_S _ _ _ _ _ _ _ ok tr ho hQ))))))
  · exact r2L_or (.inl (r2L_or (.inl (r2L_or (.inr (oAddS_S _ _ _ _ _ _ _ ok tr ho hQ))))))
  · exact r2L_or (.inr (oCatT_S _ _ _ _ _ _ _ ok tr ho hQ))
  · exact r2L_or (.inl (r2L_or (.inr (oCat_S _ _ _ _ _ _ _ ok tr ho hQ))))
  · exact ho.elim
def CMulV (i j : Int) : Prop := CMulW i j ∨ CMul i j
theorem CMulV.small {i j : Int} (h : -(2 ^ 64) < i) (h' : i < 2 ^ 64) : CMulV i j := .inr (.inl ⟨h, h'⟩)
theorem CMulV.small' {i j : Int} (h : -(2 ^ 64) < j) (h' : j < 2 ^ 64) : CMulV i j := .inr (.inr ⟨h, h'⟩)
theorem op_mulV {X : Cx} : OpR X (binaryOp .Mult) (rI CMulV fun i j => .int (i * j)) := opI fun _ _ _ _ _ _ _ hc q => mul_int q (hc.elim CMulW.ok CMul.ok)
abbrev oMulV : OpT := oIC CMulV fun i j => .int (i * j)
theorem oMulV_S : OpS K (r2L (rI CMulV fun i j => .int (i * j))) oMulV := oIC_S fun _ _ => rfl
/-- a * b of ints; a list times an int -/
def rMulA : R2 := fun x y H Q => (rI CMulV fun i j => .int (i * j)) x y H Q ∨ rRep x y H Q
theorem op_mulA {X : Cx} : OpR X (binaryOp .Mult) rMulA := op_mulV.or op_rep
def oMulA : OpT := fun ts P => match ts with
  | [.d (.int i), .d (.int j)] => CMulV i j ∧ P (.d (.int (i * j)))
  | [t, .d (.int k)] => t.isS = true ∧ ∃ cs, t.kids = some cs ∧ -(2 ^ 63) ≤ k ∧ k < 2 ^ 63 ∧ cs.length * k.toNat ≤ sizeLine ∧ P (.nd .lst (List.replicate k.toNat cs).flatten)
  | _ => False
theorem oMulA_S : OpS K (r2L rMulA) oMulA := by
  intro ts vs G H F P Q ok tr ho hQ
  unfold oMulA at ho
  split at ho
  · exact r2L_or (  .inl (oMulV_S _ _ _ _ _ _ _ ok tr ho hQ))
  · exact r2L_or (.inr (oRep_S _ _ _ _ _ _ _ ok tr ho hQ))
  · exact ho.elim
/-- a[i] of lists, tuples, texts -/
def rIxA (K : PySem.W.Frag) : R2 := fun x y H Q => L2.rIxS x y H Q ∨ FA.rIxS K x y H Q
theorem ix_any {X : Cx} : IxR X (rIxA X.K) := ix_str.or ix_seq'
def oIxG : OpT := fun ts P => match ts with
  | [.d (.str z), .d (.int i)] => z.length ≤ sizeLine ∧ ∃ c, atI z.cps.toList i = some c ∧ P (.d (.str ⟨#[c]⟩))
  | [t, .d (.int i)] => ∃ cs x, t.kids = some cs ∧ atI cs i = some x ∧ P x
  | _ => False
theorem oIxG_S : OpS K (r2L (rIxA K)) oIxG := by
  intro ts vs G H F P Q ok tr ho hQ
  unfold oIxG at ho
  split at ho
  · obtain ⟨v, w, rfl, h1, h2⟩ := trs2 tr
    obtain ⟨hz, c, e, hP⟩ := ho
    exact .inl ⟨_, _, c, h1.str, h2.int, hz, e, hQ _ _ (res_flat (x := .str _) ok rfl hP)⟩
  · exact r2L_or (.inr (oIxA_S _ _ _ _ _ _ _ ok tr ho hQ))
  · exact ho.elim
/-- len of lists, tuples, texts -/
def rLenA (K : PySem.W.Frag) : RL := fun xs H Q => (∃ z, xs = [.str z] ∧ z.length ≤ sizeLine ∧ Q (.int z.length) H) ∨ ∃ p ys, xs = [.ref p] ∧ (SqL K H p ys ∨ SqT K H p ys) ∧ Q (.int ys.length) H
theorem call_lenA {X : Cx} : CallR X (.builtin "len") (rLenA X.K) := call_len_str.or call_len_seq
def oLenA : OpT := fun ts P => match ts with
  | [.d (.str z)] => z.length ≤ sizeLine ∧ P (.d (.int z.length))
  | [t] => ∃ n : Nat, t.size = some n ∧ P (.d (.int n))
  | _ => False
theorem oLenA_S : OpS K (rLenA K) oLenA := by
  intro ts vs G H F P Q ok tr ho hQ
  unfold oLenA at ho
  split at ho
  · obtain ⟨v, rfl, h1⟩ := trs1 tr
    exact .inl ⟨_, by rw [h1.str], ho.1, hQ _ _ (res_int ok ho.2)⟩
  · exact .inr (oLen_S _ _ _ _ _ _ _ ok tr ho hQ)
  · exact ho.elim

/-! ### sums, least, greatest, all, any -/
def tI0 (ns : List Int) : List T := ns.map fun n => T.d (.int n)
theorem ints_at {ns : List Int} (h : TRs K G H (tI0 ns) vs F) : vs = ns.map V.int := by
  refine List.ext_getElem? fun i => ?_
  rw [List.getElem?_map]
  cases e : ns[i]? with
  | none =>
    have : vs.length = ns.length := by rw [← h.len]; unfold tI0; rw [List.length_map]
    rw [List.getElem?_eq_none_iff.mpr]
    · rfl
    · have := List.getElem?_eq_none_iff.mp e
      omega
  | some n =>
    obtain ⟨v, ev, tv⟩ := h.get (i := i) (t := .d (.int n)) (by unfold tI0; rw [List.getElem?_map, e]; rfl)
    rw [ev, tv.int]
    rfl
def tB0 (bs : List Bool) : List T := bs.map fun b => T.d (.bool b)
theorem bools_at {bs : List Bool} (h : TRs K G H (tB0 bs) vs F) : vs = bs.map V.bl := by
  refine List.ext_getElem? fun i => ?_
  rw [List.getElem?_map]
  cases e : bs[i]? with
  | none =>
    have : vs.length = bs.length := by rw [← h.len]; unfold tB0; rw [List.length_map]
    rw [List.getElem?_eq_none_iff.mpr]
    · rfl
    · have := List.getElem?_eq_none_iff.mp e
      omega
  | some b =>
    obtain ⟨v, ev, tv⟩ := h.get (i := i) (t := .d (.bool b)) (by unfold tB0; rw [List.getElem?_map, e]; rfl)
    have := tv.dr
    rw [DR] at this
    rw [ev, this]
    rfl
def oInts (f : List Int → (PyData → Prop) → Prop) : OpT := fun ts P => ∃ t ns, ts = [t] ∧ t.isL = true ∧ t.kids = some (tI0 ns) ∧ f ns fun d => P (.d d)
theorem ints_of {ns : List Int} (h1 : TR K G H t v F) (ok : Ok G H F) (hl : t.isL = true) (ek : t.kids = some (tI0 ns)) : ∃ a, v = .ref a ∧ SqL K H a (ns.map V.int) := by
  obtain ⟨a, vs', rfl, hk, trk⟩ := kids_at h1 ok ek
  rw [ints_at trk] at hk
  rcases hk with hk | hk
  · exact ⟨a, rfl, hk.2.1⟩
  · rw [hl] at hk
    cases hk.1
theorem oSum_S : OpS K (rSum K) (oInts fun ns P => P (.int ns.sum)) := by
  intro ts vs G H F P Q ok tr ⟨t, ns, e, hl, ek, hP⟩ hQ
  subst e
  obtain ⟨v, rfl, h1⟩ := trs1 tr
  obtain ⟨a, rfl, sq⟩ := ints_of h1 ok hl ek
  exact ⟨a, ns, rfl, sq, hQ _ _ (res_int ok hP)⟩
def oBools (f : List Bool → Bool) : OpT := fun ts P => ∃ t bs, ts = [t] ∧ t.isL = true ∧ t.kids = some (tB0 bs) ∧ P (.d (.bool (f bs)))
theorem bools_of {bs : List Bool} (h1 : TR K G H t v F) (ok : Ok G H F) (hl : t.isL = true) (ek : t.kids = some (tB0 bs)) : ∃ a, v = .ref a ∧ SqL K H a (bs.map V.bl) := by
  obtain ⟨a, vs', rfl, hk, trk⟩ := kids_at h1 ok ek
  rw [bools_at trk] at hk
  rcases hk with hk | hk
  · exact ⟨a, rfl, hk.2.1⟩
  · rw [hl] at hk
    cases hk.1
theorem oAll_S : OpS K (rAll K) (oBools fun bs => bs.all id) := by
  intro ts vs G H F P Q ok tr ⟨t, bs, e, hl, ek, hP⟩ hQ
  subst e
  obtain ⟨v, rfl, h1⟩ := trs1 tr
  obtain ⟨a, rfl, sq⟩ := bools_of h1 ok hl ek
  exact ⟨a, bs, rfl, sq, hQ _ _ (res_bool ok hP)⟩
/-! ### in, not in: flat data -/
def flatD : PyData → Bool
  | .none => true
  | .bool _ => true
  | .int _ => true
  | .str _ => true
  | _ => false
theorem flat_pV {d : PyData} (h : DR K G d v) (f : flatD d = true) : v = pV d := by
  cases d with
  | none => rw [DR] at h; exact h
  | bool b => rw [DR] at h; exact h
  | int i => rw [DR] at h; exact h
  | str x => rw [DR] at h; exact h
  | _ => cases f
theorem flats_pV : ∀ {ds : List PyData} {vs : List V}, DRs K G ds vs → ds.all flatD = true → vs = ds.map pV
  | [], _, h, _ => by rw [DRs] at h; exact h
  | d :: ds, _, h, f => by
    rw [DRs] at h
    obtain ⟨v, r, rfl, h1, h2⟩ := h
    rw [List.all_cons, Bool.and_eq_true] at f
    rw [List.map_cons, flat_pV h1 f.1, flats_pV h2 f.2]
end

/-! ### slices -/
def cutL {α : Type} (xs : List α) (lo hi : Option Int) : List α := (xs.drop (HT.sIx xs.length 0 lo)).take (HT.sIx xs.length xs.length hi - HT.sIx xs.length 0 lo)
section
variable {K : PySem.W.Frag} {G H : Hp} {F : Fp} {t u : T} {v w : V} {ts cs : List T} {vs : List V}
theorem TRs.cut (h : TRs K G H ts vs Fz) (lo hi : Option Int) : TRs K G H (cutL ts lo hi) (cutV vs lo hi) Fz := by
  have hl := h.len
  unfold cutL cutV
  rw [hl]
  generalize HT.sIx vs.length 0 lo = a
  generalize HT.sIx vs.length vs.length hi = b
  refine ⟨by rw [List.length_take, List.length_take, List.length_drop, List.length_drop, hl], fun _ => Fz, fun i t v e1 e2 => ?_, fun _ _ _ z => z.elim, fun _ _ z => z⟩
  rw [List.getElem?_take] at e1 e2
  split at e1
  · rename_i hi
    rw [if_pos hi] at e2
    rw [List.getElem?_drop] at e1 e2
    obtain ⟨w, ew, tw⟩ := h.get e1
    rw [e2] at ew
    cases ew
    exact tw
  · cases e1
theorem DRs.cut {ds : List PyData} (h : DRs K G ds vs) (lo hi : Option Int) : DRs K G (cutL ds lo hi) (cutV vs lo hi) := by
  have hl := h.length
  unfold cutL cutV
  rw [hl]
  generalize HT.sIx vs.length 0 lo = a
  generalize HT.sIx vs.length vs.length hi = b
  refine DRs.of (by rw [List.length_take, List.length_take, List.length_drop, List.length_drop, hl]) fun i d v e1 e2 => ?_
  rw [List.getElem?_take] at e1 e2
  split at e1
  · rename_i hi
    rw [if_pos hi] at e2
    rw [List.getElem?_drop] at e1 e2
    obtain ⟨w, ew, tw⟩ := h.get' e1
    rw [e2] at ew
    cases ew
    exact tw
  · cases e1
abbrev RSl := V → Option Int → Option Int → Hp → VK → Prop
/-- x[lo:hi] of a list, a tuple, a text -/
def rSlG (K : PySem.W.Frag) : RSl := fun x lo hi H Q => (rSlL K x lo hi H Q ∨ rSlA K x lo hi H Q) ∨ rSlS x lo hi H Q
theorem sl_any {X : Cx} : SlR X (rSlG X.K) := (sl_list.or sl_tupA).or sl_str
def oSl (lo hi : Option Int) (t : T) (P : T → Prop) : Prop := match t with
  | .d (.tuple ds) => P (.d (.tuple (cutL ds lo hi)))
  | .d (.str z) => z.length ≤ sizeLine ∧ P (.d (.str (cutS z lo hi)))
  | t => t.isL = true ∧ ∃ cs, t.kids = some cs ∧ P (.nd .lst (cutL cs lo hi))
theorem oSl_ok {lo hi : Option Int} {P : T → Prop} {Q : VK} (ok : Ok G H F) (tr : TR K G H t v F) (h : oSl lo hi t P) (hQ : ∀ v H', Res1 K G H P v H' → Q v H') : rSlG K v lo hi H Q := by
  unfold oSl at h
  split at h
  · rename_i ds
    have t1 := tr.dr
    have d1 := tr.dr
    rw [DR] at d1
    obtain ⟨a, vs, rfl, s1, r1⟩ := d1
    refine .inl (.inr ⟨a, vs, rfl, .of (ok.le _ _ s1), fun e => ?_, fun _ p hp => hQ _ _ (res_tup ok (r1.cut lo hi) hp h)⟩)
    have ew : cutL ds lo hi = ds := by
      unfold cutL
      rw [r1.length, e.1, e.2]
      show (ds.drop 0).take (vs.length - 0) = ds
      rw [List.drop_zero, Nat.sub_zero, ← r1.length]
      exact List.take_length
    rw [ew] at h
    exact hQ _ _ (res_same ok (.d t1) h)
  · exact .inr ⟨_, tr.str, h.1, hQ _ _ (res_flat (x := .str _) ok rfl h.2)⟩
  · obtain ⟨hl, cs, ek, hP⟩ := h
    obtain ⟨a, vs, rfl, hk, trk⟩ := kids_at tr ok ek
    rcases hk with hk | hk
    · exact .inl (.inl ⟨a, vs, rfl, hk.2.1, fun p hp => hQ _ _ (res_lst ok (trk.cut lo hi) hp hP)⟩)
    · rw [hl] at hk
      cases hk.1
def oSlLo : OpT := fun ts P => match ts with
  | [t, .d (.int i)] => oSl (some i) none t P
  | _ => False
def oSlHi : OpT := fun ts P => match ts with
  | [t, .d (.int i)] => oSl none (some i) t P
  | _ => False
def rLo (K : PySem.W.Frag) : RL := fun vs H Q => match vs with
  | [x, y] => ∃ i, y = .int i ∧ rSlG K x (some i) none H Q
  | _ => False
def rHi (K : PySem.W.Frag) : RL := fun vs H Q => match vs with
  | [x, y] => ∃ i, y = .int i ∧ rSlG K x none (some i) H Q
  | _ => False
theorem oSlLo_S : OpS K (rLo K) oSlLo := by
  intro ts vs G H F P Q ok tr ho hQ
  unfold oSlLo at ho
  split at ho
  · obtain ⟨v, w, rfl, h1, h2⟩ := trs2 tr
    exact ⟨_, h2.int, oSl_ok ok h1 ho hQ⟩
  · exact ho.elim
theorem oSlHi_S : OpS K (rHi K) oSlHi := by
  intro ts vs G H F P Q ok tr ho hQ
  unfold oSlHi at ho
  split at ho
  · obtain ⟨v, w, rfl, h1, h2⟩ := trs2 tr
    exact ⟨_, h2.int, oSl_ok ok h1 ho hQ⟩
  · exact ho.elim
end
section
variable {X : Cx} {W : WX} {e a b c lo hi : Expr} {m ma mb : ME} {pos p2 : Pos} {o o1 o2 o3 : Opd}
theorem ej_slLo (h : EO X W e o) (hl : EO X W lo o1) : EJ X W (.Subscript e (.Slice (some lo) none none p2) pos) (mOp oSlLo [o, o1]) :=
  PE_imp (pe_slice sl_any h (po_some hl) po_none) fun σ H Q q => mOp_read (c := cw X W) oSlLo_S q
theorem ej_slHi (h : EO X W e o) (hl : EO X W hi o1) : EJ X W (.Subscript e (.Slice none (some hi) none p2) pos) (mOp oSlHi [o, o1]) :=
  PE_imp (pe_slice sl_any h po_none (po_some hl)) fun σ H Q q => mOp_read (c := cw X W) oSlHi_S q
/-! ### what is never reached -/
/-! ### a op b op' c -/
def mChain (o o' : OpT) (x y z : Opd) : ME := fun ρ EX P => mA [x, y] ρ EX fun ts ρ' => ∃ t u, ts = [t, u] ∧ o [t, u] fun r => ∃ k, r = .d (.bool k) ∧ if k = true then mA [z] (back [x, y] ts ρ') EX fun zs ρ2 => ∃ s, zs = [s] ∧ u.leafy = true ∧ o' [u, s] fun r2 => P r2 (back [z] zs ρ2) else P (.d (.bool false)) (back [x, y] ts ρ')
theorem mChain_read {c : Cw} {r r' : R2} {op op' : OpT} (h : OpS c.K (r2L r) op) (h' : OpS c.K (r2L r') op') {σ : L2.St} {H : Hp} {Q : VK} (q : tG c (mChain op op' o1 o2 o3) σ H Q) : tChain r r' (tO c o1) (tO c o2) (tO c o3) σ H Q := by
  obtain ⟨G, F, ρ, P, EX, ok, en, xw, hm, hQ⟩ := q
  have key : tOs c [o1, o2] σ H fun vs H2 => match vs with
      | [x, y] => r x y H2 fun z H3 => ∃ k, z = .bl k ∧ (if k = true then tO c o3 σ H3 fun w' H4 => r' y w' H4 Q else Q (.bl false) H3)
      | _ => False := by
    refine mA_read ok en xw hm fun vs H1 G1 F1 Fa ts ρ1 s1 ok1 dj en1 tr bk hP => ?_
    obtain ⟨t, u, rfl, hop⟩ := hP
    obtain ⟨v, w, rfl, t1, t2⟩ := trs2 tr
    refine h _ _ G1 H1 Fa _ _ (ok1.less fun a q => .inl q) tr hop fun z H3 ⟨G3, Fv, tz, s3, ok3, tv, k, ez, hP3⟩ => ?_
    subst ez
    have dz : ∀ {A : Fp}, Dj A Fz := fun _ _ h => h
    refine ⟨k, by have := tv.dr; rw [DR] at this; exact this, ?_⟩
    -- all of ours behind the first comparison
    have en3 : EnvR c.K G3 H3 σ (back [o1, o2] [t, u] ρ1) (Fu Fa F1) := back_ok (en1.step s3 dz) (tr.step s3 dz) dj bk
    have s4 : Step G H F G3 H3 (Fu Fa F1) := (s1.trans (s3.frame (A := Fu Fa F1) |>.wide fun a q => q.elim id fun z => z.elim)).less fun a q => .inl q
    have ok4 : Ok G3 H3 (Fu Fa F1) := (s3.okA ok1 dz ok3).less fun a q => .inl q
    cases k with
    | false =>
      rw [if_neg Bool.false_ne_true] at hP3 ⊢
      refine hQ _ _ ⟨G3, Fu Fa F1, Fz, _, _, s4.less fun a q => q.elim (fun z => z.elim) id, ok4.less fun a q => q.elim (fun z => z.elim) id, fun a q => q.elim, en3, .d (by rw [DR]), hP3⟩
    | true =>
      rw [if_pos rfl] at hP3 ⊢
      have key2 : tOs c [o3] σ H3 fun vs H4 => match vs with
          | [w'] => r' w w' H4 Q
          | _ => False := by
        refine mA_read ok4 en3 (xw.step s4) hP3 fun vs H5 G5 F5 Fb zs ρ5 s5 ok5 dj5 en5 tr5 bk5 hP5 => ?_
        obtain ⟨sx, rfl, hlf, hop2⟩ := hP5
        obtain ⟨w', rfl, t5⟩ := trs1 tr5
        have t2' : TR c.K G5 H5 u w Fz := ((t2.leaf (F := Fz) hlf).step s3 dz).stay (s5.le) fun a o z => z.elim
        refine h' _ _ G5 H5 (Fu Fz Fb) _ _ (ok5.less fun a q => q.elim (fun z => z.elim) .inl) (.cons t2' tr5 fun a q => q.elim) hop2 fun z2 H6 ⟨G6, Fw, tz2, s6, ok6, tv6, hP6⟩ => ?_
        exact hQ z2 H6 (after_op (s4.trans s5) ok5 dj5 en5 tr5 bk5 s6 ok6 tv6 hP6)
      exact key2
  exact key
theorem et_chain {op op' : CmpOp} {r r' : R2} {q q' : OpT} (ho : OpR X (compareOp op) r) (hs : OpS X.K (r2L r) q) (ho' : OpR X (compareOp op') r') (hs' : OpS X.K (r2L r') q') (ha : EO X W a o1) (hb : EO X W b o2) (hc : EO X W c o3)
    (hm : lastMarks [op, op'] [b, c] = false := by with_unfolding_all rfl) : ET X W (.Compare a [op, op'] [b, c] pos) (tVal (mChain q q' o1 o2 o3)) := by
  refine PT_imp (pt_chain ho ho' ha hb hc hm) fun σ H Q h => ?_
  obtain ⟨G, F, ρ, P, EX, ok, en, xw, hm, hQ⟩ := h
  refine mChain_read (c := cw X W) hs hs' ⟨G, F, ρ, _, EX, ok, en, xw, hm, fun v H' ⟨G', F', Fv, t, ρ', s, ok', dj, en', tr, b, et, hP⟩ => ?_⟩
  subst et
  cases tr with
  | d h =>
    rw [DR] at h
    exact ⟨b, h, hQ b H' ⟨G', F', ρ', s.less fun a q => .inr q, ok'.less fun a q => .inr q, en', hP⟩⟩
end
end FA
set_option Elab.async false
set_option linter.all false
set_option maxRecDepth 100000
namespace FA
open PySem PySem.Spec PyProof.Rows L2

/-- a list or a tuple, walked -/
def iSeq (K : PySem.W.Frag) (tl : TE) : TI := fun σ H R => tl σ H fun x H1 => ∃ a, x = .ref a ∧ (((∃ xs, SqL K H1 a xs) ∧ R (Itl K a) H1) ∨ ((∃ xs, SqT K H1 a xs) ∧ R (Itt K a) H1))
theorem pi_seq {X : Cx} {tg l : Expr} {tl : TE} (hl : PE X l tl) : PI X tg l (iSeq X.K tl) := by
  refine ⟨fun pins s σ H R I h => thn (hl.run pins s σ H _ I h) fun v s1 ⟨x, H1, J, r1, a, e, q⟩ => ?_⟩
  subst e
  cases r1
  have fp : ∀ b ∈ [s1.heap.objs.size], FpOk X pins H1 b := fun b hb => by
    rw [List.mem_singleton.mp hb]
    exact J.fpOk (Nat.le_refl _) (J.hok.fresh (Nat.le_refl _))
  rcases q with ⟨⟨xs, hq⟩, q⟩ | ⟨⟨xs, hq⟩, q⟩
  · obtain ⟨its, rv, p, _⟩ := J.list hq
    exact wpAny_pyIter_list p.isList ⟨_, [s1.heap.objs.size], _, _, H1, rfl, J.kept (t' := s1.toks) (fun b o e => Heap.get?_push_of_some _ e), turn_list a _, ⟨_, Heap.get?_push_size _ rfl, rfl, rfl⟩, fp, q⟩
  · obtain ⟨its, rv, p, _⟩ := J.tuple hq
    exact wpAny_pyIter_tuple (show s1.heap.IsTuple a its.toArray from p) ⟨_, [s1.heap.objs.size], _, _, H1, rfl, J.kept (t' := s1.toks) (fun b o e => Heap.get?_push_of_some _ e), turn_tuple a _, ⟨_, Heap.get?_push_size _ rfl, rfl, rfl⟩, fp, q⟩
def miS (m : ME) : MI := fun ρ EX P => m ρ EX fun t ρ' => ∃ cs, t.kids = some cs ∧ P cs ρ'
theorem ij_seq {X : Cx} {W : WX} {e tg : Expr} {m : ME} (h : EJ X W e m) : IJ X W tg e (miS m) := by
  refine PI_imp (pi_seq h) fun σ H R ⟨G, F, ρ, P, EX, ok, en, xw, hm, hR⟩ => ?_
  refine ⟨G, F, ρ, _, EX, ok, en, xw, hm, fun v H' ⟨G', F', Fv, t, ρ', s, ok', dj, en', tr, cs, ek, hP⟩ => ?_⟩
  have ok1 : Ok G' H' F' := ok'.less fun a q => .inr q
  cases hl : t.isL with
  | true =>
    obtain ⟨a, vs, rfl, ha, na, trk⟩ := kids_l tr (ok'.less fun a q => .inl q) ok1 dj ek hl
    exact ⟨a, rfl, .inl ⟨⟨vs, ha⟩, hR _ H' G' F' cs ρ' (s.less fun a q => .inr q) ok1 en' (walks_l trk na) hP⟩⟩
  | false =>
    obtain ⟨a, vs, rfl, ha, trk⟩ := kids_t tr ek hl
    exact ⟨a, rfl, .inr ⟨⟨vs, Le.t ok1.le ha⟩, hR _ H' G' F' cs ρ' (s.less fun a q => .inr q) ok1 en' (walks_t trk ha ok1) hP⟩⟩

/-! ### built-in names -/
theorem b_len : bootBuiltins "len" = some (.builtin "len") := by decide +kernel
theorem b_min : bootBuiltins "min" = some (.builtin "min") := by decide +kernel
theorem b_max : bootBuiltins "max" = some (.builtin "max") := by decide +kernel
theorem b_sum : bootBuiltins "sum" = some (.builtin "sum") := by decide +kernel
theorem b_all : bootBuiltins "all" = some (.builtin "all") := by decide +kernel
theorem b_abs : bootBuiltins "abs" = some (.builtin "abs") := by decide +kernel
theorem b_sorted : bootBuiltins "sorted" = some (.builtin "sorted") := by decide +kernel
theorem b_isinstance : bootBuiltins "isinstance" = some (.builtin "isinstance") := by decide +kernel
theorem b_list : bootBuiltins "list" = some (.type "list") := by decide +kernel
theorem b_tuple : bootBuiltins "tuple" = some (.type "tuple") := by decide +kernel
theorem b_int : bootBuiltins "int" = some (.type "int") := by decide +kernel
theorem b_bool : bootBuiltins "bool" = some (.type "bool") := by decide +kernel
end FA
set_option Elab.async false
set_option linter.all false
set_option maxRecDepth 100000
namespace FA
open PySem PySem.Spec PyProof.Rows L2
abbrev Ref (sp : Spec) (n N : Nat) (m : MS) : Prop := ∀ ts EX Q, ts.length = n → (∀ t ∈ ts, t.leafy = true) → sp ts EX Q → m (startE N ts) (fun x _ => EX x) { nx := fun _ => Q (.d .none), rt := fun t _ => Q t }
/-! ### steps through a meaning, from the outside -/
section
variable {ρ ρ' : Env} {EX : EXk} {κ : Kt} {P : T → Env → Prop} {PB : Bool → Env → Prop} {PA : List T → Env → Prop} {PI : List T → Env → Prop} {PE : Env → Prop} {R : T → Prop} {a b : MS} {m m1 m2 : ME} {c c1 c2 : MT} {os : List Opd} {o o1 o2 : OpT} {i : Nat} {t u : T} {ts cs : List T} {sp : Spec}
def noO : List Opd → Bool
  | [] => true
  | .o _ :: _ => false
  | _ :: os => noO os
theorem back_no : ∀ {os : List Opd} {ts : List T}, noO os = true → back os ts ρ = ρ
  | [], ts, _ => by cases ts <;> rfl
  | .o _ :: _, _, h => by cases h
  | .b _ :: os, [], h => rfl
  | .e _ :: os, [], h => rfl
  | .b _ :: os, t :: ts, h => back_no (os := os) (ts := ts) h
  | .e _ :: os, t :: ts, h => back_no (os := os) (ts := ts) h
theorem x_seq (h : a ρ EX { κ with nx := fun ρ' => b ρ' EX κ }) : mSeq a b ρ EX κ := h
theorem x_next (h : κ.nx ρ) : mNext ρ EX κ := h
theorem x_kill {is : List Nat} (h : a (is.foldl (fun ρ i => ρ.set i none) ρ) EX κ) : mKill is a ρ EX κ := h
theorem x_ret (h : m ρ EX κ.rt) : mRet m ρ EX κ := h
theorem x_retN (h : κ.rt (.d .none) ρ) : mRetN ρ EX κ := h
theorem x_set (h : m ρ EX fun t ρ' => κ.nx (ρ'.set i (some t))) : mSet i m ρ EX κ := h
theorem x_drop (h : m ρ EX fun _ ρ' => κ.nx ρ') : mDrop m ρ EX κ := h
theorem x_ifS (h : c ρ EX fun x ρ' => if x = true then a ρ' EX κ else b ρ' EX κ) : mIfS c a b ρ EX κ := h
theorem x_if (h : c ρ EX fun x ρ' => if x = true then m1 ρ' EX P else m2 ρ' EX P) : mIf c m1 m2 ρ EX P := h
theorem x_ite {p : Prop} [Decidable p] {A B : Prop} (h1 : p → A) (h2 : ¬ p → B) : if decide p = true then A else B := by
  by_cases h : p
  · rw [if_pos (decide_eq_true h)]; exact h1 h
  · rw [if_neg (by simpa using h)]; exact h2 h
theorem x_iteT {A B : Prop} (h : A) : if true = true then A else B := by rw [if_pos rfl]; exact h
theorem x_iteF {A B : Prop} (h : B) : if false = true then A else B := by rw [if_neg Bool.false_ne_true]; exact h
theorem x_val (h : m ρ EX fun t ρ' => ∃ b, t = .d (.bool b) ∧ PB b ρ') : tVal m ρ EX PB := h
theorem x_tand (h : c1 ρ EX fun x ρ' => if x = true then c2 ρ' EX PB else PB false ρ') : tAndM c1 c2 ρ EX PB := h
theorem x_tor (h : c1 ρ EX fun x ρ' => if x = true then PB true ρ' else c2 ρ' EX PB) : tOrM c1 c2 ρ EX PB := h
theorem x_tnot (h : c ρ EX fun x ρ' => PB (!x) ρ') : tNotM c ρ EX PB := h
theorem x_and (h : m1 ρ EX fun t ρ' => ∃ x, t = .d (.bool x) ∧ if x = true then m2 ρ' EX P else P (.d (.bool false)) ρ') : mAnd m1 m2 ρ EX P := h
theorem x_or (h : m1 ρ EX fun t ρ' => ∃ x, t = .d (.bool x) ∧ if x = true then P (.d (.bool true)) ρ' else m2 ρ' EX P) : mOr m1 m2 ρ EX P := h
theorem x_not (h : m ρ EX fun t ρ' => ∃ x, t = .d (.bool x) ∧ P (.d (.bool (!x))) ρ') : mNot m ρ EX P := h
theorem x_bool {x : Bool} {A : Bool → Prop} (h : A x) : ∃ b, T.d (.bool x) = T.d (.bool b) ∧ A b := ⟨x, rfl, h⟩
theorem x_op (h : mA os ρ EX fun ts ρ' => o ts fun t => P t ρ') (hn : noO os = true := by rfl) : mOp o os ρ EX P := by
  show mA os ρ EX fun ts ρ' => o ts fun t => P t (back os ts ρ')
  rw [show (fun (ts : List T) (ρ' : Env) => o ts fun t => P t (back os ts ρ')) = fun ts ρ' => o ts fun t => P t ρ' from funext fun ts => funext fun ρ' => by rw [back_no hn]]
  exact h
theorem x_call (h : mA os ρ EX fun ts ρ' => ∃ us, fzs ts = some us ∧ sp us (fun x => EX x ρ') fun t => (leafys ts || t.closed) = true ∧ P t ρ') (hn : noO os = true := by rfl) : mCall sp os ρ EX P := by
  show mA os ρ EX fun ts ρ' => ∃ us, fzs ts = some us ∧ sp us (fun x => EX x (back os ts ρ')) fun t => (leafys ts || t.closed) = true ∧ P t (back os ts ρ')
  rw [show (fun (ts : List T) (ρ' : Env) => ∃ us, fzs ts = some us ∧ sp us (fun x => EX x (back os ts ρ')) fun t => (leafys ts || t.closed) = true ∧ P t (back os ts ρ')) = fun ts ρ' => ∃ us, fzs ts = some us ∧ sp us (fun x => EX x ρ') fun t => (leafys ts || t.closed) = true ∧ P t ρ' from funext fun ts => funext fun ρ' => by rw [back_no hn]]
  exact h
theorem x_lst (h : mA os ρ EX fun ts ρ' => ts.length ≤ sizeLine ∧ P (.nd .lst ts) ρ') : mLst os ρ EX P := h
theorem x_tup (h : mA os ρ EX fun ts ρ' => ts.length ≤ sizeLine ∧ ∃ ds, T.datas ts = some ds ∧ P (.d (.tuple ds)) ρ') : mTup os ρ EX P := h
theorem x_small {n : Nat} (h : n ≤ 16777216) : n ≤ sizeLine := by rw [sizeLine_eq]; exact h
theorem x_lt {n : Nat} (h : n < 16777216) : n < sizeLine := by rw [sizeLine_eq]; exact h
theorem x_A0 (h : PA [] ρ) : mA [] ρ EX PA := h
theorem x_Ae (h : m ρ EX fun t ρ1 => mA os ρ1 EX fun ts ρ2 => PA (t :: ts) ρ2) : mA (.e m :: os) ρ EX PA := h
theorem x_Ab (e : ρ[i]? = some (some t)) (hl : t.leafy = true) (h : mA os ρ EX fun ts ρ2 => PA (t :: ts) ρ2) : mA (.b i :: os) ρ EX PA := ⟨t, e, hl, h⟩
theorem x_Ao (e : ρ[i]? = some (some t)) (h : mA os (ρ.set i none) EX fun ts ρ2 => PA (t :: ts) ρ2) : mA (.o i :: os) ρ EX PA := ⟨t, e, h⟩
theorem x_var (e : ρ[i]? = some (some t)) (hl : t.leafy = true) (h : P t ρ) : mVar i ρ EX P := ⟨t, e, hl, h⟩
theorem x_mov (e : ρ[i]? = some (some t)) (h : P t (ρ.set i none)) : mMov i ρ EX P := ⟨t, e, h⟩
theorem x_C {x : PyData} (h : P (.d x) ρ) : mC x ρ EX P := h
theorem x_fz (h : m ρ EX fun t ρ' => ∃ u, t.fz = some u ∧ P u ρ') : mFz m ρ EX P := h
theorem x_I {f : Int → Int → PyData} {i j : Int} (h : R (.d (f i j))) : oI f [.d (.int i), .d (.int j)] R := h
theorem x_IC {f : Int → Int → PyData} {C : Int → Int → Prop} {i j : Int} (hc : C i j) (h : R (.d (f i j))) : oIC C f [.d (.int i), .d (.int j)] R := ⟨hc, h⟩
theorem x_add {i j : Int} (h : R (.d (.int (i + j)))) : oAddA [.d (.int i), .d (.int j)] R := h
theorem x_mul {i j : Int} (hc : CMulV i j) (h : R (.d (.int (i * j)))) : oMulA [.d (.int i), .d (.int j)] R := ⟨hc, h⟩
theorem x_neg {i : Int} (h : R (.d (.int (-i)))) : oNeg [.d (.int i)] R := h
theorem x_max {i j : Int} (h : R (.d (.int (max i j)))) : oMax [.d (.int i), .d (.int j)] R := by
  show R (.d (.int (if j > i then j else i)))
  have : (if j > i then j else i) = max i j := by split <;> omega
  rw [this]; exact h
theorem x_min {i j : Int} (h : R (.d (.int (min i j)))) : oMin [.d (.int i), .d (.int j)] R := by
  show R (.d (.int (if j < i then j else i)))
  have : (if j < i then j else i) = min i j := by split <;> omega
  rw [this]; exact h
theorem x_isN {neg : Bool} (h : R (.d (.bool (t.isN != neg)))) : oIsN neg [t, .d .none] R := h
theorem x_len {n : Nat} (h : R (.d (.int n))) (e : t.size = some n) : oLenA [t] R := by
  unfold oLenA
  split
  · rename_i z q
    cases q
    cases e
  · rename_i q
    cases q
    exact ⟨n, e, h⟩
  · rename_i q1 q2
    exact absurd rfl (q2 t)
theorem x_ix {i : Int} (cs : List T) (hk : t.kids = some cs) (he : atI cs i = some u) (h : R u) : oIxG [t, .d (.int i)] R := by
  unfold oIxG
  split
  · rename_i q
    cases q
    cases hk
  · rename_i q
    cases q
    exact ⟨cs, u, hk, he, h⟩
  · rename_i q1 q2
    exact absurd rfl (q2 t i)
theorem x_for {mi : MI} {g : Tg} {m : MS} (h : mi ρ EX fun cs ρ' => forM g m cs ρ' EX κ) : mFor mi g m ρ EX κ := h
theorem x_miS (h : m ρ EX fun t ρ' => ∃ cs, t.kids = some cs ∧ PI cs ρ') : miS m ρ EX PI := h
theorem x_r1 {o : Opd} (h : mA [o] ρ EX fun ts ρ' => ∃ j, ts = [.d (.int j)] ∧ -(2 ^ 62) ≤ j ∧ j < 2 ^ 62 ∧ PI (rngT 0 j.toNat) ρ') (hn : noO [o] = true := by rfl) : miR1 o ρ EX PI := by
  show mA [o] ρ EX fun ts ρ' => ∃ j, ts = [.d (.int j)] ∧ -(2 ^ 62) ≤ j ∧ j < 2 ^ 62 ∧ PI (rngT 0 j.toNat) (back [o] ts ρ')
  rw [show (fun (ts : List T) (ρ' : Env) => ∃ j, ts = [.d (.int j)] ∧ -(2 ^ 62) ≤ j ∧ j < 2 ^ 62 ∧ PI (rngT 0 j.toNat) (back [o] ts ρ')) = fun ts ρ' => ∃ j, ts = [.d (.int j)] ∧ -(2 ^ 62) ≤ j ∧ j < 2 ^ 62 ∧ PI (rngT 0 j.toNat) ρ' from funext fun ts => funext fun ρ' => by rw [back_no hn]]
  exact h
theorem x_r1' {j : Int} {A : Int → Prop} (h1 : -(2 ^ 62) ≤ j) (h2 : j < 2 ^ 62) (h : A j) : ∃ k : Int, [T.d (.int j)] = [.d (.int k)] ∧ -(2 ^ 62) ≤ k ∧ k < 2 ^ 62 ∧ A k := ⟨j, rfl, h1, h2, h⟩
theorem x_r2 {o o' : Opd} (h : mA [o, o'] ρ EX fun ts ρ' => ∃ i j, ts = [.d (.int i), .d (.int j)] ∧ (-(2 ^ 62) ≤ i ∧ i < 2 ^ 62 ∧ -(2 ^ 62) ≤ j ∧ j < 2 ^ 62) ∧ PI (rngT i (j - i).toNat) ρ') (hn : noO [o, o'] = true := by rfl) : miR2 o o' ρ EX PI := by
  show mA [o, o'] ρ EX fun ts ρ' => ∃ i j, ts = [.d (.int i), .d (.int j)] ∧ (-(2 ^ 62) ≤ i ∧ i < 2 ^ 62 ∧ -(2 ^ 62) ≤ j ∧ j < 2 ^ 62) ∧ PI (rngT i (j - i).toNat) (back [o, o'] ts ρ')
  rw [show (fun (ts : List T) (ρ' : Env) => ∃ i j, ts = [.d (.int i), .d (.int j)] ∧ (-(2 ^ 62) ≤ i ∧ i < 2 ^ 62 ∧ -(2 ^ 62) ≤ j ∧ j < 2 ^ 62) ∧ PI (rngT i (j - i).toNat) (back [o, o'] ts ρ')) = fun ts ρ' => ∃ i j, ts = [.d (.int i), .d (.int j)] ∧ (-(2 ^ 62) ≤ i ∧ i < 2 ^ 62 ∧ -(2 ^ 62) ≤ j ∧ j < 2 ^ 62) ∧ PI (rngT i (j - i).toNat) ρ' from funext fun ts => funext fun ρ' => by rw [back_no hn]]
  exact h
theorem x_r2' {i j : Int} {A : Int → Int → Prop} (hb : -(2 ^ 62) ≤ i ∧ i < 2 ^ 62 ∧ -(2 ^ 62) ≤ j ∧ j < 2 ^ 62) (h : A i j) : ∃ i' j' : Int, [T.d (.int i), T.d (.int j)] = [.d (.int i'), .d (.int j')] ∧ (-(2 ^ 62) ≤ i' ∧ i' < 2 ^ 62 ∧ -(2 ^ 62) ≤ j' ∧ j' < 2 ^ 62) ∧ A i' j' := ⟨i, j, rfl, hb, h⟩
theorem x_lc {mi : MI} {g : Tg} {vs : List Nat} (h : mi ρ EX fun cs ρ' => lcM g c m vs cs [] (killv vs ρ') P) : mLc mi g c m vs ρ EX P := h
theorem x_tn {P : Env → Prop} (h : P (ρ.set i (some t))) : tgA (.n i) t ρ P := by
  rw [tgA]; exact h
theorem x_tt2 {g1 g2 : Tg} {d1 d2 : PyData} (h : tgA g1 (.d d1) ρ fun ρ' => tgA g2 (.d d2) ρ' PE) : tgA (.t [g1, g2]) (.d (.tuple [d1, d2])) ρ PE := by
  rw [tgA]
  refine ⟨_, rfl, rfl, rfl, ?_⟩
  rw [List.map_cons, List.map_cons, List.map_nil, tgAs]
  refine ⟨_, _, rfl, ?_⟩
  rw [show (fun ρ' => tgAs [g2] [T.d d2] ρ' PE) = fun ρ' => tgA g2 (.d d2) ρ' PE from funext fun ρ' => by
    rw [tgAs]
    refine propext ⟨fun ⟨x, xs, e, h⟩ => ?_, fun h => ⟨_, _, rfl, ?_⟩⟩
    · cases e
      have e2 : (fun ρ' => tgAs [] [] ρ' PE) = PE := funext fun ρ' => by rw [tgAs]; exact propext ⟨fun h => h.2, fun h => ⟨rfl, h⟩⟩
      rw [e2] at h
      exact h
    · have e2 : (fun ρ' => tgAs [] [] ρ' PE) = PE := funext fun ρ' => by rw [tgAs]; exact propext ⟨fun h => h.2, fun h => ⟨rfl, h⟩⟩
      rw [e2]
      exact h]
  exact h
theorem x_app {cs0 : List T} (h : m ρ EX fun t ρ' => ∃ cs, ρ'[i]? = some (some (.nd .lst cs)) ∧ cs.length < sizeLine ∧ κ.nx (ρ'.set i (some (.nd .lst (cs ++ [t]))))) (e : ρ[i]? = some (some (.nd .lst cs0)) := by rfl) : mApp i m ρ EX κ := ⟨⟨cs0, e⟩, h⟩
end
end FA
set_option Elab.async false
set_option linter.all false
set_option maxRecDepth 100000
namespace FA
open PySem PySem.Spec PyProof.Rows L2

/-! ### isinstance of built-in classes -/
def T.tyN : T → Option String
  | .d .none => some "NoneType"
  | .d (.bool _) => some "bool"
  | .d (.int _) => some "int"
  | .d (.str _) => some "str"
  | .d (.list _) => some "list"
  | .d (.tuple _) => some "tuple"
  | .scr _ _ => some "list"
  | .nd .lst _ => some "list"
  | .nd (.lsa _) _ => some "list"
  | .nd (.dK _) _ => some "dict"
  | .nd (.dT _) _ => some "dict"
  | _ => none
section
variable {K : PySem.W.Frag} {G H : Hp} {F : Fp} {t : T} {v : V}
theorem tyx_rdL {a : Addr} {xs : List V} (h : Rd H a (.lst xs)) : TyX K H (.ref a) (.type "list") := by
  rcases h with h | ⟨o, h⟩
  · exact .base (.lst h)
  · exact .base (.frz h)
theorem tyx_t {a : Addr} {xs : List V} (h : SqT K H a xs) : TyX K H (.ref a) (.type "tuple") := by
  rcases h with (h | ⟨o, h⟩) | ⟨o, its, n, h, hc, _⟩
  · exact .base (.tup h)
  · exact .fTuple h
  · exact .kTuple h hc
theorem tyn_at {n : String} (tr : TR K G H t v F) (ok : Ok G H F) (e : t.tyN = some n) : TyX K H v (.type n) := by
  cases tr with
  | tok h => cases e
  | scr h =>
    cases e
    rcases ok.le.l h with h | ⟨o, its, n, h, hc, _⟩
    · exact tyx_rdL h
    · exact .kList h hc
  | d h =>
    rename_i x
    cases x with
    | none => cases e; rw [DR] at h; subst h; exact .base .non
    | bool b => cases e; rw [DR] at h; subst h; exact .base (.bl b)
    | int i => cases e; rw [DR] at h; subst h; exact .base (.int i)
    | str s => cases e; rw [DR] at h; subst h; exact .base (.str s)
    | list xs =>
      cases e
      rw [DR] at h
      obtain ⟨a, vs, rfl, h1, _⟩ := h
      exact .base (.lst (ok.le _ _ h1))
    | tuple xs =>
      cases e
      rw [DR] at h
      obtain ⟨a, vs, rfl, h1, _⟩ := h
      exact tyx_t (.of (ok.le _ _ h1))
    | dict kvs => cases e
  | @nd k cs a vs F fs h1 h2 h3 h4 h5 h6 h7 =>
    cases k with
    | lst => cases e; exact .base (.lst h1)
    | lsa b => cases e; exact .base (.lst h1.2)
    | dK ks => cases e; exact .base (.dK h1.2)
    | dT ks => cases e; exact .base (.dT h1.2)
    | ins b C fs => cases e
end
/-- what isinstance says of a tree and a built-in class -/
def T.isB (t : T) (b : String) : Option Bool := match t with
  | .tok (.any ns) _ => ns.lookup b
  | t => t.tyN.bind fun n => kitB n b
theorem isB_ty {t : T} {n b : String} {r : Bool} (e : t.tyN = some n) (k : kitB n b = some r) : t.isB b = some r := by
  unfold T.isB
  split
  · cases e
  · rw [e]; exact k
theorem isB_at {K : PySem.W.Frag} {G H : Hp} {F : Fp} {t : T} {v : V} {b : String} {r : Bool} (tr : TR K G H t v F) (ok : Ok G H F) (e : t.isB b = some r) : ∃ u, TyX K H v u ∧ PySem.W.kitOne K u (.type b) = some r := by
  unfold T.isB at e
  split at e
  · rename_i ns a
    cases tr with
    | tok tk =>
      obtain ⟨u, h1, h2⟩ := tk
      have hm : ∀ {l : List (String × Bool)}, l.lookup b = some r → (b, r) ∈ l := by
        intro l
        induction l with
        | nil => intro z; cases z
        | cons p l ih =>
          intro z
          rw [List.lookup_cons] at z
          cases q : b == p.1 with
          | true =>
            rw [q] at z
            cases z
            rw [eq_of_beq q]
            exact List.mem_cons_self
          | false =>
            rw [q] at z
            exact List.mem_cons_of_mem _ (ih z)
      exact ⟨u, h1 H ok.le, h2 (b, r) (hm e)⟩
  · obtain ⟨n, e1, e2⟩ := Option.bind_eq_some_iff.mp e
    exact ⟨_, tyn_at tr ok e1, kit_ty e2⟩
def oIsi (b : String) : OpT := fun ts P => ∃ t r, ts = [t] ∧ t.isB b = some r ∧ P (.d (.bool r))
section
variable {X : Cx} {W : WX} {e : Expr} {o : Opd} {pos p p2 p3 p4 tpos : Pos} {k : Nat}
theorem oIsi_S {K : PySem.W.Frag} {b : String} : OpS K (fun vs H Q => match vs with | [x] => rIsi K [x, .ty b] H Q | _ => False) (oIsi b) := by
  intro ts vs G H F P Q ok tr ⟨t, r, e, ek, hP⟩ hQ
  subst e
  obtain ⟨v, rfl, h1⟩ := trs1 tr
  obtain ⟨u, ty, kk⟩ := isB_at h1 ok ek
  exact ⟨v, .ty b, u, .type b, r, rfl, .ty b, ty, kk, hQ _ _ (res_bool ok hP)⟩
theorem ej_isi (b : Str) {bn : String} (ho : EO X W e o) (hm : X.mg "isinstance" = none) (hb : X.mg b = none) (hv : bootBuiltins b = some (.type bn)) (hg : Gl X "isinstance" := by rfl) (hgb : Gl X b := by rfl) (hn : b ≠ "__name__" := by decide +kernel) (hd : (b == ("__debug__" : Str)) = false := by decide +kernel)
    (hs : starEach [e, .Name b p2] X.env = (false, eval e X.env) :: starEach [.Name b p2] X.env := by rfl) (hpl : (backTo pos (starEach [.Name b p2] X.env)).any (·.1) = false := by rfl) : EJ X W (.Call (.Name "isinstance" p) [e, .Name b p2] [] pos) (mOp (oIsi bn) [o]) :=
  PE_imp (pe_callB call_isi hg hm b_isinstance (pa_cons ho (pa_cons (pe_bltn (v := .ty bn) hgb hb hv rfl hn hd) pa_nil) hs) (he := hs) (hpl := hpl)) fun σ H Q h => mOp_read (c := cw X W) oIsi_S h
end

/-! ### calls with keywords -/
section
variable {K : PySem.W.Frag} {G H : Hp} {ts : List T} {vs : List V}
end
section
variable {X : Cx} {W : WX} {sp : Spec} {n : Nat} {os : List Opd} {is : List Nat}
end
end FA
set_option Elab.async false
set_option linter.all false
set_option maxRecDepth 100000
namespace FA
open PySem PySem.Spec PyProof.Rows L2

/-! ### defs that change their first argument -/
abbrev SpecI := T → List T → (Exc → T → Prop) → (T → T → Prop) → Prop
def spI (K : PySem.W.Frag) (mg : Str → Option Value) (n : Nat) (sp : SpecI) : Sp := fun vs H Q E => ∃ G F t ts v vr P EX, vs = v :: vr ∧ Ok G H F ∧ TR K G H t v F ∧ ts.length + 1 = n ∧ (∀ t ∈ ts, t.leafy = true) ∧ TRs K G H ts vr Fz ∧ sp t ts EX P ∧
  (∀ r H', (∃ G' Fr F' u t', Step G H F G' H' (Fu Fr F') ∧ Ok G' H' (Fu Fr F') ∧ Dj Fr F' ∧ TR K G' H' u r Fr ∧ TR K G' H' t' v F' ∧ P u t') → Q r H') ∧
  ∀ x cls d G' H' F' t', EX x t' → Step G H F G' H' F' → Ok G' H' F' → TR K G' H' t' v F' → XR mg x cls d H' → E cls d H'
def mCallI (sp : SpecI) (i : Nat) (os : List Opd) : ME := fun ρ EX P => (∃ t0, ρ[i]? = some (some t0)) ∧ noO os = true ∧ mA os ρ EX fun ts ρ1 => ∃ t, ρ1[i]? = some (some t) ∧ leafys ts = true ∧ sp t ts (fun x t' => EX x (ρ1.set i (some t'))) fun u t' => P u (ρ1.set i (some t'))
def T.adr : T → Option Addr
  | .tok _ a => some a
  | .nd (.lsa a) _ => some a
  | .nd (.ins a _ _) _ => some a
  | _ => none
theorem adr_at {K : PySem.W.Frag} {G H : Hp} {F : Fp} {t : T} {v : V} {a : Addr} (h : TR K G H t v F) (e : t.adr = some a) : v = .ref a := by
  cases h with
  | d h => cases e
  | tok h => cases e; rfl
  | scr h => cases e
  | @nd k cs b vs F fs h1 h2 h3 h4 h5 h6 h7 =>
    cases k with
    | lsa c => cases e; rw [h1.1]
    | ins c C fs => cases e; rw [h1.1]
    | _ => cases e
section
variable {c : Cw} {G H G' H' G2 H2 : Hp} {F F' F2 A B : Fp} {ρ : Env} {EX : EXk} {os : List Opd} {Q : VK} {sp : SpecI} {n i : Nat}
theorem mCallI_read {σ : L2.St} {H : Hp} (hn : os.length + 1 = n) (q : tG c (mCallI sp i os) σ H Q) : tOs c (.o i :: os) σ H fun vs H' => spI c.K c.mg n sp vs H' Q (WE c.W σ) := by
  obtain ⟨G, F, ρ, P, EX, ok, en, xw, ⟨⟨t0, e0⟩, hno, hm⟩, hQ⟩ := q
  obtain ⟨v, _, _, ev, _⟩ := en.take e0
  refine ⟨v, ev, ?_⟩
  refine mA_read ok en xw hm fun vs H1 G1 F1 Fa ts ρ1 s1 ok1 dj en1 tr bk hP => ?_
  obtain ⟨t, et, hl, hs⟩ := hP
  obtain ⟨v', A, B, ev', trt, enB, dAB, hA, hB⟩ := en1.take et
  rw [ev] at ev'
  cases ev'
  have okF1 : Ok G1 H1 F1 := ok1.less fun a q => .inr q
  have okA : Ok G1 H1 A := okF1.less hA
  have okB : Ok G1 H1 B := okF1.less hB
  have s1F : Step G H F G1 H1 F1 := s1.less fun a q => .inr q
  have trz : TRs c.K G1 H1 ts vs Fz := by
    obtain ⟨l2, fs, h1, h2, h3⟩ := tr
    refine ⟨l2, fun _ => Fz, fun i t v e1 e2 => (h1 i t v e1 e2).leaf ?_, fun _ _ _ z => z.elim, fun _ _ z => z⟩
    unfold leafys at hl
    exact List.all_eq_true.mp hl t (List.mem_of_getElem? e1)
  have dBA : Dj B A := fun a p q => dAB a q p
  refine ⟨G1, A, t, ts, v, vs, _, _, rfl, okA, trt, by rw [tr.len, ← (Bk_len bk), hn], fun t q => ?_, trz, hs, fun r H3 ⟨G3, Fr, A3, u, t', s3, ok3, dj3, tu, tt, hP3⟩ => ?_, fun x cls d G3 H3 A3 t' hx s3 ok3 tt xr => ?_⟩
  · unfold leafys at hl
    exact List.all_eq_true.mp hl t q
  · have apB : Dj B (Fu Fr A3) := s3.apart okB dBA
    have enB3 := enB.step s3 dBA
    have en3 := enB3.put ev tt fun a p q => apB a q (.inr p)
    rw [List.set_set] at en3
    have s4 : Step G H F G3 H3 (Fu B (Fu Fr A3)) := s1F.trans ((s3.frame (A := B)).wide fun a q => q.elim (hB a) (hA a))
    have ok4 := s3.okA okB dBA ok3
    refine hQ r H3 ⟨G3, Fu A3 B, Fr, u, _, s4.less fun a q => ?_, ok4.less fun a q => ?_, fun a p q => ?_, en3, tu, hP3⟩
    · rcases q with q | q | q
      · exact .inr (.inl q)
      · exact .inr (.inr q)
      · exact .inl q
    · rcases q with q | q | q
      · exact .inr (.inl q)
      · exact .inr (.inr q)
      · exact .inl q
    · rcases q with q | q
      · exact dj3 a p q
      · exact apB a q (.inl p)
  · have apB : Dj B A3 := s3.apart okB dBA
    have enB3 := enB.step s3 dBA
    have en3 := enB3.put ev tt fun a p q => apB a q p
    rw [List.set_set] at en3
    have s4 : Step G H F G3 H3 (Fu B A3) := s1F.trans ((s3.frame (A := B)).wide fun a q => q.elim (hB a) (hA a))
    have ok4 := s3.okA okB dBA ok3
    exact xw x _ cls d G3 H3 (Fu A3 B) hx (s4.less fun a q => q.elim .inr .inl) (ok4.less fun a q => q.elim .inr .inl) en3 xr
end
section
variable {X : Cx} {W : WX} {e : Expr} {pos : Pos}
theorem ej_callI {x y : Str} {p py : Pos} {es : List Expr} {os : List Opd} {i k n : Nat} {f : Addr} {fd : FuncData} {ps : List Str} {sp : SpecI} (F : FnOk X.prog X.w X.K X.mg X.base (L2.CX X.prog X.w) k f fd ps (spI X.K X.mg n sp)) (hr : Room k X.A) (hm : X.mg x = some (.ref f)) (hk : PySem.W.keepIn X.K (.ref f) = true) (hb : Binds X.K fd ps [])
    (tk : Takes X W) (hg : Gl X x) (ha : EAs X W (.Name y py :: es) (.o i :: os)) (hn : os.length + 1 = n := by rfl) (hdb : (x == ("__debug__" : Str)) = false := by decide +kernel) (he : starEach (.Name y py :: es) X.env = (false, eval (.Name y py) X.env) :: starEach es X.env := by rfl) (hpl : (backTo pos (starEach es X.env)).any (·.1) = false := by rfl) :
    EJ X W (.Call (.Name x p) (.Name y py :: es) [] pos) (mCallI sp i os) :=
  PE_imp (pe_callS F hr hg hm hk hb (fun σ => passAt tk σ) ha hdb he hpl) fun σ H Q h => mCallI_read (c := cw X W) hn h
end
section
variable {P : Program} {w : World} {K : PySem.W.Frag} {mg : Str → Option Value} {base : Heap}
def ktI (Q : T → T → Prop) (a : Addr) : Kt := { nx := fun ρ => ∃ t', ρ[0]? = some (some t') ∧ t'.adr = some a ∧ Q (.d .none) t', rt := fun u ρ => ∃ t', ρ[0]? = some (some t') ∧ t'.adr = some a ∧ Q u t' }
def exI (EX : Exc → T → Prop) (a : Addr) : EXk := fun x ρ => ∃ t', ρ[0]? = some (some t') ∧ t'.adr = some a ∧ EX x t'
theorem def_okI {x qual : Str} {st : Stmt} {f : Addr} {fd : FuncData} {N ps : List Str} {k n : Nat} {sp : SpecI} {m : MS} (Fn : Fun K x qual st f fd) (S : FnScope N ps (defScope st)) (hn : ps.length = n)
    (hm : ∀ (cdv : Value) (A : Around) (outer : List PySem.Env) (s : Shared) (H : Hp) (E : XK), Room k (A.deeper (envOfC qual (defScope st) s.heap.objs.size f cdv)) →
      Takes (cxOf (L2.CX P w) P w K mg base N qual (defScope st) f cdv A outer s H E) (WD E) → SJs (cxOf (L2.CX P w) P w K mg base N qual (defScope st) f cdv A outer s H E) (WD E) (defBody st) m)
    (hs : ∀ t ts EX Q, ts.length + 1 = n → (∀ t ∈ ts, t.leafy = true) → sp t ts EX Q → ∃ a, t.adr = some a ∧ m (startE N.length (t :: ts)) (exI EX a) (ktI Q a)) :
    FnOk P w K mg base (L2.CX P w) (k + 1) f fd ps (spI K mg n sp) := by
  refine Fn.okX S (fun vs H Q E ⟨G, F, t, ts, v, vr, _, _, e, _, _, hl, _, tr, _⟩ => by rw [hn, ← hl, e, List.length_cons, tr.len]) fun cdv A outer s H vs Q E hr ⟨G, F, t, ts, v, vr, Pd, EX, e, ok, trt, hl, hlf, tr, h, hQ, hX⟩ => ?_
  subst e
  have tk : Takes (cxOf (L2.CX P w) P w K mg base N qual (defScope st) f cdv A outer s H E) (WD E) := takes_of rfl rfl rfl rfl
  obtain ⟨a, ea, hm'⟩ := hs t ts EX Pd hl hlf h
  have ev := adr_at trt ea
  subst ev
  refine ⟨_, hm cdv A outer s H E hr tk, ?_⟩
  have st0 : EnvR K G H (L2.start N (.ref a :: vr)) (startE N.length (t :: ts)) F := (start_ok (TRs.cons trt tr fun a q => fun z => z)).mono fun a q => q.elim id fun z => z.elim
  refine ⟨G, F, _, _, _, ok, st0, fun σ y ρ' cls d G' H' F' hx s' ok' en' xr => ?_, hm', ⟨fun σ' H' ⟨G', F', ρ', s', ok', en', hP⟩ => ?_, fun r H' ⟨G', Fv, F', u, ρ', σ', s', ok', dj', en', tv, hP⟩ => ?_, fun σ' H' ⟨_, _, _, _, _, _, z⟩ => z.elim, fun σ' H' ⟨_, _, _, _, _, _, z⟩ => z.elim⟩⟩
  · obtain ⟨t', e', ea', hx⟩ := hx
    obtain ⟨v', A', B', ev', tr', _, _, hA', _⟩ := en'.take e'
    have := adr_at tr' ea'
    subst this
    exact hX y cls d G' H' F' t' hx s' ok' (tr'.mono hA') xr
  · obtain ⟨t', e', ea', hx⟩ := hP
    obtain ⟨v', A', B', ev', tr', _, _, hA', _⟩ := en'.take e'
    have := adr_at tr' ea'
    subst this
    exact hQ _ _ ⟨G', Fz, F', _, t', s'.less fun a q => q.elim (fun z => z.elim) id, ok'.less fun a q => q.elim (fun z => z.elim) id, fun a q => q.elim, .d (by rw [DR]), tr'.mono hA', hx⟩
  · obtain ⟨t', e', ea', hx⟩ := hP
    obtain ⟨v', A', B', ev', tr', _, _, hA', _⟩ := en'.take e'
    have := adr_at tr' ea'
    subst this
    exact hQ _ _ ⟨G', Fv, F', u, t', s', ok', dj', tv, tr'.mono hA', hx⟩
end
end FA
set_option Elab.async false
set_option linter.all false
set_option maxRecDepth 100000
namespace FA
open PySem PySem.Spec PyProof.Rows L2

/-! ### places inside a tree -/
def atP : List Nat → T → Option T
  | [], t => some t
  | i :: p, .nd k cs => if k.isLst = true then (cs[i]?).bind (atP p) else none
  | _ :: _, _ => none
def updP : List Nat → T → T → T
  | [], _, u => u
  | i :: p, .nd k cs, u => .nd k (match cs[i]? with
    | some c => cs.set i (updP p c u)
    | none => cs)
  | _ :: _, t, _ => t
def VA (H : Hp) : List Nat → V → V → Prop
  | [], v0, v => v = v0
  | i :: p, v0, v => ∃ a vs w, v0 = .ref a ∧ H a = some (.lst vs) ∧ vs[i]? = some w ∧ VA H p w v
theorem VA.one {H : Hp} : ∀ {p : List Nat} {v0 v w : V}, VA H p v0 v → VA H p v0 w → v = w
  | [], _, _, _, h, h' => h.trans h'.symm
  | i :: p, _, _, _, ⟨a, vs, x, e1, e2, e3, h⟩, ⟨b, ws, y, f1, f2, f3, h'⟩ => by
    rw [e1] at f1
    cases f1
    rw [e2] at f2
    cases f2
    rw [e3] at f3
    cases f3
    exact VA.one (p := p) h h'
theorem VA.snoc {H : Hp} {i : Nat} {a : Addr} {vs : List V} {w : V} : ∀ {p : List Nat} {v0 : V}, VA H p v0 (.ref a) → H a = some (.lst vs) → vs[i]? = some w → VA H (p ++ [i]) v0 w
  | [], _, e, h1, h2 => ⟨a, vs, w, e.symm, h1, h2, rfl⟩
  | j :: p, _, ⟨b, ws, x, e1, e2, e3, h⟩, h1, h2 => ⟨b, ws, x, e1, e2, e3, VA.snoc (p := p) h h1 h2⟩
theorem VA.step {G H G' H' : Hp} {F F' : Fp} {K : PySem.W.Frag} (s : Step G H F G' H' F') : ∀ {p : List Nat} {t u : T} {v0 v : V} {A : Fp}, TR K G H t v0 A → Dj A F → atP p t = some u → VA H p v0 v → VA H' p v0 v
  | [], _, _, _, _, _, _, _, _, h => h
  | i :: p, .nd k cs, u, v0, v, A, tr, d, e, ⟨a, vs, x, e1, e2, e3, h⟩ => by
    rw [atP] at e
    split at e
    · rename_i hk
      cases tr with
      | @nd k cs a' vs' F fs h1 h2 h3 h4 h5 h6 h7 =>
        cases e1
        have h1' := h1.lst hk
        rw [e2] at h1'
        cases h1'
        cases ec : cs[i]? with
        | none => rw [ec] at e; cases e
        | some c =>
          rw [ec] at e
          exact ⟨a, vs, x, rfl, s.fr a _ (fun z => d a h7 z) e2, e3, VA.step s (h3 i c x ec e3) (fun b p q => d b (h5 i b p) q) e h⟩
    · cases e
  | _ :: _, .d _, _, _, _, _, _, _, e, _ => by cases e
  | _ :: _, .tok _ _, _, _, _, _, _, _, e, _ => by cases e
  | _ :: _, .scr _ _, _, _, _, _, _, _, e, _ => by cases e
/-- a place in focus -/
theorem focus {K : PySem.W.Frag} {G H : Hp} : ∀ {p : List Nat} {t u : T} {v0 : V} {F : Fp}, TR K G H t v0 F → atP p t = some u → ∃ v A, VA H p v0 v ∧ TR K G H u v A ∧ (∀ a, A a → F a) ∧
    ∀ G' H' u' A', Le G G' → (∀ a o, F a → ¬ A a → H a = some o → H' a = some o) → TR K G' H' u' v A' → (∀ a, A' a → F a → A a) → TR K G' H' (updP p t u') v0 fun a => A' a ∨ (F a ∧ ¬ A a)
  | [], t, u, v0, F, tr, e => by
    cases e
    exact ⟨v0, F, rfl, tr, fun _ h => h, fun G' H' u' A' _ _ h _ => h.mono fun a q => .inl q⟩
  | i :: p, .nd k cs, u, v0, F, tr, e => by
    rw [atP] at e
    split at e
    · rename_i hk
      cases tr with
      | @nd k cs a vs F fs h1 h2 h3 h4 h5 h6 h7 =>
        cases ec : cs[i]? with
        | none => rw [ec] at e; cases e
        | some c =>
          rw [ec] at e
          have hi : i < vs.length := by
            rw [← h2]
            exact (List.getElem?_eq_some_iff.mp ec).1
          have ev : vs[i]? = some vs[i] := List.getElem?_eq_getElem hi
          obtain ⟨v, A, va, tu, hA, re⟩ := focus (p := p) (h3 i c _ ec ev) e
          refine ⟨v, A, ⟨a, vs, _, rfl, h1.lst hk, ev, va⟩, tu, fun b q => h5 i b (hA b q), fun G' H' u' A' hG hH hu hd => ?_⟩
          have ht := re G' H' u' A' hG (fun b o q n e => hH b o (h5 i b q) n e) hu fun b q z => hd b q (h5 i b z)
          rw [updP]
          simp only [ec]
          have nA : ¬ A a := fun q => h6 i (hA a q)
          have nA' : ¬ A' a := fun q => nA (hd a q h7)
          refine .nd (fun j b => (j = i ∧ (A' b ∨ (fs i b ∧ ¬ A b))) ∨ (j ≠ i ∧ fs j b)) ?_ (by rw [List.length_set]; exact h2) (fun j c' w e1 e2 => ?_) (fun j l b q r => ?_) (fun j b q => ?_) (fun j q => ?_) (.inr ⟨h7, nA⟩)
          · have st : ∀ o, H a = some o → H' a = some o := fun o q => hH a o h7 nA q
            cases k with
            | lst => exact st _ h1
            | lsa b => exact ⟨h1.1, st _ h1.2⟩
            | _ => cases hk
          · by_cases hj : j = i
            · subst hj
              rw [List.getElem?_set_self (by rw [h2]; exact hi)] at e1
              cases e1
              rw [ev] at e2
              cases e2
              exact ht.mono fun b q => .inl ⟨rfl, q⟩
            · rw [List.getElem?_set_ne (Ne.symm hj)] at e1
              refine ((h3 j c' w e1 e2).stay hG fun b o q e => hH b o (h5 j b q) (fun z => hj (h4 _ _ b q (hA b z))) e).mono fun b q => .inr ⟨hj, q⟩
          · have key : ∀ l, l ≠ i → fs l b → (A' b ∨ (fs i b ∧ ¬ A b)) → False := fun l hl q r => by
              rcases r with r | ⟨r, _⟩
              · exact hl (h4 _ _ b q (hA b (hd b r (h5 l b q))))
              · exact hl (h4 _ _ b q r)
            rcases q with ⟨q1, q2⟩ | ⟨q1, q2⟩ <;> rcases r with ⟨r1, r2⟩ | ⟨r1, r2⟩
            · rw [q1, r1]
            · exact (key l r1 r2 q2).elim
            · exact (key j q1 q2 r2).elim
            · exact h4 j l b q2 r2
          · rcases q with ⟨_, q | ⟨q, n⟩⟩ | ⟨hj, q⟩
            · exact .inl q
            · exact .inr ⟨h5 i b q, n⟩
            · exact .inr ⟨h5 j b q, fun z => hj (h4 _ _ b q (hA b z))⟩
          · rcases q with ⟨_, q | ⟨q, n⟩⟩ | ⟨_, q⟩
            · exact nA' q
            · exact h6 i q
            · exact h6 j q
    · cases e
  | _ :: _, .d _, _, _, _, _, e => by cases e
  | _ :: _, .tok _ _, _, _, _, _, e => by cases e
  | _ :: _, .scr _ _, _, _, _, _, e => by cases e
theorem focus_at {K : PySem.W.Frag} {G H : Hp} {p : List Nat} {t u : T} {v0 v : V} {F : Fp} (tr : TR K G H t v0 F) (e : atP p t = some u) (va : VA H p v0 v) : ∃ A, TR K G H u v A ∧ (∀ a, A a → F a) ∧
    ∀ G' H' u' A', Le G G' → (∀ a o, F a → ¬ A a → H a = some o → H' a = some o) → TR K G' H' u' v A' → (∀ a, A' a → F a → A a) → TR K G' H' (updP p t u') v0 fun a => A' a ∨ (F a ∧ ¬ A a) := by
  obtain ⟨w, A, vb, h⟩ := focus tr e
  have := vb.one va
  subst this
  exact ⟨A, h⟩

/-! ### expressions that stand for a place in the tree at a slot -/
abbrev MB := Env → EXk → (T → List Nat → Env → Prop) → Prop
section
variable (c : Cw)
def ResB (i : Nat) (G H : Hp) (F : Fp) (σ : L2.St) (P : T → List Nat → Env → Prop) (v : V) (H' : Hp) : Prop :=
  ∃ G' F' A t p u v0 ρ', Step G H F G' H' (Fu A F') ∧ Ok G' H' (Fu A F') ∧ Dj A F' ∧ EnvR c.K G' H' σ ρ' F' ∧ σ[i]? = some (some v0) ∧ TR c.K G' H' t v0 A ∧ atP p t = some u ∧ VA H' p v0 v ∧ P t p ρ'
def tB (i : Nat) (m : MB) : TE := fun σ H Q => ∃ G F ρ P EX, Ok G H F ∧ EnvR c.K G H σ ρ F ∧ XW c EX G H F σ ∧ m ρ EX P ∧ ∀ v H', ResB c i G H F σ P v H' → Q v H'
end
abbrev EB (X : Cx) (W : WX) (i : Nat) (e : Expr) (m : MB) : Prop := PE X e (tB (cw X W) i m)
def bVar (i : Nat) : MB := fun ρ _ P => ∃ t, ρ[i]? = some (some t) ∧ P t [] (ρ.set i none)
def bIx (mb : MB) (mk : ME) : MB := fun ρ EX P => mb ρ EX fun t p ρ1 => mk ρ1 EX fun k ρ2 => ∃ j kd cs q, k = .d (.int j) ∧ atP p t = some (.nd kd cs) ∧ kd.isLst = true ∧ ixN cs.length j = some q ∧ P t (p ++ [q]) ρ2
def mRd (i : Nat) (mb : MB) : ME := fun ρ EX P => mb ρ EX fun t p ρ' => ∃ u, atP p t = some u ∧ u.leafy = true ∧ P u (ρ'.set i (some t))
def mSetP (i : Nat) (mb : MB) (mk m : ME) : MS := fun ρ EX κ => m ρ EX fun t ρ1 => mb ρ1 EX fun t0 p ρ2 => mk ρ2 EX fun k ρ3 => ∃ j kd cs q, k = .d (.int j) ∧ atP p t0 = some (.nd kd cs) ∧ kd.isLst = true ∧ ixN cs.length j = some q ∧ κ.nx (ρ3.set i (some (updP p t0 (.nd kd (cs.set q t)))))
theorem ixN_lt {n : Nat} {j : Int} {q : Nat} (h : ixN n j = some q) : q < n := by
  obtain ⟨_, h4, _⟩ := ixN_seq h
  exact h4
section
variable {X : Cx} {W : WX} {e k a b : Expr} {m mk : ME} {mb : MB} {pos pos' : Pos} {x : Str} {i : Nat}
theorem eb_var (i : Nat) {x : Str} {pos : Pos} (hN : X.N[i]? = some x := by rfl) (hv : Vis X.env.scope x := by first | exact Or.inl rfl | exact Or.inr (Or.inl rfl) | exact Or.inr (Or.inr rfl)) (hd : (x == ("__debug__" : Str)) = false := by decide +kernel)
    (hcd : (x == ("__classdict__" : Str)) = false := by decide +kernel) : EB X W i (.Name x pos) (bVar i) := by
  refine PE_imp (pe_var hN hv hd hcd) fun σ H Q ⟨G, F, ρ, P, EX, ok, en, xw, ⟨t, e1, hP⟩, hQ⟩ => ?_
  obtain ⟨v, A, B, ev, tr, enB, dAB, hA, hB⟩ := en.take e1
  exact ⟨v, ev, hQ v H ⟨G, B, A, t, [], t, v, _, Step.refl.less fun a q => q.elim (hA a) (hB a), ok.less fun a q => q.elim (hA a) (hB a), dAB, enB, ev, tr, rfl, rfl, hP⟩⟩
theorem atP_snoc {kd : Kd} {cs : List T} {q : Nat} {u : T} (hk : kd.isLst = true) (e : cs[q]? = some u) : ∀ {p : List Nat} {t : T}, atP p t = some (.nd kd cs) → atP (p ++ [q]) t = some u
  | [], t, h => by
    cases h
    show (if kd.isLst = true then (cs[q]?).bind (atP []) else none) = some u
    rw [if_pos hk, e]
    rfl
  | i :: p, .nd k ds, h => by
    rw [atP] at h
    rw [List.cons_append, atP]
    split at h
    · rename_i hk2
      rw [if_pos hk2]
      cases ec : ds[i]? with
      | none => rw [ec] at h; cases h
      | some c =>
        rw [ec] at h
        exact atP_snoc (p := p) hk e h
    · cases h
  | _ :: _, .d _, h => by cases h
  | _ :: _, .tok _ _, h => by cases h
  | _ :: _, .scr _ _, h => by cases h
theorem eb_ix (hb : EB X W i a mb) (hk : EJ X W b mk) (hs : PlainIx b := by exact fun _ _ => rfl) : EB X W i (.Subscript a b pos) (bIx mb mk) := by
  refine PE_imp (pe_ix ix_list hb hk hs) fun σ H Q ⟨G, F, ρ, P, EX, ok, en, xw, hm, hQ⟩ => ?_
  refine ⟨G, F, ρ, _, EX, ok, en, xw, hm, fun v H1 ⟨G1, F1, A, t, p, u, v0, ρ1, s1, ok1, dj1, en1, ev, tr, et, va, hk1⟩ => ?_⟩
  have ok1' : Ok G1 H1 F1 := ok1.less fun a q => .inr q
  have okA : Ok G1 H1 A := ok1.less fun a q => .inl q
  have s1' : Step G H F G1 H1 F1 := s1.less fun a q => .inr q
  refine ⟨G1, F1, ρ1, _, EX, ok1', en1, xw.step s1', hk1, fun w H2 ⟨G2, F2, Fv, kt, ρ2, s2, ok2, dj2, en2, trk, j, kd, cs, q, ek, ea, hkd, hq, hP⟩ => ?_⟩
  subst ek
  have ew := trk.int
  subst ew
  have tr2 := tr.step s2 dj1
  have va2 := VA.step s2 tr dj1 et va
  obtain ⟨A2, tu, hA2, _⟩ := focus_at tr2 ea va2
  cases tu with
  | @nd _ _ l vs _ fs h1 h2 h3 h4 h5 h6 h7 =>
    have hl := h1.lst hkd
    have hq' : q < cs.length := ixN_lt hq
    have eq1 : cs[q]? = some cs[q] := List.getElem?_eq_getElem hq'
    obtain ⟨w0, eq2⟩ : ∃ w0, vs[q]? = some w0 := ⟨_, List.getElem?_eq_getElem (by omega)⟩
    refine ⟨l, vs, j, w0, rfl, rfl, .of hl, ?_, hQ _ _ ?_⟩
    · unfold atI
      rw [← h2, hq]
      exact eq2
    · have ap : Dj A (Fu Fv F2) := s2.apart okA dj1
      have ok3 := s2.okA okA dj1 ok2
      refine ⟨G2, F2, A, t, p ++ [q], cs[q], v0, ρ2, (s1.trans (s2.frame)).less fun a z => ?_, ok3.less fun a z => ?_, fun a y z => ap a y (.inr z), en2, ev, tr2, atP_snoc hkd eq1 ea, va2.snoc hl eq2, hP⟩
      · exact z.elim .inl fun z => .inr (.inr z)
      · exact z.elim .inl fun z => .inr (.inr z)
theorem ej_rd (hb : EB X W i e mb) : EJ X W e (mRd i mb) := by
  refine PE_imp hb fun σ H Q ⟨G, F, ρ, P, EX, ok, en, xw, hm, hQ⟩ => ?_
  refine ⟨G, F, ρ, _, EX, ok, en, xw, hm, fun v H1 ⟨G1, F1, A, t, p, u, v0, ρ1, s1, ok1, dj1, en1, ev, tr, et, va, u', ea, hl, hP⟩ => ?_⟩
  obtain ⟨A2, tu, hA2, _⟩ := focus_at tr ea va
  have en2 := en1.put ev tr dj1
  refine hQ v H1 ⟨G1, Fu A F1, Fz, u', _, s1.less fun a q => q.elim (fun z => z.elim) id, ok1.less fun a q => q.elim (fun z => z.elim) id, fun a q => q.elim, en2, tu.leaf hl, hP⟩
/-- x[..][k] = value -/
theorem sj_setP (h : EJ X W e m) (hb : EB X W i a mb) (hk : EJ X W b mk) (hs : swapsWithSole [.Subscript a b pos'] e pos.line X.env = pure false := by rfl) (hw : swappedStores [.Subscript a b pos'] e X.env = pure none := by rfl)
    (h1 : (assignEach [.Subscript a b pos'] X.env).map (·.2) = [assign (.Subscript a b pos') X.env] := by rfl)
    (ha : ∀ v, assign (.Subscript a b pos') X.env v = (do
      let ov ← holding [v] (eval a X.env)
      let iv ← holding [v, ov] (eval b X.env)
      standAt pos'
      holding [v, ov, iv] (setItem ov iv v)
      release [v, ov, iv] []) := by intro _; rfl) : SJ X W (.Assign [.Subscript a b pos'] e pos) (mSetP i mb mk m) := by
  refine PS_imp (ps_asg h (pg_sub hb hk set_list ha) hs hw h1) fun D σ H ⟨G, F, ρ, κ, EX, ok, en, xw, hm, kd⟩ => ?_
  refine ⟨G, F, ρ, _, EX, ok, en, xw σ, hm, fun y H0 ⟨G0, F0, Fv, t, ρ0, s0, ok0, dj0, en0, trt, hb0⟩ => ?_⟩
  have okV : Ok G0 H0 Fv := ok0.less fun a q => .inl q
  have s0' : Step G H F G0 H0 F0 := s0.less fun a q => .inr q
  refine ⟨G0, F0, ρ0, _, EX, ok0.less fun a q => .inr q, en0, (xw σ).step s0', hb0, fun o H1 ⟨G1, F1, A, t0, p, u, v0, ρ1, s1, ok1, dj1, en1, ev, tr, et, va, hk1⟩ => ?_⟩
  have s1' : Step G0 H0 F0 G1 H1 F1 := s1.less fun a q => .inr q
  have ok1' : Ok G1 H1 F1 := ok1.less fun a q => .inr q
  have okA : Ok G1 H1 A := ok1.less fun a q => .inl q
  -- the new value beside
  have trt1 := trt.step s1 dj0
  have apV : Dj Fv (Fu A F1) := s1.apart okV dj0
  have okV1 : Ok G1 H1 Fv := (s1.okA okV dj0 ok1).less fun a q => .inl q
  refine ⟨G1, F1, ρ1, _, EX, ok1', en1, (xw σ).step (s0'.trans s1'), hk1, fun w H2 ⟨G2, F2, Fk, kt, ρ2, s2, ok2, dj2, en2, trk, j, kd', cs, q, ek, ea, hkd, hq, hP⟩ => ?_⟩
  subst ek
  have ew := trk.int
  subst ew
  have tr2 := tr.step s2 dj1
  have va2 := VA.step s2 tr dj1 et va
  -- all that is ours: the tree A, the new value Fv, the rest F1
  have dVA : Dj (Fu Fv A) F1 := fun a q z => q.elim (fun q => apV a q (.inr z)) fun q => dj1 a q z
  have okVA : Ok G1 H1 (Fu Fv A) := (s1.okA okV dj0 ok1).less fun a q => q.elim .inl fun q => .inr (.inl q)
  have ap2 : Dj (Fu Fv A) (Fu Fk F2) := s2.apart okVA dVA
  have ok3 := s2.okA okVA dVA ok2
  have trt2 := trt1.step s2 fun a q z => apV a q (.inr z)
  obtain ⟨A2, tu, hA2, re⟩ := focus_at tr2 ea va2
  cases tu with
  | @nd _ _ l vs _ fs h1 h2 h3 h4 h5 h6 h7 =>
    have hl := h1.lst hkd
    have hq' : q < cs.length := ixN_lt hq
    refine ⟨l, vs, j, q, rfl, rfl, hl, by rw [← h2]; exact hq, ?_⟩
    have hlA : A l := hA2 l h7
    have nVl : ¬ Fv l := fun z => apV l z (.inl hlA)
    have hne : ∀ a, a ≠ l → upd H2 l (.lst (vs.set q y)) a = H2 a := fun a z => upd_ne z
    have gl : G2 l = none := ok3.no l (.inl (.inr hlA))
    -- the cell with its new child
    have trn : TR (cw X W).K G2 (upd H2 l (.lst (vs.set q y))) (.nd kd' (cs.set q t)) (.ref l) (fun a => A2 a ∨ Fv a) := by
      refine .nd (vs := vs.set q y) (fun n a => (n = q ∧ Fv a) ∨ (n ≠ q ∧ fs n a)) ?_ (by rw [List.length_set, List.length_set]; exact h2) (fun n c w e1 e2 => ?_) (fun n n' a z z' => ?_) (fun n a z => ?_) (fun n z => ?_) (.inl h7)
      · cases kd' with
        | lst => exact upd_same
        | lsa b => exact ⟨h1.1, upd_same⟩
        | _ => cases hkd
      · by_cases hn : n = q
        · subst hn
          rw [List.getElem?_set_self hq'] at e1
          rw [List.getElem?_set_self (by omega)] at e2
          cases e1
          cases e2
          refine (trt2.stay (.refl _) fun a o z e => ?_).mono fun a z => .inl ⟨rfl, z⟩
          rw [hne a fun y => nVl (y ▸ z)]
          exact e
        · rw [List.getElem?_set_ne (Ne.symm hn)] at e1 e2
          refine ((h3 n c w e1 e2).stay (.refl _) fun a o z e => ?_).mono fun a z => .inr ⟨hn, z⟩
          rw [hne a fun y => h6 n (y ▸ z)]
          exact e
      · rcases z with ⟨z1, z2⟩ | ⟨z1, z2⟩ <;> rcases z' with ⟨y1, y2⟩ | ⟨y1, y2⟩
        · rw [z1, y1]
        · exact (apV a z2 (.inl (hA2 a (h5 _ a y2)))).elim
        · exact (apV a y2 (.inl (hA2 a (h5 _ a z2)))).elim
        · exact h4 n n' a z2 y2
      · rcases z with ⟨_, z⟩ | ⟨_, z⟩
        · exact .inr z
        · exact .inl (h5 n a z)
      · rcases z with ⟨_, z⟩ | ⟨_, z⟩
        · exact nVl z
        · exact h6 n z
    have trw := re G2 (upd H2 l (.lst (vs.set q y))) _ _ (.refl _) (fun a o _ n e => by rw [hne a fun z => n (z ▸ h7)]; exact e) trn fun a z z' => z.elim id fun z => (apV a z (.inl z')).elim
    have nF2 : ¬ F2 l := fun z => ap2 l (.inr hlA) (.inr z)
    have en3 : EnvR (cw X W).K G2 (upd H2 l (.lst (vs.set q y))) σ ρ2 F2 := en2.stay (.refl _) fun a o z e => by
      rw [hne a fun y => nF2 (y ▸ z)]
      exact e
    have en4 := en3.put ev trw fun a z z' => z.elim (fun z => z.elim (fun z => ap2 a (.inr (hA2 a z)) (.inr z')) fun z => ap2 a (.inl z) (.inr z')) fun z => ap2 a (.inr z.1) (.inr z')
    refine kd.nx _ _ ⟨G2, _, _, ?_, ?_, en4, hP⟩
    · -- the steps so far, and the store
      have st : Step G H F G2 H2 (Fu (Fu Fv A) (Fu Fk F2)) := (s0.trans ((s1.frame (A := Fv)).trans (((s2.frame (A := Fu Fv A)).wide fun a z => ?_))))
      · have sS : Step G2 H2 (Fu (Fu Fv A) (Fu Fk F2)) G2 (upd H2 l (.lst (vs.set q y))) (Fu (Fu Fv A) (Fu Fk F2)) := ⟨.refl _, fun a z => .inl z, fun a o n e => by
            rw [hne a fun z => n (.inl (.inr (z ▸ hlA)))]
            exact e, fun a z => by
            by_cases hal : a = l
            · rw [hal, upd_same]; simp
            · rw [hne a hal]; exact z, fun a z => .inl z⟩
        refine (st.trans sS).less fun a z => ?_
        rcases z with ((z | z) | z) | z
        · exact .inl (.inr (hA2 a z))
        · exact .inl (.inl z)
        · exact .inl (.inr z.1)
        · exact .inr (.inr z)
      · exact z.elim (fun z => z.elim .inl fun z => .inr (.inl z)) fun z => .inr (.inr z)
    · refine ⟨fun a o e => ?_, fun a z => ?_, fun a z => ?_⟩
      · rw [hne a fun z => by rw [z, gl] at e; cases e]
        exact ok3.le a o e
      · refine ok3.no a ?_
        rcases z with ((z | z) | z) | z
        · exact .inl (.inr (hA2 a z))
        · exact .inl (.inl z)
        · exact .inl (.inr z.1)
        · exact .inr (.inr z)
      · by_cases hal : a = l
        · rw [hal, upd_same]; trivial
        · rw [hne a hal]
          refine ok3.cell a ?_
          rcases z with ((z | z) | z) | z
          · exact .inl (.inr (hA2 a z))
          · exact .inl (.inl z)
          · exact .inl (.inr z.1)
          · exact .inr (.inr z)
end

/-! ### powers, int, bit_length -/
def CPowW (i j : Int) : Prop := 2 ≤ i ∧ 1 ≤ j ∧ (Builtin.Int.intBits i : Int) * j ≤ 100000
theorem op_powW {X : Cx} : OpR X (binaryOp .Pow) (rI CPowW fun i j => .int (i ^ j.toNat)) := opI fun i j _ _ _ _ _ hc q => by
  obtain ⟨h1, h2, h3⟩ := hc
  refine PySem.AutoIntOps.pow_4 (by omega) (by simp; omega) (by simp; omega) (by simp; omega) ?_ q
  unfold Builtin.Int.intTooBig
  simp only [decide_eq_true_eq, Int.not_lt]
  refine Int.le_trans h3 ?_
  decide +kernel
def CPowV (i j : Int) : Prop := CPowW i j ∨ CPow i j
theorem op_powV {X : Cx} : OpR X (binaryOp .Pow) (rI CPowV fun i j => .int (i ^ j.toNat)) := by
  intro pins s σ H x y v u Q I rx ry ⟨i, j, e1, e2, hc, q⟩
  rcases hc with hc | hc
  · exact op_powW pins s σ H x y v u Q I rx ry ⟨i, j, e1, e2, hc, q⟩
  · exact op_pow pins s σ H x y v u Q I rx ry ⟨i, j, e1, e2, hc, q⟩
abbrev oPow : OpT := oIC CPowV fun i j => .int (i ^ j.toNat)
theorem oPow_S {K : PySem.W.Frag} : OpS K (r2L (rI CPowV fun i j => .int (i ^ j.toNat))) oPow := oIC_S fun _ _ => rfl
def oInt : OpT := fun ts P => match ts with
  | [.d (.int i)] => P (.d (.int i))
  | [.d (.bool k)] => P (.d (.int (if k then 1 else 0)))
  | _ => False
theorem oInt_S {K : PySem.W.Frag} : OpS K (fun xs H Q => (∃ i, xs = [.int i] ∧ Q (.int i) H) ∨ ∃ k, xs = [.bl k] ∧ Q (.int (if k then 1 else 0)) H) oInt := by
  intro ts vs G H F P Q ok tr ho hQ
  unfold oInt at ho
  split at ho
  · obtain ⟨v, rfl, h1⟩ := trs1 tr
    exact .inl ⟨_, by rw [h1.int], hQ _ _ (res_int ok ho)⟩
  · obtain ⟨v, rfl, h1⟩ := trs1 tr
    have e := h1.dr
    rw [DR] at e
    exact .inr ⟨_, by rw [e], hQ _ _ (res_int ok ho)⟩
  · exact ho.elim
def mBits (m : ME) : ME := fun ρ EX P => m ρ EX fun t ρ' => ∃ i, t = .d (.int i) ∧ P (.d (.int (Builtin.Int.intBits i : Nat))) ρ'
end FA
set_option Elab.async false
set_option linter.all false
set_option maxRecDepth 100000
namespace FA
open PySem PySem.Spec PyProof.Rows L2

section
variable {ρ ρ' : Env} {EX : EXk} {κ : Kt} {P : T → Env → Prop} {PB : Bool → Env → Prop} {PA : List T → Env → Prop} {R : T → Prop} {m mk : ME} {i : Nat} {t u : T} {kd : Kd} {cs : List T} {j : Int} {q : Nat}
theorem set_self {α : Type} : ∀ {l : List α} {i : Nat} {x y : α}, l[i]? = some x → (l.set i y).set i x = l
  | [], _, _, _, h => by cases h
  | a :: l, 0, x, y, h => by cases h; rfl
  | a :: l, i + 1, x, y, h => by
    rw [List.set_cons_succ, List.set_cons_succ, set_self (l := l) h]
/-- x[j], j a constant, x a list that is owned -/
theorem x_rdc (e : ρ[i]? = some (some (.nd kd cs))) (hk : kd.isLst = true) (hq : ixN cs.length j = some q) (hu : cs[q]? = some u) (hl : u.leafy = true) (h : P u ρ) : mRd i (bIx (bVar i) (mC (.int j))) ρ EX P := by
  refine ⟨.nd kd cs, e, j, kd, cs, q, rfl, rfl, hk, hq, u, ?_, hl, ?_⟩
  · show (if kd.isLst = true then (cs[q]?).bind (atP []) else none) = some u
    rw [if_pos hk, hu]
    rfl
  · rw [set_self e]
    exact h
/-- x[j] = value, j a constant -/
theorem x_setc (h : m ρ EX fun t ρ1 => ∃ t0, ρ1[i]? = some (some t0) ∧ ∃ j' kd cs q, T.d (.int j) = .d (.int j') ∧ atP [] t0 = some (.nd kd cs) ∧ kd.isLst = true ∧ ixN cs.length j' = some q ∧ κ.nx ((ρ1.set i none).set i (some (updP [] t0 (.nd kd (cs.set q t)))))) :
    mSetP i (bVar i) (mC (.int j)) m ρ EX κ := h
theorem x_setc' {A : Env → Prop} (q : Nat) (e : ρ[i]? = some (some (.nd kd cs))) (hk : kd.isLst = true) (hq : ixN cs.length j = some q) (h : A (ρ.set i (some (.nd kd (cs.set q t))))) :
    ∃ t0, ρ[i]? = some (some t0) ∧ ∃ j' kd cs q, T.d (.int j) = .d (.int j') ∧ atP [] t0 = some (.nd kd cs) ∧ kd.isLst = true ∧ ixN cs.length j' = some q ∧ A ((ρ.set i none).set i (some (updP [] t0 (.nd kd (cs.set q t))))) :=
  ⟨_, e, j, kd, cs, q, rfl, rfl, hk, hq, by rw [List.set_set]; exact h⟩
theorem x_int {i : Int} (h : R (.d (.int i))) : oInt [.d (.int i)] R := h
theorem x_abs {i : Int} (h : R (.d (.int (if i < 0 then -i else i)))) : oAbs [.d (.int i)] R := h
theorem x_bits (h : m ρ EX fun t ρ' => ∃ i, t = .d (.int i) ∧ P (.d (.int (Builtin.Int.intBits i : Nat))) ρ') : mBits m ρ EX P := h
theorem x_bits' {i : Int} {A : Int → Prop} (h : A i) : ∃ k : Int, T.d (.int i) = .d (.int k) ∧ A k := ⟨i, rfl, h⟩
theorem x_eqI {i j : Int} (h : R (.d (.bool (decide (i = j))))) : oEq [.d (.int i), .d (.int j)] R := by
  refine ⟨.int i, .int j, rfl, rfl, rfl, ?_⟩
  have e : PyData.eqv (.int i) (.int j) = decide (i = j) := by
    by_cases q : i = j <;> simp [PyData.eqv, q]
  rw [e]
  exact h
end

/-! ### the bag of draws -/
def Wd (w : Int) : Prop := 0 < w ∧ w.natAbs.log2 < 8000
local macro_rules | `(tactic| walk_at "x") => `(tactic| repeat (first
  | with_reducible refine x_seq ?_ | with_reducible refine x_set ?_ | with_reducible refine x_ret ?_ | with_reducible refine x_Ae ?_ | with_reducible refine x_A0 ?_ | with_reducible refine x_C ?_ | with_reducible refine x_I ?_ | with_reducible refine x_add ?_
  | with_reducible refine x_int ?_ | with_reducible refine x_abs ?_ | with_reducible refine x_bits ?_ | with_reducible refine x_bits' ?_ | with_reducible refine x_setc ?_ | with_reducible refine x_eqI ?_
  | ((with_reducible refine x_op ?_ ?hn); (case hn => rfl)) | ((with_reducible refine x_call ?_ ?hn); (case hn => rfl))
  | ((with_reducible show mA (Opd.b _ :: _) _ _ _); refine x_Ab rfl rfl ?_) | ((with_reducible show mVar _ _ _ _); refine x_var rfl rfl ?_)
  | ((with_reducible show mRd _ (bIx (bVar _) (mC _)) _ _ _); refine x_rdc rfl rfl rfl rfl rfl ?_)
  | with_reducible refine x_if ?_ | with_reducible refine x_ifS ?_ | with_reducible refine x_val ?_ | with_reducible refine x_bool ?_
  | with_reducible refine x_neg ?_ | with_reducible refine x_min ?_ | with_reducible refine x_max ?_ | with_reducible refine x_next ?_ | with_reducible refine x_kill ?_ | with_reducible refine x_retN ?_ | with_reducible refine x_tand ?_ | with_reducible refine x_tor ?_
  | with_reducible refine x_tnot ?_ | with_reducible refine x_and ?_ | with_reducible refine x_or ?_ | with_reducible refine x_not ?_ | with_reducible refine x_drop ?_))
theorem divw {w : Int} (h : Wd w) : CDivW i w := ⟨h.1, Nat.lt_of_lt_of_le h.2 (by decide)⟩
theorem forM_nil {g : Tg} {m : MS} {ρ : Env} {EX : EXk} {κ : Kt} (h : κ.nx ρ) : forM g m [] ρ EX κ := h
theorem forM_cons {g : Tg} {m : MS} {c : T} {cs : List T} {ρ : Env} {EX : EXk} {κ : Kt} (h : tgA g c ρ fun ρ1 => m ρ1 EX { κ with nx := fun ρ2 => forM g m cs ρ2 EX κ, ct := fun ρ2 => forM g m cs ρ2 EX κ, bk := κ.nx }) : forM g m (c :: cs) ρ EX κ := h
theorem kids_ints {ns : List Int} : (T.nd .lst (ns.map fun n => T.d (.int n))).kids = some (ns.map fun n => T.d (.int n)) := by
  show (if Kd.lst.isLst = true ∧ leafys (ns.map fun n => T.d (.int n)) = true then some (ns.map fun n => T.d (.int n)) else none) = _
  refine if_pos ⟨rfl, ?_⟩
  unfold leafys
  rw [List.all_map, List.all_eq_true]
  intro x _
  rfl
theorem lcM_nil {g : Tg} {c : MT} {m : ME} {vs : List Nat} {ys : List T} {ρ : Env} {P : T → Env → Prop} (h : P (.nd .lst ys) ρ) : lcM g c m vs [] ys ρ P := h
theorem lcM_cons {g : Tg} {c : MT} {m : ME} {vs : List Nat} {x : T} {cs ys : List T} {ρ : Env} {P : T → Env → Prop} (h : tgA g x ρ fun ρ1 => c ρ1 EX0 fun b ρ2 => if b = true then m ρ2 EX0 fun y ρ3 => ys.length < sizeLine ∧ lcM g c m vs cs (ys ++ [y]) (killv vs ρ3) P else lcM g c m vs cs ys (killv vs ρ2) P) : lcM g c m vs (x :: cs) ys ρ P := h
end FA
set_option Elab.async false
set_option linter.all false
set_option maxRecDepth 100000
namespace FA
open PySem PySem.Spec PyProof.Rows L2

section
variable {P : Program} {w : World} {K : PySem.W.Frag} {mg : Str → Option Value} {base : Heap}
end
end FA
set_option Elab.async false
set_option linter.all false
set_option maxRecDepth 100000
namespace FA
open PySem PySem.Spec PyProof.Rows L2

/-! ### sorted lists of data -/
def rSortedD (K : PySem.W.Frag) : RL := fun xs H Q => ∃ (a : Addr) (vs : List V) (ds : List PyData), xs = [V.ref a] ∧ SqL K H a vs ∧ DpAll K H vs ds ∧ PySem.W.AllAlike ds ∧ PySem.W.Sortable ds ∧ (∀ d ∈ ds, d.depth < 40) ∧
  ∀ p, H p = none → Q (.ref p) (upd H p (.lst (((ds.zip vs).mergeSort (PySem.W.dataLe false Prod.fst)).map Prod.snd)))
theorem DpAll_len {K : PySem.W.Frag} {H : Hp} : ∀ {vs : List V} {ds : List PyData}, DpAll K H vs ds → vs.length = ds.length
  | _, _, .nil => rfl
  | _, _, .cons _ h => by rw [List.length_cons, List.length_cons, DpAll_len h]
theorem each_vals {us : List Value} : ∀ {vs : List V} {ds : List PyData}, Vals vs us → vs.length = ds.length → PySem.W.EachIs (fun u (b : PyData × V) => RelV b.2 u) us (ds.zip vs) := by
  induction us with
  | nil =>
    intro vs ds r l
    cases r
    have : ds = [] := List.length_eq_zero_iff.mp l.symm
    subst this
    exact .nil
  | cons u us ih =>
    intro vs ds r l
    cases r with
    | cons r1 r2 =>
      cases ds with
      | nil => cases l
      | cons d ds => exact .cons r1 (ih r2 (Nat.succ.inj l))
theorem each_back {us : List Value} {bs : List (PyData × V)} (e : PySem.W.EachIs (fun u (b : PyData × V) => RelV b.2 u) us bs) : Vals (bs.map Prod.snd) us := by
  induction e with
  | nil => exact .nil
  | cons h _ ih => exact .cons h ih
theorem zip_fst {α β : Type} : ∀ {ds : List α} {vs : List β}, vs.length = ds.length → (ds.zip vs).map Prod.fst = ds
  | [], _, _ => rfl
  | d :: ds, [], h => by cases h
  | d :: ds, v :: vs, h => by
    show d :: (ds.zip vs).map Prod.fst = d :: ds
    rw [zip_fst (Nat.succ.inj h)]
theorem each_reads {X : Cx} {pins : List (Addr × Obj)} {σ : L2.St} {H : Hp} {s : Shared} (I : Inv X pins σ H s) : ∀ {ds : List PyData} {vs : List V} {us : List Value}, DpAll X.K H vs ds → Vals vs us → PySem.W.EachIs (fun u (b : PyData × V) => ∃ as, Reads s.heap u b.1 as) us (ds.zip vs)
  | [], _, _, h, r => by
    cases h
    cases r
    exact .nil
  | d :: ds, _, _, h, r => by
    cases h with
    | cons h1 h2 =>
      cases r with
      | cons r1 r2 => exact .cons (Dp.reads I _ _ _ h1 r1) (each_reads I h2 r2)
theorem cr_sortedD {X : Cx} (hu : X.A.units + 64 < cLine) : CallR X (.builtin "sorted") (rSortedD X.K) := by
  intro pins s σ H xs us Q I r h
  obtain ⟨a, vs, ds, rfl, hs, hd, hal, hk, hdep, q⟩ := h
  obtain ⟨its, rv, hl, hz⟩ := I.list hs
  obtain ⟨u, rfl, ru⟩ := vals1 r
  obtain rfl : u = Value.ref a := ru
  have len : vs.length = ds.length := DpAll_len hd
  have ef : (ds.zip vs).map Prod.fst = ds := zip_fst len
  have er := each_reads I hd rv
  refine PySem.W.sorted_data (bs := ds.zip vs) (enc := Prod.fst) (R := fun u (b : PyData × V) => RelV b.2 u) hl.isList (each_vals rv len) er (by rw [ef]; exact hal) (by rw [ef]; exact hk) ?_ (fun b hb => ?_) fun out ho eo => ?_
  · rw [List.length_zip, len, Nat.min_self, ← len]
    exact hz
  · have := hdep b.1 (by rw [← ef]; exact List.mem_map.mpr ⟨b, hb, rfl⟩)
    omega
  · have ro := each_back eo
    obtain ⟨ep, hat⟩ := sortedAll_at s.heap its out.toArray
    refine ⟨.ref (s.heap.objs.size + 1), upd H (s.heap.objs.size + 1) (.lst (((ds.zip vs).mergeSort (PySem.W.dataLe false Prod.fst)).map Prod.snd)), I.laid (t' := s.toks) (fun b o e => sortedAll_old e) (Nat.le_succ _) ⟨?_, out, ep, ro, hat⟩, rfl, q _ (I.hok.fresh (Nat.le_succ _))⟩
    rw [List.length_map, List.length_mergeSort, List.length_zip, len, Nat.min_self, ← len]
    exact hz
def oSorted : OpT := fun ts P => ∃ (t : T) (ds : List PyData), ts = [t] ∧ t.isL = true ∧ t.kids = some (ds.map T.d) ∧ nods ds = true ∧ PySem.W.AllAlike ds ∧ PySem.W.Sortable ds ∧ (∀ d ∈ ds, d.depth < 40) ∧ P (.nd .lst ((ds.mergeSort (PySem.W.dataLe false id)).map T.d))
theorem drs_zip {K : PySem.W.Frag} {G : Hp} : ∀ {ds : List PyData} {vs : List V}, DRs K G ds vs → ∀ b ∈ ds.zip vs, DR K G b.1 b.2
  | [], _, _, b, hb => by cases hb
  | d :: ds, vs, h, b, hb => by
    rw [DRs] at h
    obtain ⟨v, r, rfl, h1, h2⟩ := h
    rcases List.mem_cons.mp hb with e | e
    · rw [e]; exact h1
    · exact drs_zip h2 b e
theorem drs_unzip {K : PySem.W.Frag} {G : Hp} : ∀ {bs : List (PyData × V)}, (∀ b ∈ bs, DR K G b.1 b.2) → DRs K G (bs.map Prod.fst) (bs.map Prod.snd)
  | [], _ => by rw [List.map_nil, List.map_nil, DRs]
  | b :: bs, h => by
    rw [List.map_cons, List.map_cons, DRs]
    exact ⟨_, _, rfl, h b List.mem_cons_self, drs_unzip fun c hc => h c (List.mem_cons_of_mem _ hc)⟩
theorem oSorted_S {K : PySem.W.Frag} : OpS K (rSortedD K) oSorted := by
  intro ts vs G H F P Q ok tr ⟨t, ds, e, hl, ek, nn, hal, hk, hdep, hP⟩ hQ
  subst e
  obtain ⟨v, rfl, h1⟩ := trs1 tr
  obtain ⟨a, vs', rfl, hk2, trk⟩ := kids_at h1 ok ek
  rcases hk2 with hk2 | hk2
  · have dr := trs_drs trk
    refine ⟨a, vs', ds, rfl, hk2.2.1, (dr.le ok.le).dp nn, hal, hk, hdep, fun p hp => hQ _ _ (res_lst ok (drs_trs ?_) hp hP)⟩
    have e : (ds.mergeSort (PySem.W.dataLe false id)) = ((ds.zip vs').mergeSort (PySem.W.dataLe false Prod.fst)).map Prod.fst := by
      have e := List.map_mergeSort (r := PySem.W.dataLe false (Prod.fst (α := PyData) (β := V))) (s := PySem.W.dataLe false id) (f := Prod.fst) (l := ds.zip vs') (fun a _ b _ => rfl)
      rw [e, zip_fst dr.length.symm]
    rw [e]
    exact drs_unzip fun b hb => drs_zip dr b ((List.mergeSort_perm _ _).mem_iff.mp hb)
  · rw [hl] at hk2
    cases hk2.1
end FA
set_option Elab.async false
set_option linter.all false
set_option maxRecDepth 100000
namespace FA.Lits
open PySem PySem.W PySem.Calls PyProof.Rows PyProof.V PySem.Spec DT
section
variable {P : Program} {wd : World} {Ar : Around} {Er : Value → Shared → Prop} {st : Shared} {vw dd : Addr} {ents : Array DictEntry} {en : Nat}
end
end FA.Lits
namespace FA
open PySem PySem.Spec PyProof.Rows L2 L2.DX
/-! ### dicts with tuples as keys -/
def keyOf : PyData → Option L2.Key
  | .int i => some (.inl i)
  | .str x => some (.inr x)
  | _ => none
def keysOf : List PyData → Option (List L2.Key)
  | [] => some []
  | x :: xs => match keyOf x, keysOf xs with
    | some k, some ks => some (k :: ks)
    | _, _ => none
def keyD : PyData → Option (List L2.Key)
  | .tuple xs => keysOf xs
  | _ => none
def hasK (ks : List (List L2.Key)) (k : List L2.Key) : Bool := ks.any fun k' => decide (k' = k)
def dKs (ks : List (List L2.Key)) (k : List L2.Key) : List (List L2.Key) := if hasK ks k = true then ks else ks ++ [k]
def dVs {α : Type} (ks : List (List L2.Key)) (vs : List α) (k : List L2.Key) (v : α) : List α := if hasK ks k = true then List.zipWith (fun k' x => if k' = k then v else x) ks vs else vs ++ [v]
theorem keysOf_at {K : PySem.W.Frag} {G : Hp} : ∀ {xs : List PyData} {vs : List V} {k : List L2.Key}, DRs K G xs vs → keysOf xs = some k → vs = k.map kV
  | [], vs, k, h, e => by
    rw [DRs] at h
    cases e
    exact h
  | x :: xs, vs, k, h, e => by
    rw [DRs] at h
    obtain ⟨v, r, rfl, h1, h2⟩ := h
    rw [keysOf] at e
    split at e
    · rename_i a b e1 e2
      cases e
      rw [keysOf_at h2 e2, List.map_cons]
      congr 1
      cases x with
      | int i => cases e1; rw [DR] at h1; exact h1
      | str i => cases e1; rw [DR] at h1; exact h1
      | _ => cases e1
    · cases e
theorem keyP_at {K : PySem.W.Frag} {G : Hp} : ∀ (k : List L2.Key), DRs K G (k.map keyP) (k.map kV)
  | [] => by rw [List.map_nil, List.map_nil, DRs]
  | .inl i :: k => by
    rw [List.map_cons, List.map_cons, DRs]
    exact ⟨_, _, rfl, by show DR K G (.int i) (.int i); rw [DR], keyP_at k⟩
  | .inr i :: k => by
    rw [List.map_cons, List.map_cons, DRs]
    exact ⟨_, _, rfl, by show DR K G (.str i) (.str i); rw [DR], keyP_at k⟩
theorem any_zip {k : List L2.Key} : ∀ {ks : List (List L2.Key)} {vs : List V}, ks.length = vs.length → ((ks.zip vs).any fun kv => decide (kv.1 = k)) = hasK ks k
  | [], _, _ => rfl
  | a :: ks, [], h => by cases h
  | a :: ks, v :: vs, h => by
    show (decide (a = k) || (ks.zip vs).any fun kv => decide (kv.1 = k)) = (decide (a = k) || hasK ks k)
    rw [any_zip (ks := ks) (Nat.succ.inj h)]
theorem putK_zip {ks : List (List L2.Key)} {vs : List V} {k : List L2.Key} {v : V} (h : ks.length = vs.length) : putK (ks.zip vs) k v = (dKs ks k).zip (dVs ks vs k v) := by
  unfold putK dKs dVs
  rw [any_zip (vs := vs) h]
  by_cases hk : hasK ks k = true
  · rw [if_pos hk, if_pos hk, if_pos hk]
    clear hk
    induction ks generalizing vs with
    | nil => rfl
    | cons a ks ih =>
      cases vs with
      | nil => cases h
      | cons w vs =>
        rw [List.zip_cons_cons, List.map_cons, List.zipWith_cons_cons, List.zip_cons_cons, ih (Nat.succ.inj h)]
        by_cases e : a = k
        · rw [if_pos e, if_pos e]
        · rw [if_neg e, if_neg e]
  · rw [if_neg hk, if_neg hk, if_neg hk, List.zip_append h]
    rfl
theorem dVs_len {α : Type} {ks : List (List L2.Key)} {vs : List α} {k : List L2.Key} {v : α} (h : ks.length = vs.length) : (dKs ks k).length = (dVs ks vs k v).length := by
  unfold dKs dVs
  by_cases hk : hasK ks k = true
  · rw [if_pos hk, if_pos hk, List.length_zipWith, h, Nat.min_self]
  · rw [if_neg hk, if_neg hk, List.length_append, List.length_append, h]
    rfl
theorem dVs_get {K : PySem.W.Frag} {G H : Hp} {ks : List (List L2.Key)} {cs : List T} {vs : List V} {k : List L2.Key} {t : T} {v : V} {fs : Nat → Fp} (hc : ks.length = cs.length) (hv : ks.length = vs.length)
    (h : ∀ (i : Nat) c w, cs[i]? = some c → vs[i]? = some w → TR K G H c w (fs i)) (ht : ∀ F, TR K G H t v F) : ∀ (i : Nat) c w, (dVs ks cs k t)[i]? = some c → (dVs ks vs k v)[i]? = some w → TR K G H c w (fs i) := by
  intro i c w
  unfold dVs
  by_cases hk : hasK ks k = true
  · rw [if_pos hk, if_pos hk, List.getElem?_zipWith, List.getElem?_zipWith]
    intro e1 e2
    cases ek : ks[i]? with
    | none => rw [ek] at e1; cases e1
    | some k' =>
      rw [ek] at e1 e2
      cases ec : cs[i]? with
      | none => rw [ec] at e1; cases e1
      | some c' =>
        cases ev : vs[i]? with
        | none => rw [ev] at e2; cases e2
        | some w' =>
          rw [ec] at e1
          rw [ev] at e2
          have e1' : (if k' = k then t else c') = c := Option.some.inj e1
          have e2' : (if k' = k then v else w') = w := Option.some.inj e2
          by_cases e : k' = k
          · rw [if_pos e] at e1' e2'
            rw [← e1', ← e2']
            exact ht _
          · rw [if_neg e] at e1' e2'
            rw [← e1', ← e2']
            exact h i c' w' ec ev
  · rw [if_neg hk, if_neg hk]
    intro e1 e2
    by_cases hi : i < cs.length
    · rw [List.getElem?_append_left hi] at e1
      rw [List.getElem?_append_left (by omega)] at e2
      exact h i c w e1 e2
    · have hi2 : i = cs.length := by
        have := (List.getElem?_eq_some_iff.mp e1).1
        rw [List.length_append, List.length_singleton] at this
        omega
      subst hi2
      rw [List.getElem?_append_right (Nat.le_refl _), Nat.sub_self] at e1
      rw [List.getElem?_append_right (by omega), show cs.length - vs.length = 0 by omega] at e2
      cases e1
      cases e2
      exact ht _
def mDNew : ME := fun ρ _ P => P (.nd (.dT []) []) ρ
/-- x[key] = value, x a dict of tuples, the value a leaf -/
def mDPut (i : Nat) (mk m : ME) : MS := fun ρ EX κ => m ρ EX fun t ρ1 => (∃ t0, ρ1[i]? = some (some t0)) ∧ mk ρ1 EX fun kt ρ2 => ∃ d key ks cs, kt = .d d ∧ keyD d = some key ∧ t.leafy = true ∧ ρ2[i]? = some (some (.nd (.dT ks) cs)) ∧ ks.length < sizeLine ∧
  κ.nx (ρ2.set i (some (.nd (.dT (dKs ks key)) (dVs ks cs key t))))
/-- list(x.items()) -/
def itemsT (ks : List (List L2.Key)) (xs : List PyData) : List PyData := List.zipWith (fun k x => .tuple [.tuple (k.map keyP), x]) ks xs
section
variable {X : Cx} {W : WX} {e k a b : Expr} {m mk : ME} {pos pos' apos cpos p : Pos} {x : Str} {i : Nat}
theorem ej_dnew : EJ X W (.Dict [] [] pos) mDNew := by
  refine PE_imp pe_dnewT fun σ H Q ⟨G, F, ρ, P, EX, ok, en, xw, hP, hQ⟩ => fun p hp => hQ _ _ ?_
  have hle : Le H (upd H p (.dT [])) := fun a o e => by
    rw [upd_ne (ne_of_none e hp)]
    exact e
  have gp : G p = none := by
    cases e : G p with
    | none => rfl
    | some o => rw [ok.le p o e] at hp; cases hp
  have nF : ¬ F p := fun z => ok.tracked z hp
  refine ⟨G, F, Fone p, _, ρ, ⟨.refl G, fun a h => .inl h, fun a o _ e => hle a o e, fun a h => ?_, fun a h => ?_⟩, ⟨fun a o e => hle a o (ok.le a o e), fun a h => ?_, fun a h => ?_⟩, fun a h q => nF ((show a = p from h) ▸ q), en.stay (.refl G) fun a o _ e => hle a o e,
    .nd (k := .dT []) (vs := []) (fun _ => Fz) ⟨rfl, upd_same⟩ rfl (fun i c w e => by cases e) (fun _ _ _ z => z.elim) (fun _ _ z => z.elim) (fun _ z => z) rfl, hP⟩
  · cases e : H a with
    | none => exact absurd e h
    | some o => rw [hle a o e]; simp
  · rcases h with h | h
    · right
      rw [show a = p from h]
      exact hp
    · exact .inl h
  · rcases h with h | h
    · rw [show a = p from h]; exact gp
    · exact ok.no a h
  · rcases h with h | h
    · rw [show a = p from h, upd_same]; trivial
    · have c := ok.cell a h
      cases e : H a with
      | none => rw [e] at c; exact c.elim
      | some o => rw [hle a o e, ← e]; exact c
theorem sj_dput (i : Nat) (hu : X.A.units + 64 < cLine) (h : EJ X W e m) (hk : EJ X W k mk) (hN : X.N[i]? = some x := by rfl) (hv : Vis X.env.scope x := by first | exact Or.inl rfl | exact Or.inr (Or.inl rfl) | exact Or.inr (Or.inr rfl)) (hd : (x == ("__debug__" : Str)) = false := by decide +kernel)
    (hcd : (x == ("__classdict__" : Str)) = false := by decide +kernel) (hs : swapsWith e (some (.Subscript (.Name x p) k pos')) pos.line X.env = pure false := by rfl) : SJ X W (.Assign [.Subscript (.Name x p) k pos'] e pos) (mDPut i mk m) := by
  refine PS_imp (ps_dput (by omega) (pe_var hN hv hd hcd) hk h hs) fun D σ H ⟨G, F, ρ, κ, EX, ok, en, xw, hm, kd⟩ => ?_
  refine ⟨G, F, ρ, _, EX, ok, en, xw σ, hm, fun y H0 ⟨G0, F0, Fv, t, ρ0, s0, ok0, dj0, en0, trt, ⟨t0, e0⟩, hk0⟩ => ?_⟩
  have s0' : Step G H F G0 H0 F0 := s0.less fun a q => .inr q
  obtain ⟨v0, A0, B0, ev, _⟩ := en0.take e0
  refine ⟨v0, ev, G0, F0, ρ0, _, EX, ok0.less fun a q => .inr q, en0, (xw σ).step s0', hk0, fun kv H2 ⟨G2, F2, Fk, kt, ρ2, s2, ok2, dj2, en2, trk, d, key, ks, cs, ek, ekd, hl, e2, hz, hP⟩ => ?_⟩
  subst ek
  obtain ⟨v, A, B, ev', tr, enB, dAB, hA, hB⟩ := en2.take e2
  rw [ev] at ev'
  cases ev'
  have trl : ∀ F', TR (cw X W).K G2 H2 t y F' := fun F' => ((trt.leaf (F := Fz) hl).stay (H' := H2) s2.le fun _ _ z => z.elim).leaf hl
  have okF2 : Ok G2 H2 F2 := ok2.less fun a q => .inr q
  have sT : Step G H F G2 H2 F2 := s0'.trans (s2.less fun a q => .inr q)
  cases tr with
  | @nd _ _ l vs _ fs h1 h2 h3 h4 h5 h6 h7 =>
    obtain ⟨hkl, hlv⟩ := h1
    -- the key
    cases d with
    | tuple xs =>
      have dk := trk.dr
      rw [DR] at dk
      obtain ⟨b, ws, rfl, gb, dws⟩ := dk
      have ews := keysOf_at dws ekd
      subst ews
      have hb := ok2.le _ _ gb
      refine ⟨l, _, rfl, .t hlv hb (by rw [List.length_zip, hkl, Nat.min_self, ← hkl]; exact hz), ?_⟩
      rw [putK_zip hkl]
      have hlA : F2 l := hA l h7
      have gl : G2 l = none := okF2.no l hlA
      have hne : ∀ a, a ≠ l → upd H2 l (.dT ((dKs ks key).zip (dVs ks vs key y))) a = H2 a := fun a z => upd_ne z
      have nBl : ¬ B l := fun z => dAB l h7 z
      have trn : TR (cw X W).K G2 (upd H2 l (.dT ((dKs ks key).zip (dVs ks vs key y)))) (.nd (.dT (dKs ks key)) (dVs ks cs key t)) (.ref l) A := by
        refine .nd (vs := dVs ks vs key y) fs ⟨dVs_len hkl, upd_same⟩ ((dVs_len (hkl.trans h2.symm)).symm.trans (dVs_len hkl)) (fun i c w e1 e2 => ?_) h4 h5 h6 h7
        refine (dVs_get (hkl.trans h2.symm) hkl h3 trl i c w e1 e2).stay (.refl _) fun a o z e => ?_
        rw [hne a fun q => h6 i (q ▸ z)]
        exact e
      have en3 : EnvR (cw X W).K G2 (upd H2 l (.dT ((dKs ks key).zip (dVs ks vs key y)))) σ (ρ2.set i none) B := enB.stay (.refl _) fun a o z e => by
        rw [hne a fun q => nBl (q ▸ z)]
        exact e
      have en4 := en3.put ev trn dAB
      rw [List.set_set] at en4
      refine kd.nx _ _ ⟨G2, Fu A B, _, (sT.trans ⟨.refl _, fun a z => .inl z, fun a o n e => ?_, fun a z => ?_, fun a z => .inl z⟩).less fun a z => z.elim (hA a) (hB a), ⟨fun a o e => ?_, fun a z => okF2.no a (z.elim (hA a) (hB a)), fun a z => ?_⟩, en4, hP⟩
      · rw [hne a fun q => n (q ▸ hlA)]
        exact e
      · by_cases hal : a = l
        · rw [hal, upd_same]; simp
        · rw [hne a hal]; exact z
      · rw [hne a fun q => by rw [q, gl] at e; cases e]
        exact ok2.le a o e
      · by_cases hal : a = l
        · rw [hal, upd_same]; trivial
        · rw [hne a hal]; exact okF2.cell a (z.elim (hA a) (hB a))
    | _ => cases ekd
end
end FA
set_option Elab.async false
set_option linter.all false
set_option maxRecDepth 100000
namespace FA
open PySem PySem.Spec PyProof.Rows L2

/-! ### two names at once -/
def mPar (i j : Nat) (os : List Opd) : MS := fun ρ EX κ => mA os ρ EX fun ts ρ' => ∃ t u, ts = [t, u] ∧ κ.nx ((ρ'.set i (some t)).set j (some u))
section
variable {X : Cx} {W : WX} {a b : Expr} {px py pt pt2 pos : Pos} {kt k2 : Nat} {x y : Str} {os : List Opd}
theorem sj_par (i j : Nat) (hc : X.calm = true) (hN : X.N.Nodup) (ha : EAs X W [a, b] os) (hi : X.N[i]? = some x := by rfl) (hj : X.N[j]? = some y := by rfl) (hij : i ≠ j := by decide) (hx : X.env.scope.names.lookup x = some .local := by rfl) (hy : X.env.scope.names.lookup y = some .local := by rfl)
    (hw : swappedStores [.Tuple [.Name x px, .Name y py] kt pt] (.Tuple [a, b] k2 pt2) X.env = pure (some [x, y]) := by rfl)
    (hs : swapsWithSole [.Tuple [.Name x px, .Name y py] kt pt] (.Tuple [a, b] k2 pt2) pos.line X.env = pure false := by rfl) : SJ X W (.Assign [.Tuple [.Name x px, .Name y py] kt pt] (.Tuple [a, b] k2 pt2) pos) (mPar i j os) := by
  refine PS_imp (ps_par hc hN hi hj hij hx hy ha hw hs) fun D σ H ⟨G, F, ρ, κ, EX, ok, en, xw, hm, kd⟩ => ?_
  refine mA_read (os := os) (c := cw X W) ok en (xw σ) hm fun vs H1 G1 F1 Fa ts ρ1 s1 ok1 dj en1 tr bk hP => ?_
  obtain ⟨t, u, rfl, hP⟩ := hP
  obtain ⟨v, r, A, B, rfl, h1, h2, d12, sA, sB⟩ := tr.uncons
  obtain ⟨w, rfl, h3⟩ := trs1 h2
  refine ⟨v, w, rfl, ?_⟩
  have e1 := en1.store (i := i) h1 fun a p q => dj a (sA a p) q
  have e2 := e1.store (i := j) h3 fun a p q => q.elim (fun z => d12 a z p) fun z => dj a (sB a p) z
  refine kd.nx _ _ ⟨G1, _, _, s1.less fun a q => ?_, ok1.less fun a q => ?_, e2, hP⟩
  · rcases q with q | q | q
    · exact .inl (sB a q)
    · exact .inl (sA a q)
    · exact .inr q
  · rcases q with q | q | q
    · exact .inl (sB a q)
    · exact .inl (sA a q)
    · exact .inr q
end

/-! ### for y in x, the lists of an owned list changed one by one -/
def forO (j : Nat) (m : MS) (K : List T → Env → Prop) (EX : EXk) : List (List T) → List T → Env → Prop
  | [], done, ρ => K done ρ
  | ds :: rest, done, ρ => ∀ a, m (ρ.set j (some (.nd (.lsa a) ds))) EX { nx := fun ρ' => ∃ ds', ρ'[j]? = some (some (.nd (.lsa a) ds')) ∧ forO j m K EX rest (done ++ [.nd .lst ds']) (ρ'.set j none), rt := fun _ _ => False, bk := fun _ => False, ct := fun _ => False }
def mForO (i j : Nat) (m : MS) : MS := fun ρ EX κ => ∃ css : List (List T), ρ[i]? = some (some (.nd .lst (css.map (.nd .lst)))) ∧
  ∀ l : Addr, forO j m (fun done ρ' => ρ'[i]? = some (some (.tok .hole l)) ∧ κ.nx (ρ'.set i (some (.nd .lst done)))) EX css [] (ρ.set i (some (.tok .hole l)))
section
variable {X : Cx} {W : WX} {body : List Stmt} {m : MS} {pos px py : Pos} {x y : Str} {i j : Nat}
theorem at_one {k : Nat} {cs : List T} {u : T} (e : cs[k]? = some u) : atP [k] (.nd .lst cs) = some u := by
  show (if Kd.lst.isLst = true then (cs[k]?).bind (atP []) else none) = some u
  rw [if_pos (show Kd.lst.isLst = true from rfl), e]
  rfl
theorem upd_one {k : Nat} {cs : List T} {u c : T} (e : cs[k]? = some c) : updP [k] (.nd .lst cs) u = .nd .lst (cs.set k u) := by
  rw [updP]
  simp only [e]
  rfl
theorem sj_forO (i j : Nat) (hp : PassesOwn (model X.prog X.w) X.A X.env X.xe) (hc : X.calm = true) (hN : X.N.Nodup) (hb : SJs X W body m) (hi : X.N[i]? = some x := by rfl) (hv : Vis X.env.scope x := by first | exact Or.inl rfl | exact Or.inr (Or.inl rfl) | exact Or.inr (Or.inr rfl)) (hd : (x == ("__debug__" : Str)) = false := by decide +kernel)
    (hcd : (x == ("__classdict__" : Str)) = false := by decide +kernel) (hj : X.N[j]? = some y := by rfl) (hx : Loc X.env.scope y := by first | exact Or.inl rfl | exact Or.inr rfl) (hf : X.fn y = true ∨ X.env.scope.names.lookup y = some .local := by first | exact .inl rfl | exact .inr rfl)
    (hs : ∀ v, foldedSetIterable (.Name x px) X.env v = pure v := by intro _; rfl) : SJ X W (.For (.Name y py) (.Name x px) body [] pos) (mForO i j m) := by
  refine PS_imp (ps_for hp hc (pi_list (pe_var hi hv hd hcd)) (pg_name hN hj hx hf) hb hs) fun D σ H ⟨G, F, ρ, κ, EX, ok, en, xw, ⟨css, e1, hm⟩, kd⟩ => ?_
  obtain ⟨v, A, B, ev, tr, enB, dAB, hA, hB⟩ := en.take e1
  obtain ⟨l, vs, fs, rfl, hl, _⟩ := nd_parts tr (ok.less hA)
  refine ⟨.ref l, ev, l, rfl, ⟨vs, .of hl⟩, ?_⟩
  have en1 : EnvR (cw X W).K G H σ (ρ.set i (some (.tok .hole l))) (Fu Fz B) := by
    have := enB.put ev (.tok (k := .hole) trivial) (A := Fz) fun a z => z.elim
    rw [List.set_set] at this
    exact this
  refine ⟨fun k n σ' H' => n = css.length - k ∧ k ≤ css.length ∧ ∃ G' A' B' ρ' done, done.length = k ∧ Step G H F G' H' (Fu A' B') ∧ Ok G' H' (Fu A' B') ∧ Dj A' B' ∧ EnvR (cw X W).K G' H' σ' ρ' B' ∧
    TR (cw X W).K G' H' (.nd .lst (done ++ (css.drop k).map (.nd .lst))) (.ref l) A' ∧ forO j m (fun done ρ' => ρ'[i]? = some (some (.tok .hole l)) ∧ κ.nx (ρ'.set i (some (.nd .lst done)))) EX (css.drop k) done ρ',
    ⟨css.length, by simp, Nat.zero_le _, G, A, B, _, [], rfl, Step.refl.less fun a q => q.elim (hA a) (hB a), ok.less fun a q => q.elim (hA a) (hB a), dAB, en1.mono fun a q => q.elim (fun z => z.elim) id, tr, hm l⟩, ?_⟩
  rintro k n σ' H' ⟨rfl, hk, G', A', B', ρ', done, hlen, st, ok', dj', en', tr', hf'⟩
  obtain ⟨l2, vs', fs', el, hl', hlv, _⟩ := nd_parts tr' (ok'.less fun a q => .inl q)
  cases el
  have okA : Ok G' H' A' := ok'.less fun a q => .inl q
  have okB : Ok G' H' B' := ok'.less fun a q => .inr q
  rw [List.length_append, List.length_map, List.length_drop, hlen] at hlv
  by_cases hlt : k < css.length
  · have ek : css[k]? = some css[k] := List.getElem?_eq_getElem hlt
    have evk : ∃ w, vs'[k]? = some w := ⟨_, List.getElem?_eq_getElem (by omega)⟩
    obtain ⟨w, evk⟩ := evk
    refine .inr ⟨⟨vs', w, .of hl', evk⟩, _, fun σ3 H3 (h3 : ∃ G' A' B' ρ' done, done.length = k + 1 ∧ Step G H F G' H3 (Fu A' B') ∧ Ok G' H3 (Fu A' B') ∧ Dj A' B' ∧ EnvR (cw X W).K G' H3 σ3 ρ' B' ∧
      TR (cw X W).K G' H3 (.nd .lst (done ++ (css.drop (k + 1)).map (.nd .lst))) (.ref l) A' ∧ forO j m (fun done ρ' => ρ'[i]? = some (some (.tok .hole l)) ∧ κ.nx (ρ'.set i (some (.nd .lst done)))) EX (css.drop (k + 1)) done ρ') => ⟨css.length - (k + 1), by omega, rfl, hlt, h3⟩, fun z H'' yl => ?_⟩
    obtain ⟨rfl, yl⟩ := yl
    have ez : z = w := Option.some.inj ((yl vs' (.of hl')).symm.trans evk)
    subst ez
    rw [drop_get ek] at hf' tr'
    rw [List.map_cons] at tr'
    have e2 : (done ++ (T.nd .lst css[k] :: (css.drop (k + 1)).map (.nd .lst)))[k]? = some (.nd .lst css[k]) := by
      rw [List.getElem?_append_right (by omega), hlen, Nat.sub_self]
      rfl
    obtain ⟨v1, Ak, va, tu, hAk, re⟩ := focus tr' (at_one e2)
    obtain ⟨a1, vs1, w1, q1, q2, q3, q4⟩ := va
    cases q1
    rw [hl'] at q2
    cases q2
    rw [evk] at q3
    cases q3
    have q4 : v1 = z := q4
    subst q4
    cases tu with
    | @nd _ _ a2 us _ gs h1 h2 h3 h4 h5 h6 h7 =>
      have tl : TR (cw X W).K G' H'' (.nd (.lsa a2) css[k]) (.ref a2) Ak := .nd gs ⟨rfl, h1⟩ h2 h3 h4 h5 h6 h7
      have en2 := en'.store (i := j) tl fun a p q => dj' a (hAk a p) q
      have wAB : ∀ a, Fu Ak B' a → Fu A' B' a := fun a q => q.elim (fun z => .inl (hAk a z)) .inr
      have st2 : Step G H F G' H'' (Fu Ak B') := st.less wAB
      refine ⟨G', Fu Ak B', _, _, EX, ok'.less wAB, en2, xw.step st2, hf' a2, ⟨fun σ5 H5 ⟨G5, F5, ρ5, s5, ok5, en5, ds', e5, hn5⟩ => ?_, fun v H5 ⟨_, _, _, _, _, _, _, _, _, _, _, z⟩ => z.elim, fun σ5 H5 ⟨_, _, _, _, _, _, z⟩ => z.elim, fun σ5 H5 ⟨_, _, _, _, _, _, z⟩ => z.elim⟩⟩
      obtain ⟨v5, A5, B5, ev5, tr5, enB5, d5, hA5, hB5⟩ := en5.take e5
      have ev5' := adr_at tr5 rfl
      subst ev5'
      have tr6 : TR (cw X W).K G5 H5 (.nd .lst ds') (.ref a2) A5 := by
        cases tr5 with
        | @nd _ _ _ us _ gs h1 h2 h3 h4 h5 h6 h7 => exact .nd gs h1.2 h2 h3 h4 h5 h6 h7
      -- what stays
      have okR : Ok G' H'' (fun a => A' a ∧ ¬ Ak a) := okA.less fun a q => q.1
      have dR : Dj (fun a => A' a ∧ ¬ Ak a) (Fu Ak B') := fun a p q => q.elim p.2 fun q => dj' a p.1 q
      have apR := s5.apart okR dR
      have okN := s5.okA okR dR ok5
      have trN := re G5 H5 (.nd .lst ds') A5 s5.le (fun a o p n e => s5.fr a o (fun q => dR a ⟨p, n⟩ q) e) tr6 fun a p q => Classical.byContradiction fun n => apR a ⟨q, n⟩ (hA5 a p)
      refine ⟨G5, fun a => A5 a ∨ (A' a ∧ ¬ Ak a), B5, _, done ++ [.nd .lst ds'], by rw [List.length_append, hlen]; rfl, ?_, ?_, ?_, enB5, ?_, hn5⟩
      · refine (st.trans ((s5.frame (A := fun a => A' a ∧ ¬ Ak a)).wide fun a q => ?_)).less fun a q => ?_
        · rcases q with q | q | q
          · exact .inl q.1
          · exact .inl (hAk a q)
          · exact .inr q
        · rcases q with (q | q) | q
          · exact .inr (hA5 a q)
          · exact .inl q
          · exact .inr (hB5 a q)
      · refine okN.less fun a q => ?_
        rcases q with (q | q) | q
        · exact .inr (hA5 a q)
        · exact .inl q
        · exact .inr (hB5 a q)
      · intro a p q
        rcases p with p | p
        · exact d5 a p q
        · exact apR a p (hB5 a q)
      · rw [upd_one e2] at trN
        rw [List.set_append_right _ _ (by omega), hlen, Nat.sub_self, List.set_cons_zero] at trN
        rw [List.append_assoc]
        exact trN
  · have e : k = css.length := by omega
    subst e
    rw [List.drop_length] at hf' tr'
    rw [List.map_nil, List.append_nil] at tr'
    obtain ⟨eh, hP⟩ := hf'
    obtain ⟨v6, A6, B6, ev6, tr6, enB6, d6, hA6, hB6⟩ := en'.take eh
    have ev6' := adr_at tr6 rfl
    subst ev6'
    have en7 := enB6.put ev6 tr' fun a p q => dj' a p (hB6 a q)
    rw [List.set_set] at en7
    exact .inl ⟨⟨vs', .of hl', by omega⟩, kd.nx _ _ ⟨G', _, _, st.less fun a q => q.elim .inl fun q => .inr (hB6 a q), ok'.less fun a q => q.elim .inl fun q => .inr (hB6 a q), en7, hP⟩⟩
end

theorem fz_imp {c : Cw} {m : ME} {σ : L2.St} {H : Hp} {Q : VK} (h : tG c (mFz m) σ H Q) : tG c m σ H Q := by
  obtain ⟨G, F, ρ, P, EX, ok, en, xw, hm, hQ⟩ := h
  refine ⟨G, F, ρ, _, EX, ok, en, xw, hm, fun v H' ⟨G', F', Fv, t, ρ', s, ok', dj, en', tr, u, eu, hP⟩ => ?_⟩
  have okv : Ok G' H' Fv := ok'.less fun a q => .inl q
  obtain ⟨s2, ok2⟩ := GF.step ok' dj
  exact hQ v H' ⟨GF G' H' Fv, F', Fz, u, ρ', (s.trans s2).less fun a q => q.elim (fun z => z.elim) id, ok2.less fun a q => q.elim (fun z => z.elim) id, fun a q => q.elim, en'.stay (GF.le okv) fun a o _ q => q, tr.fz okv eu, hP⟩
theorem sj_setLcF {X : Cx} {W : WX} {elt iter tg : Expr} {ifs : List Expr} {scope : Scope} {pos : Pos} {mi : MI} {g : Tg} {cond : MT} {me : ME} {own : List (Str × Nat)} {i : Nat} {y : Str} {py : Pos} {spos : Pos} {tt : TT} (hc : X.calm = true) (hN : X.N.Nodup) (hy : X.N[i]? = some y) (hyl : X.env.scope.names.lookup y = some .local)
    (hsw : swapsWith (.ListComp elt [⟨tg, iter, ifs, 0⟩] scope pos) (some (.Name y py)) spos.line X.env = pure true) (hi : IJ X W tg iter mi) (ok : BlkOk X.N X.env.scope scope own) (hgs : ∀ j, j ∈ tgS g → j ∈ own.map (·.2))
    (hg : ∀ (s : Shared) (H : Hp) (C : Addr) (cl : List (Str × Addr)) (fp : List Addr), GJ (X.blk s H scope (compEnvC scope cl C X.env) fp) tg g) (ht : ∀ (s : Shared) (H : Hp) (C : Addr) (cl : List (Str × Addr)) (fp : List Addr), PTs (X.blk s H scope (compEnvC scope cl C X.env) fp) ifs tt)
    (htt : ∀ σ H Q, tT ⟨X.K, X.mg, W0⟩ cond σ H Q → tt σ H Q)
    (he : ∀ (s : Shared) (H : Hp) (C : Addr) (cl : List (Str × Addr)) (fp : List Addr), EJ (X.blk s H scope (compEnvC scope cl C X.env) fp) W0 elt me) (hs : ∀ x, foldedSetIterable iter X.env x = pure x := by intro _; rfl) :
    SJ X W (.Assign [.Name y py] (.ListComp elt [⟨tg, iter, ifs, 0⟩] scope pos) spos) (mSet i (mFz (mLc mi g cond me (own.map (·.2))))) :=
  PS_imp (ps_setLc hc hN hy hyl hsw hi ok (fun s H C cl fp => hg s H C cl fp W0) ht he hs) fun D σ H h => by
    have h2 : tAsg (tG (cw X W) (mFz (mLc mi g cond me (own.map (·.2))))) (gName i) D σ H := tS_set h
    exact lc_read (c := cw X W) hgs htt (fz_imp h2)
end FA
set_option Elab.async false
set_option linter.all false
set_option maxRecDepth 100000
namespace FA
open PySem PySem.Spec PyProof.Rows L2

/-! ### chains of three comparisons -/
section
variable {X : Cx} {a b c d : Expr} {ta tb tc td : TE} {pos : Pos}
end
section
variable {c : Cw} {σ : L2.St} {EX : EXk} {P : T → Env → Prop} {Q : VK}
/-- the links, by trees -/
inductive LkS (K : PySem.W.Frag) (c : Cw) : List (R2 × TE) → List (OpT × Opd) → Prop
  | nil : LkS K c [] []
  | cons {r : R2} {o : OpT} {z : Opd} {l : List (R2 × TE)} {l' : List (OpT × Opd)} : OpS K (r2L r) o → LkS K c l l' → LkS K c ((r, tO c z) :: l) ((o, z) :: l')
end
section
variable {X : Cx} {W : WX} {a b c d : Expr} {o1 o2 o3 o4 : Opd} {pos : Pos}
end
end FA
set_option Elab.async false
set_option linter.all false
set_option maxRecDepth 100000
namespace FA
open PySem PySem.Spec PyProof.Rows L2

/-! ### data less than data -/
/-! ### a list turned round -/
/-! ### x[k] op= e, x an owned list at a name -/
/-! ### the least of data -/
def rMinD (K : PySem.W.Frag) : RL := fun xs H Q => ∃ (a : Addr) (vs : List V) (d : PyData) (ds : List PyData), xs = [V.ref a] ∧ SqL K H a vs ∧ DpAll K H vs (d :: ds) ∧ PySem.W.AlikeAll (d :: ds) ∧ PyData.depthAll (d :: ds) < 40 ∧
  ∀ (i : Nat) (z : V), vs[i]? = some z → (d :: ds)[i]? = some (PySem.W.minD d ds) → Q z H
theorem cr_minD {X : Cx} (hc : X.calm = true) (hu : X.A.units + 64 < cLine) : CallR X (.builtin "min") (rMinD X.K) := by
  intro pins s σ H xs us Q I r ⟨a, vs, d, ds, e, hs, hd, hal, hdp, q⟩
  subst e
  obtain ⟨its, rv, hl, hz⟩ := I.list hs
  obtain ⟨u, rfl, ru⟩ := vals1 r
  obtain rfl : u = Value.ref a := ru
  obtain ⟨as, ra⟩ := Dp.readsAll I (d :: ds) vs its hd rv
  refine PySem.W.min_list_data (I.ok.hd hc) hl.isList (by simpa using ra) hal (by omega) fun i v h' tk bs hv hr hk => ?_
  have hv' : its[i]? = some v := by simpa using hv
  obtain ⟨bs2, r2, hi, _⟩ := PySem.W.readsAll_at ra i v hv'
  have r3 : Reads h' v ((d :: ds).getD i .none) bs2 := PyProof.Rows.Reads.keeps hk r2
  have e := (Reads.unique r3 _ _ hr).1
  have hiv : i < vs.length := by
    rw [rv.length]
    exact (List.getElem?_eq_some_iff.mp hv').1
  have ez : vs[i]? = some vs[i] := List.getElem?_eq_getElem hiv
  obtain ⟨w, ew, rw'⟩ := rv.get ez
  rw [hv'] at ew
  cases ew
  refine ⟨vs[i], H, I.kept (t' := tk) hk, rw', q i _ ez ?_⟩
  rw [List.getD_eq_getElem?_getD, List.getElem?_eq_getElem hi] at e
  rw [List.getElem?_eq_getElem hi, ← e]
  rfl
def oMinD : OpT := fun ts P => ∃ (t : T) (d : PyData) (ds : List PyData), ts = [t] ∧ t.isL = true ∧ t.kids = some ((d :: ds).map T.d) ∧ nods (d :: ds) = true ∧ PySem.W.AlikeAll (d :: ds) ∧ PyData.depthAll (d :: ds) < 40 ∧ P (.d (PySem.W.minD d ds))
theorem oMinD_S {K : PySem.W.Frag} : OpS K (rMinD K) oMinD := by
  intro ts vs G H F P Q ok tr ⟨t, d, ds, e, hl, ek, nn, hal, hdp, hP⟩ hQ
  subst e
  obtain ⟨v, rfl, h1⟩ := trs1 tr
  obtain ⟨a, vs', rfl, hk2, trk⟩ := kids_at h1 ok ek
  rcases hk2 with hk2 | hk2
  · have dr := trs_drs trk
    refine ⟨a, vs', d, ds, rfl, hk2.2.1, (dr.le ok.le).dp nn, hal, hdp, fun i z hz hi => hQ _ _ (res_same ok (.d ?_) hP)⟩
    obtain ⟨w, ew, dw⟩ := dr.get' hi
    rw [hz] at ew
    cases ew
    exact dw
  · rw [hl] at hk2
    cases hk2.1
end FA
set_option Elab.async false
set_option linter.all false
set_option maxRecDepth 100000
set_option maxHeartbeats 2000000
namespace L2
open PySem PySem.Spec PyProof.Rows
/-! ### try with several clauses, each binding a name -/
structure Cl where
  c : Value
  i : Nat
  ts : Addr → Value → Option Addr → TS
inductive ClsOk (X : Cx) : List ExceptHandler → List Cl → Prop
  | nil : ClsOk X [] []
  | cons {x n : Str} {l : Cl} {b : Stmt} {bs : List Stmt} {np hp : Pos} {hds : List ExceptHandler} {r : List Cl} (hN : X.N.Nodup) (hi : X.N[l.i]? = some n) (hln : X.env.kindOf n = some .local) (hc : Names X x l.c)
      (hsu : ∀ (a : Addr) (oe : Obj) (cls : Value) (d : Option Addr) (pn : List (Addr × Obj)), Zc cls d oe → (∃ us, oe.data = .fields us) → PSs (X.suite a ((a, oe) :: pn)) (b :: bs) (l.ts a cls d)) (hr : ClsOk X hds r) :
      ClsOk X (.ExceptHandler (some (.Name x np)) (some n) (b :: bs) hp :: hds) (l :: r)
section
variable {X : Cx} {pins : List (Addr × Obj)} {σ : St} {H : Hp}
/-- the state as an exception flies in front of the clauses -/
structure Air (X : Cx) (pins : List (Addr × Obj)) (Bg : Heap) (e : Addr) (cls : Value) (d : Option Addr) (τ : St) (J : Hp) (sI t : Shared) : Prop where
  inv : Inv X pins τ J sI
  out : ∀ b o, sI.heap.get? b = some o → b ∉ frs X.stack → Bg.get? b = some o
  up : sI.heap.UpToSlots t.heap
  fly : HandSPX.FlyingZ Bg (X.env :: X.outer) e (Zc cls d) t.heap
  no : J e = none
  os : t.os = sI.os
  gens : AllBare t.gens
/-- no frame of ours -/
theorem Air.apart {Bg : Heap} {e : Addr} {cls : Value} {d : Option Addr} {τ : St} {J : Hp} {sI t : Shared} (A : Air X pins Bg e cls d τ J sI t) (hs : X.stack = X.env :: X.outer) (hf : X.env.frame = some X.env.locals) : e ≠ X.env.locals ∧ e ∉ X.fs := by
  obtain ⟨ob, us, g1, g2, g3⟩ := A.fly.there
  have nfr : e ∉ frs (X.env :: X.outer) := fun hm => by
    obtain ⟨_, ob2, g4, g5⟩ := A.fly.2.2.1.mem hm
    rw [g1] at g4
    cases g4
    exact g5 _ g3
  refine ⟨fun z => nfr (List.mem_filterMap.mpr ⟨X.env, List.mem_cons_self, ?_⟩), fun hm => ?_⟩
  · rw [hf, z]
  · obtain ⟨v, hv, q⟩ := List.mem_filterMap.mp hm
    exact nfr (List.mem_filterMap.mpr ⟨v, List.mem_cons_of_mem _ hv, q⟩)
end
end L2
set_option Elab.async false
set_option linter.all false
set_option maxRecDepth 100000
set_option maxHeartbeats 2000000
namespace L2
open PySem PySem.Spec PyProof.Rows
/-! ### C.__init__(self, ..), C an own class that takes ValueError's -/
structure VeiC (K : PySem.W.Frag) (C : Addr) : Prop where
  g : PySem.W.specialIn K (.ref C) "__getattribute__" = some (some (.builtin "type.__getattribute__"))
  t : PySem.W.typeIn K (.ref C) = some (.type "type")
  r : PySem.W.readsIn K C (.type "type") = true
  v : PySem.W.findCls K (.ref C) (.type "type") "__init__" = some (.val (.builtin "ValueError.__init__"))
theorem pe_fei {X : Cx} {x : Str} {C0 : Addr} {e : Expr} {es : List Expr} {ta : TA} {p1 p2 pos : Pos} {pl : Sem Bool} (hg : Gl X x) (hm : X.mg x = some (.ref C0)) (v : VeiC X.K C0) (ha : PA X (e :: es) ta) (hdb : (x == ("__debug__" : Str)) = false := by decide)
    (hc : eval (.Call (.Attribute (.Name x p1) "__init__" p2) (e :: es) [] pos) X.env = (do
      let ov ← eval (.Name x p1) X.env
      standAt p2.atName
      let (f, first) ← holding [ov] (getMethod ov "__init__" pl)
      callWith pos f first (backTo pos (starEach (e :: es) X.env)) (backToKw pos (keywordEach [] X.env))) := by rfl)
    (he : starEach (e :: es) X.env = (false, eval e X.env) :: starEach es X.env := by rfl) (hpl : (backTo pos (starEach es X.env)).any (·.1) = false := by rfl) :
    PE X (.Call (.Attribute (.Name x p1) "__init__" p2) (e :: es) [] pos) (tVeI X.K ta) := by
  refine ⟨fun pins s σ H Q I h => PySem.W.methodCall_KW (ld_glob I hg hm ?_ hdb) hc⟩
  obtain ⟨m, fr⟩ := I.fr
  refine PySem.W.method_of_cls fr I.ok.mod.kin v.g (PySem.W.cls_val fr I.ok.mod.kin v.t v.r v.v (by decide +kernel) ?_)
  show wpAny _ _ (callWith pos (Value.builtin "ValueError.__init__") [] (backTo pos (starEach (e :: es) X.env)) []) _ _ _
  refine PyProof.Rows.callWith_method1 (thn (ha.run pos pins _ σ H _ (I.tok _) h) fun us t ⟨vs, J, It, rv, a, C, ws, ev, hl, T, ea, q⟩ => ?_) he hpl
  subst ev
  cases rv with
  | @cons _ u0 _ ur ra rr =>
    obtain rfl : u0 = Value.ref a := ra
    refine oinit_ok T It ea ?_ fun t2 I2 => ⟨.non, J, I2, rfl, q⟩
    rw [← Paired.length rr, sizeLine_eq]
    omega
/-! ### an own __init__ that stores what it is given -/
/-- fields in the dict behind: the last one stands first -/
def flds (fs : List Str) (vs : List V) : List (Str × V) := (fs.zip vs).reverse
/-- what such an __init__ does -/
def spIni (K : PySem.W.Frag) (C : Addr) (fs : List Str) : Sp := fun vs H Q _ => ∃ (a : Addr) (ws : List V), vs = .ref a :: ws ∧ ws.length = fs.length ∧ OexC K C ∧ (∀ f ∈ fs, PySem.W.findIn K (.ref C) f = some none) ∧ H a = some (exo a C none) ∧
  ∀ dx H', H dx = none → dx ≠ a → (∀ b, b ≠ a → b ≠ dx → H' b = H b) → H' a = some (exo a C (some dx)) → H' dx = some (exd dx (flds fs ws)) → Q .non H'
/-- the stores, from the i-th on -/
def tSts (K : PySem.W.Frag) : Nat → List Str → TS
  | _, [] => tNext
  | i, f :: fs => tSeq (tOst K f (tVar 0) (tVar i)) (tSts K (i + 1) fs)
theorem sts_more {K : PySem.W.Frag} {a C : Addr} {D : Ends} {σ : St} (T : OexC K C) : ∀ (fs : List Str) (ws : List V) (i : Nat) (done : List (Str × V)) (H : Hp) (dx : Addr), ws.length = fs.length → (∀ f ∈ fs, PySem.W.findIn K (.ref C) f = some none) → σ[0]? = some (some (.ref a)) → (∀ k w, ws[k]? = some w → σ[i + k]? = some (some w)) →
    H a = some (exo a C (some dx)) → H dx = some (exd dx done) → dx ≠ a → done.length + fs.length ≤ 900 → (∀ H', (∀ b, b ≠ dx → H' b = H b) → H' dx = some (exd dx ((fs.zip ws).reverse ++ done)) → D.nx σ H') → tSts K i fs D σ H
  | [], ws, i, done, H, dx, hl, _, _, _, ha, hd, hne, _, h => by
    have e : ws = [] := List.length_eq_zero_iff.mp hl
    subst e
    exact h H (fun _ _ => rfl) hd
  | f :: fs, [], _, _, _, _, hl, _, _, _, _, _, _, _, _ => by cases hl
  | f :: fs, w :: ws, i, done, H, dx, hl, hf, h0, hw, ha, hd, hne, hz, h => by
    rw [List.length_cons] at hz
    refine ⟨w, hw 0 w rfl, .ref a, h0, a, C, rfl, T, hf f List.mem_cons_self, .inr ⟨dx, done, ha, hd, by omega, ?_⟩⟩
    refine sts_more T fs ws (i + 1) ((f, w) :: done) _ dx (Nat.succ.inj hl) (fun g hg => hf g (List.mem_cons_of_mem _ hg)) h0 (fun k u e => ?_) ?_ upd_same hne (by rw [List.length_cons]; omega) fun H' k1 k2 => h H' (fun b hb => (k1 b hb).trans (upd_ne hb)) ?_
    · have := hw (k + 1) u e
      rw [show i + 1 + k = i + (k + 1) by omega]
      exact this
    · rw [upd_ne (Ne.symm hne)]
      exact ha
    · rw [k2, List.zip_cons_cons, List.reverse_cons, List.append_assoc]
      rfl
theorem sts_all {K : PySem.W.Frag} {a C : Addr} {D : Ends} {σ : St} {H : Hp} (T : OexC K C) (fs : List Str) (ws : List V) (i : Nat) (hl : ws.length = fs.length) (h1 : fs ≠ []) (hz : fs.length ≤ 900) (hf : ∀ f ∈ fs, PySem.W.findIn K (.ref C) f = some none) (h0 : σ[0]? = some (some (.ref a))) (hw : ∀ k w, ws[k]? = some w → σ[i + k]? = some (some w))
    (ha : H a = some (exo a C none)) (h : ∀ dx H', H dx = none → dx ≠ a → (∀ b, b ≠ a → b ≠ dx → H' b = H b) → H' a = some (exo a C (some dx)) → H' dx = some (exd dx (flds fs ws)) → D.nx σ H') : tSts K i fs D σ H := by
  cases fs with
  | nil => exact absurd rfl h1
  | cons f fs =>
    cases ws with
    | nil => cases hl
    | cons w ws =>
      rw [List.length_cons] at hz
      refine ⟨w, hw 0 w rfl, .ref a, h0, a, C, rfl, T, hf f List.mem_cons_self, .inl ⟨ha, fun dx hd hne => ?_⟩⟩
      refine sts_more T fs ws (i + 1) [(f, w)] _ dx (Nat.succ.inj hl) (fun g hg => hf g (List.mem_cons_of_mem _ hg)) h0 (fun k u e => ?_) upd_same ?_ hne (by rw [List.length_singleton]; omega) fun H' k1 k2 => h dx H' hd hne (fun b b1 b2 => ?_) ?_ ?_
      · have := hw (k + 1) u e
        rw [show i + 1 + k = i + (k + 1) by omega]
        exact this
      · rw [upd_ne hne]
        exact upd_same
      · rw [k1 b b2, upd_ne b1, upd_ne b2]
      · rw [k1 a (Ne.symm hne)]
        exact upd_same
      · rw [k2]
        unfold flds
        rw [List.zip_cons_cons, List.reverse_cons]
/-- the reading of the whole body -/
def tIni (K : PySem.W.Frag) (m : Str) (fs : List Str) : TS := tSeq (tDrop (tVeI K (tCons (tVar 0) (tCons (tC (.str m)) tNil)))) (tSts K 1 fs)
theorem pure_ini {K : PySem.W.Frag} {C : Addr} {fs : List Str} {N : List Str} {m : Str} {vs : List V} {H : Hp} {Q : VK} {E : XK} (hN : N.length = fs.length + 1) (h1 : fs ≠ []) (hz : fs.length ≤ 900) (h : spIni K C fs vs H Q E) : tIni K m fs { nx := fun _ H' => Q .non H', rt := Q } (start N vs) H := by
  obtain ⟨a, ws, rfl, hl, T, hf, ha, hQ⟩ := h
  have es : start N (.ref a :: ws) = some (.ref a) :: ws.map some := by
    unfold start
    rw [hN, List.length_cons, hl, Nat.sub_self, List.replicate_zero, List.append_nil, List.map_cons]
  rw [es]
  refine ⟨_, rfl, a, C, [.str m], rfl, (by show 1 ≤ 1000; decide), T, ha, ?_⟩
  refine sts_all T fs ws 1 hl h1 hz hf rfl (fun k w e => ?_) ha fun dx H' k1 k2 k3 k4 k5 => hQ dx H' k1 k2 k3 k4 k5
  rw [Nat.add_comm 1 k, List.getElem?_cons_succ, List.getElem?_map, e]
  rfl
end L2
namespace FA
open PySem PySem.Spec PyProof.Rows L2
/-! ### own classes of exceptions -/
structure XC (K : PySem.W.Frag) (mg : Str → Option Value) (x : Str) (C : Addr) : Prop where
  g : mg x = some (.ref C)
  k : PySem.W.keepIn K (.ref C) = true
  b : PySem.W.subIn K (.ref C) (.type "BaseException") = some true
  t : PySem.W.typeIn K (.ref C) = some (.type "type")
  i : PySem.W.isClsIn K C = true
  hd : PySem.W.hasDictIn K C = true
  s : PySem.W.subIn K (.ref C) (.ref C) = some true
  ga : PySem.W.findIn K (.ref C) "__getattribute__" = some (some (.builtin "BaseException.__getattribute__"))
  gg : PySem.W.findIn K (.ref C) "__getattr__" = some none
  ca : PySem.W.findIn K (.ref C) "__class__" = some (some (.builtin "object.__class__"))
  cn : PySem.W.specialIn K (.builtin "object.__class__") "__get__" = some (some (.builtin "getset_descriptor.__get__"))
  ct : PySem.W.takesIn K (.builtin "object.__class__") = some true
  mo : PySem.W.mroIn K C (.type "object") = some true
/-- without own __init__ -/
abbrev XC0 (K : PySem.W.Frag) (C : Addr) : Prop := PySem.W.excIn K C [.type "ValueError", .type "Exception", .type "BaseException", .type "object"] "ValueError.__new__" = true
/-! ### raise -/
def mRaise (x : Str) : MS := fun ρ EX _ => EX ⟨x, []⟩ ρ
section
variable {X : Cx} {W : WX} {x m : Str} {C : Addr} {j : Nat} {p p2 pos pos2 : Pos}
theorem sj_raise (c : XC X.K X.mg x C) (c0 : XC0 X.K C) (hc : X.calm = true) (tk : Takes X W) (hg : Gl X x := by rfl) (hdb : (x == ("__debug__" : Str)) = false := by decide +kernel) :
    SJ X W (.Raise (some (.Call (.Name x p) [.Constant (.str m) j p2] [] pos)) none pos2) (mRaise x) := by
  refine PS_imp (ps_raise hc tk (pmk_own PySem.F.excBase_ValueError c0 c.g c.k (raises_own c.b c.t) hg hdb)) fun D σ H ⟨G, F, ρ, κ, EX, ok, en, xw, hm, kd⟩ => ?_
  exact xw σ ⟨x, []⟩ ρ (.ref C) none G H F hm .refl ok en ⟨⟨C, c.g, rfl⟩, fun _ => rfl, fun z => absurd rfl z⟩
/-- raise of a class whose __init__ stores what it is given -/
def mRaiseI (x : Str) (fs : List Str) (os : List Opd) : MS := fun ρ EX _ => mA os ρ EX fun ts ρ' => ∃ ds : List PyData, ts = ds.map T.d ∧ ds.all flatD = true ∧ ds.length = fs.length ∧ EX ⟨x, (fs.zip ds).reverse⟩ (back os ts ρ')
theorem sj_raiseI {e : Expr} {es : List Expr} {os : List Opd} {fs : List Str} {fI : Addr} {k : Nat} {fd : FuncData} {ps : List Str} (c : XC X.K X.mg x C) (O : OexC X.K C) (hno : ∀ f ∈ fs, PySem.W.findIn X.K (.ref C) f = some none) (iC : PySem.W.findIn X.K (.ref C) "__init__" = some (some (.ref fI))) (tI : PySem.W.typeIn X.K (.ref fI) = some (.type "function"))
    (F1 : FnOk X.prog X.w X.K X.mg X.base (L2.CX X.prog X.w) k fI fd ps (spIni X.K C fs)) (hr : Room (k + 1) X.A) (hb : Binds X.K fd ps []) (hf9 : fs.length ≤ 900) (hf0 : fs ≠ []) (ha : EAs X W (e :: es) os) (hc : X.calm = true) (tk : Takes X W) (hg : Gl X x := by rfl) (hdb : (x == ("__debug__" : Str)) = false := by decide +kernel)
    (he : starEach (e :: es) X.env = (false, eval e X.env) :: starEach es X.env := by rfl) (hpl : (backTo pos (starEach es X.env)).any (·.1) = false := by rfl) :
    SJ X W (.Raise (some (.Call (.Name x p) (e :: es) [] pos)) none pos2) (mRaiseI x fs os) := by
  refine PS_imp (ps_raise hc tk (pmk_oex O iC tI F1 hr hb .nil passL hg c.g ha hdb he hpl)) fun D σ H ⟨G, F, ρ, κ, EX, ok, en, xw, hm, kd⟩ => ?_
  refine mA_read ok en (xw σ) hm fun vs H1 G1 F1 Fa ts ρ1 s1 ok1 dj en1 tr bk hP => ?_
  obtain ⟨ds, rfl, hfl, hl, hX⟩ := hP
  have ev := flats_pV (trs_drs tr) hfl
  have hvl : vs.length = ds.length := by rw [ev, List.length_map]
  refine ⟨by omega, fun a ha1 => ?_⟩
  rw [List.append_nil]
  refine ⟨a, vs, rfl, by omega, O, hno, upd_same, fun dx H2 k1 k2 k3 k4 k5 => ⟨rfl, dx, flds fs vs, k4, k5, ?_, ?_⟩⟩
  · rw [upd_ne k2] at k1
    exact k1
  · rw [upd_ne k2] at k1
    have hother : ∀ b, b ≠ dx → (upd (del H2 a) dx (.xd (flds fs vs))) b = H1 b := fun b hb => by
      rw [upd_ne hb]
      by_cases hba : b = a
      · rw [hba, del_same, ha1]
      · rw [del_ne hba, k3 b hba hb, upd_ne hba]
    have s2 : Step G1 H1 (Fu Fa F1) G1 (upd (del H2 a) dx (.xd (flds fs vs))) (Fu Fa F1) := by
      refine ⟨.refl _, fun b h => .inl h, fun b o n q => ?_, fun b q => ?_, fun b q => .inl q⟩
      · rw [hother b fun z => by rw [z, k1] at q; cases q]
        exact q
      · by_cases hb : b = dx
        · rw [hb, upd_same]; simp
        · rw [hother b hb]; exact q
    have ok2 : Ok G1 (upd (del H2 a) dx (.xd (flds fs vs))) (Fu Fa F1) := by
      refine ⟨fun b o q => ?_, ok1.no, fun b q => ?_⟩
      · rw [hother b fun z => by have := ok1.le b o q; rw [z, k1] at this; cases this]
        exact ok1.le b o q
      · have cc := ok1.cell b q
        rw [hother b fun z => by rw [z, k1] at cc; exact cc]
        exact cc
    have en2 : EnvR (cw X W).K G1 (upd (del H2 a) dx (.xd (flds fs vs))) σ (back os (ds.map T.d) ρ1) (Fu Fa F1) := (back_ok en1 tr dj bk).stay (.refl _) fun b o q z => by
      rw [hother b fun y => by rw [y, k1] at z; cases z]
      exact z
    refine xw σ _ _ (.ref C) (some dx) G1 _ _ hX (s1.trans s2) ok2 en2 ⟨⟨C, c.g, rfl⟩, fun z => ?_, fun _ => ⟨dx, rfl, ?_⟩⟩
    · exfalso
      have h0 : (fs.zip ds).reverse.length = 0 := by rw [show (fs.zip ds).reverse = [] from z]; rfl
      rw [List.length_reverse, List.length_zip, hl, Nat.min_self] at h0
      exact hf0 (List.length_eq_zero_iff.mp h0)
    · rw [upd_same, ev]
      unfold flds
      rw [List.zip_map_right, List.map_reverse]
      rfl
end
end FA
set_option Elab.async false
set_option linter.all false
set_option maxRecDepth 100000
set_option maxHeartbeats 2000000
namespace FA
open PySem PySem.Spec PyProof.Rows L2
/-! ### try: body, except C as n: suite, .. -/
structure HM where
  c : Str → Option Bool
  i : Nat
  m : Exc → Addr → Option Addr → MS
/-- where a suite stands -/
inductive HdsM (X : Cx) : List ExceptHandler → List HM → Prop
  | nil : HdsM X [] []
  | cons {x n : Str} {c : Value} {h : HM} {b : Stmt} {bs : List Stmt} {np hp : Pos} {hds : List ExceptHandler} {r : List HM} (hN : X.N.Nodup) (hi : X.N[h.i]? = some n) (hln : X.env.kindOf n = some .local) (hc : Names X x c)
      (hcat : ∀ nm C y, h.c nm = some y → X.mg nm = some (.ref C) → PySem.W.exmOne X.K (.ref C) c = some y)
      (hsu : ∀ (a : Addr) (oe : Obj) (y : Exc) (C : Addr) (d : Option Addr) (pn : List (Addr × Obj)), X.mg y.cls = some (.ref C) → h.c y.cls = some true → (y.fs = [] → d = none) → Zc (.ref C) d oe → (∃ us, oe.data = .fields us) → SJs (X.suite a ((a, oe) :: pn)) (fun _ _ _ _ => False) (b :: bs) (h.m y a d))
      (hr : HdsM X hds r) : HdsM X (.ExceptHandler (some (.Name x np)) (some n) (b :: bs) hp :: hds) (h :: r)
section
variable {X : Cx} {W : WX}
/-! ### in a suite: the exception's fields, its class -/
end
end FA
set_option Elab.async false
set_option linter.all false
set_option maxRecDepth 100000
set_option maxHeartbeats 2000000
namespace HT
open PySem PySem.Spec PySem.Calls PyProof.Rows
section
variable {prog : Program} {w : World} {A : Around} {E : Value → Shared → Prop} {s : Shared}
/-- the places of [::-1] in a tuple of three -/
theorem applied_rev3 {sl : Addr} {vs : Value} {Q : Int × Int × Nat → Shared → Prop} (hs : s.heap.IsSliceOf sl .none .none vs) (ps : IsPart vs (some (-1))) (h : Q (2, -1, 3) s) : wpAny (model prog w) A (Builtin.Slice.sliceApplied (.ref sl) (pure ((3 : Nat) : Int))) Q E s := by
  obtain ⟨ob, g1, g2, g3⟩ := id hs
  unfold Builtin.Slice.sliceApplied Builtin.Slice.sliceFields
  refine wpAny_bind (wpAny_bind (wpAny_field g1 g3 (x := .none) rfl (wpAny_bind (wpAny_field g1 g3 (x := .none) rfl (wpAny_bind (wpAny_field g1 g3 (x := vs) rfl (wpAny_pure ?_)))))))
  refine wpAny_bind (slicePart_ ps ?_)
  show wpAny _ _ (if ((-1 : Int) == 0) = true then _ else _) _ _ s
  rw [if_neg (by decide)]
  refine wpAny_bind (slicePart_none (wpAny_bind (slicePart_none (wpAny_bind (wpAny_pure ?_)))))
  exact wpAny_pure h
theorem getItem_rev3 {t sl : Addr} {x y z vs : Value} {Q : Value → Shared → Prop} (ht : IsTup s.heap t [x, y, z].toArray) (hs : s.heap.IsSliceOf sl .none .none vs) (ps : IsPart vs (some (-1)))
    (h : Q (.ref s.heap.objs.size) { s with heap := s.heap.push { cls := .type "tuple", data := .seq [z, y, x].toArray } }) : wpAny (model prog w) A (getItem (.ref t) (.ref sl)) Q E s := by
  obtain ⟨ob, g1, g2, g3⟩ := id hs
  have g4 : s.TypeIs (.ref sl) "slice" := ⟨ob, g1, g2⟩
  unfold getItem
  try with_reducible refine wpAny_holding ?_
  first
    | refine wpAny_bind (wpAny_pure ?_)
    | skip
  refine wpAny_bind (wpAny_sequenceKey ht.typeIs (by decide) ?_)
  refine wpAny_bind (wpAny_callSpecial?_slot (name := Str.ofString "__getitem__") ht.typeIs PyProof.Rows.slot_tuple_getitem
    (wpAny_call_entry PyProof.Rows.slot_tuple_getitem ht.typeIs entry_tuple_getitem ?_ (args_tuple_getitem (.ref t) (.ref sl))))
  show wpAny _ _ (Builtin.Tuple.tupleItemsOf (.ref t) >>= _) _ _ s
  refine wpAny_bind (tupleItemsOf_ ht (wpAny_bind (wpAny_typeOf g4 ?_)))
  rw [if_pos (by decide)]
  refine wpAny_bind (applied_rev3 hs ps ?_)
  show wpAny _ _ (if ((2 : Int) == 0 && (-1 : Int) == 1 && (3 : Nat) == [x, y, z].toArray.size) = true then _ else _) _ _ s
  rw [if_neg (by simp)]
  have e : ((List.range 3).filterMap fun (m : Nat) => [x, y, z].toArray[((2 : Int) + (m : Int) * (-1)).toNat]?).toArray = [z, y, x].toArray := by rfl
  have e3 : (3 : Nat) ≤ sizeLine := by decide
  first
    | exact wpAny_bind (m := Builtin.Tuple.tupleExact _) (wpAny_newObj_type (wpAny_pure ⟨_, rfl, wpAny_pure h⟩) e3)
    | exact wpAny_bind (wpAny_bind (m := Builtin.Tuple.tupleExact _) (wpAny_newObj_type (wpAny_pure ⟨_, rfl, wpAny_pure h⟩) e3))
    | exact wpAny_bind (m := Builtin.Tuple.tupleExact _) (wpAny_newObj_type (wpAny_bind (wpAny_pure (wpAny_pure ⟨_, rfl, wpAny_pure h⟩))) e3)
    | exact wpAny_bind (wpAny_bind (m := Builtin.Tuple.tupleExact _) (wpAny_newObj_type (wpAny_pure (wpAny_pure ⟨_, rfl, wpAny_pure h⟩)) e3))
end
end HT
namespace L2
open PySem PySem.Spec PyProof.Rows
def tRev3 (K : PySem.W.Frag) (te : TE) : TE := fun σ H Q => te σ H fun v H1 => ∃ a x y z, v = .ref a ∧ SqT K H1 a [x, y, z] ∧ ∀ p, H1 p = none → Q (.ref p) (upd H1 p (.tup [z, y, x]))
theorem pe_rev3 {X : Cx} {e : Expr} {te : TE} {k : Nat} {p1 p2 p3 pos : Pos} (he : PE X e te) : PE X (.Subscript e (.Slice none none (some (.UnaryOp .USub (.Constant (.int 1) k p1) p2)) p3) pos) (tRev3 X.K te) := by
  refine ⟨fun pins s σ H Q I h => Subscript_ (thn (he.run pins s σ H _ I h) fun v s1 ⟨u, H1, I1, r1, a, x, y, z, eu, hx, q⟩ => ?_)⟩
  subst eu
  cases r1
  have part : PO X (some (.UnaryOp .USub (.Constant (.int 1) k p1) p2)) (tPart (tUn (rU fun i => .int (-i)) (tC (.int 1)))) := po_some (pe_un un_neg pe_int)
  refine wpAny_Slice (thn (po_none.run pins s1 σ H1 (fun o J => o = none ∧ J = H1) I1 ⟨rfl, rfl⟩) fun vl s2 ⟨o, J, I2, pl, eo, eJ⟩ => ?_)
  subst eo eJ
  refine thn (po_none.run pins s2 σ J (fun o J' => o = none ∧ J' = J) I2 ⟨rfl, rfl⟩) fun vu s3 ⟨o, J', I3, pu, eo, eJ⟩ => ?_
  subst eo eJ
  refine thn (part.run pins s3 σ J' (fun o J2 => o = some (-1) ∧ J2 = J') I3 ⟨1, rfl, -1, rfl, rfl, rfl⟩) fun vs s4 ⟨o, J2, I4, ps, eo, eJ⟩ => ?_
  subst eo eJ
  cases pl
  cases pu
  have I5 : Inv X pins σ J2 { s4 with heap := s4.heap.push { cls := .type "slice", data := .fields #[.none, .none, vs] } } := I4.kept (t' := s4.toks) fun b ob q => Heap.get?_push_of_some _ q
  obtain ⟨its, r, ht, hz⟩ := I5.tuple hx
  cases r with
  | cons rx r =>
    cases r with
    | cons ry r =>
      cases r with
      | cons rz r =>
        cases r
        rename_i ux _ uy _ uz _
        show wpAny (model X.prog X.w) X.A (subscriptTail e (.Slice none none (some (.UnaryOp .USub (.Constant (.int 1) k p1) p2)) p3) (.ref a) (.ref s4.heap.objs.size)) (EP X pins σ Q) X.xe _
        refine tail_any (ops := [.ref a, .ref s4.heap.objs.size]) ht.typeIs PyProof.Rows.slot_tuple_getitem.lookup ?_ (by with_unfolding_all rfl)
        refine HT.getItem_rev3 ht (Heap.IsSliceOf.new _ .none .none vs) ps ?_
        refine ⟨.ref _, _, I5.laid (t' := s4.toks) (o := .tup [z, y, x]) (fun b ob q => Heap.get?_push_of_some _ q) (Nat.le_refl _) ?_, rfl, q _ (I5.hok.fresh (Nat.le_refl _))⟩
        exact ⟨by show 3 ≤ sizeLine; decide, _, .cons rz (.cons ry (.cons rx .nil)), IsTup.new _ _⟩
end L2
namespace FA
open PySem PySem.Spec PyProof.Rows L2
section
variable {X : Cx} {W : WX} {e a : Expr} {m mk : ME} {pos p1 p2 p3 cpos apos : Pos}
/-! ### a tuple of three, turned round -/
def mRev3 (m : ME) : ME := fun ρ EX P => m ρ EX fun t ρ' => ∃ d1 d2 d3, t = .d (.tuple [d1, d2, d3]) ∧ P (.d (.tuple [d3, d2, d1])) ρ'
theorem ej_rev3 {k : Nat} (h : EJ X W e m) : EJ X W (.Subscript e (.Slice none none (some (.UnaryOp .USub (.Constant (.int 1) k p1) p2)) p3) pos) (mRev3 m) := by
  refine PE_imp (pe_rev3 h) fun σ H Q ⟨G, F, ρ, P, EX, ok, en, xw, hm, hQ⟩ => ?_
  refine ⟨G, F, ρ, _, EX, ok, en, xw, hm, fun v H' ⟨G', F', Fv, t, ρ', s, ok', dj, en', tr, d1, d2, d3, et, hP⟩ => ?_⟩
  subst et
  have t1 := tr.dr
  rw [DR] at t1
  obtain ⟨a, vs, rfl, s1, r1⟩ := t1
  obtain ⟨x, y, z, rfl, rx, ry, rz⟩ : ∃ x y z, vs = [x, y, z] ∧ DR (cw X W).K G' d1 x ∧ DR (cw X W).K G' d2 y ∧ DR (cw X W).K G' d3 z := by
    rw [DRs] at r1
    obtain ⟨x, vs, rfl, rx, r1⟩ := r1
    rw [DRs] at r1
    obtain ⟨y, vs, rfl, ry, r1⟩ := r1
    rw [DRs] at r1
    obtain ⟨z, vs, rfl, rz, r1⟩ := r1
    rw [DRs] at r1
    subst r1
    exact ⟨x, y, z, rfl, rx, ry, rz⟩
  have okF : Ok G' H' F' := ok'.less fun a q => .inr q
  refine ⟨a, x, y, z, rfl, .of (ok'.le _ _ s1), fun p hp => hQ _ _ ?_⟩
  have r2 : DRs (cw X W).K G' [d3, d2, d1] [z, y, x] := by
    rw [DRs]
    refine ⟨_, _, rfl, rz, ?_⟩
    rw [DRs]
    refine ⟨_, _, rfl, ry, ?_⟩
    rw [DRs]
    exact ⟨_, _, rfl, rx, by rw [DRs]⟩
  obtain ⟨s2, ok2, dt⟩ := new_tup (K := (cw X W).K) okF r2 hp
  exact ⟨_, F', Fz, _, ρ', ((s.less fun a q => .inr q).trans s2).less fun a q => q.elim (fun z => z.elim) id, ok2.less fun a q => q.elim (fun z => z.elim) id, fun _ z => z.elim, en'.stay s2.le fun b o _ z => (upd_ne (ne_of_none z hp)).trans z, .d dt, hP⟩
/-! ### len of a place in a tree -/
/-! ### bools.index(True) -/
/-! ### {} as a thing of which no more is known than its kind -/
end
end FA
set_option Elab.async false
set_option linter.all false
set_option maxRecDepth 100000
set_option maxHeartbeats 2000000
namespace FA
open PySem PySem.Spec PyProof.Rows L2
/-! ### defs that take what they are given for their own -/
section
variable {X : Cx} {W : WX} {e : Expr} {pos : Pos}
end
section
variable {P : Program} {w : World} {K : PySem.W.Frag} {mg : Str → Option Value} {base : Heap}
end

/-! ### three names at once -/
section
variable {X : Cx} {W : WX} {a b c : Expr} {px py pz pt pt2 pos : Pos} {kt k2 : Nat} {x y z : Str} {os : List Opd}
end
/-! ### names of several kinds at once: leaves -/
section
variable {X : Cx} {W : WX} {es xs : List Expr} {pt pt2 pos : Pos} {kt k2 : Nat} {os : List Opd} {gs : List Tg}
end
/-! ### a door as a thing of its kind -/
structure DoorC (K : PySem.W.Frag) (mg : Str → Option Value) (D fI : Addr) : Prop where
  g : mg "Door" = some (.ref D)
  mm : Mk K D fI
  cl : Cls K D
  nw : NoAttr K D "door_width"
  nr : NoAttr K D "told_rows"
  ha : PySem.W.findIn K (.ref D) "__class__" = some (some (.builtin "object.__class__"))
  hn : PySem.W.specialIn K (.builtin "object.__class__") "__get__" = some (some (.builtin "getset_descriptor.__get__"))
  ht : PySem.W.takesIn K (.builtin "object.__class__") = some true
  hm : PySem.W.mroIn K D (.type "object") = some true
  li : PySem.W.subIn K (.ref D) (.type "list") = some false
section
variable {X : Cx} {W : WX} {e : Expr} {pos p : Pos} {os : List Opd} {D fI : Addr} {k : Nat} {fd : FuncData} {ps : List Str}
end
end FA
set_option Elab.async false
set_option linter.all false
set_option maxRecDepth 100000
set_option maxHeartbeats 2000000
namespace FA
open PySem PySem.Spec PyProof.Rows L2
/-! ### x[q][k] = leaf, where k looks at x[q] -/
/-- a list's address written down -/
theorem TR.lab {K : PySem.W.Frag} {G H : Hp} {kd : Kd} {cs : List T} {v : V} {A : Fp} (h : TR K G H (.nd kd cs) v A) (hk : kd.isLst = true) : ∃ l, v = .ref l ∧ TR K G H (.nd (.lsa l) cs) v A := by
  cases h with
  | @nd _ _ l vs _ fs h1 h2 h3 h4 h5 h6 h7 => exact ⟨l, rfl, .nd fs ⟨rfl, h1.lst hk⟩ h2 h3 h4 h5 h6 h7⟩
section
variable {X : Cx} {W : WX} {e a b : Expr} {m mk : ME} {mb : MB} {pos pos' : Pos} {i : Nat}
end
end FA
set_option Elab.async false
set_option linter.all false
set_option maxRecDepth 100000
namespace FA
open PySem PySem.Spec PyProof.Rows L2

/-! ### steps -/
local macro_rules | `(tactic| walk_at "x") => `(tactic| repeat (first
  | with_reducible refine x_seq ?_ | with_reducible refine x_set ?_ | with_reducible refine x_ret ?_ | with_reducible refine x_Ae ?_ | with_reducible refine x_A0 ?_ | with_reducible refine x_C ?_ | with_reducible refine x_I ?_ | with_reducible refine x_add ?_
  | with_reducible refine x_int ?_ | with_reducible refine x_abs ?_ | with_reducible refine x_bits ?_ | with_reducible refine x_bits' ?_ | with_reducible refine x_setc ?_ | with_reducible refine x_eqI ?_ | with_reducible refine x_fz ?_
  | ((with_reducible refine x_op ?_ ?hn); (case hn => rfl)) | ((with_reducible refine x_call ?_ ?hn); (case hn => rfl))
  | ((with_reducible show mA (Opd.b _ :: _) _ _ _); refine x_Ab rfl rfl ?_) | ((with_reducible show mVar _ _ _ _); refine x_var rfl rfl ?_)
  | ((with_reducible show mRd _ (bIx (bVar _) (mC _)) _ _ _); refine x_rdc rfl rfl rfl rfl rfl ?_)
  | with_reducible refine x_if ?_ | with_reducible refine x_ifS ?_ | with_reducible refine x_val ?_ | with_reducible refine x_bool ?_
  | with_reducible refine x_neg ?_ | with_reducible refine x_min ?_ | with_reducible refine x_max ?_ | with_reducible refine x_next ?_ | with_reducible refine x_kill ?_ | with_reducible refine x_retN ?_ | with_reducible refine x_tand ?_ | with_reducible refine x_tor ?_
  | with_reducible refine x_tnot ?_ | with_reducible refine x_and ?_ | with_reducible refine x_or ?_ | with_reducible refine x_not ?_ | with_reducible refine x_drop ?_))

/-! ### sheets -/
abbrev Sh := List (List Int)
def rowD (r : List Int) : PyData := .list (r.map .int)
def shD (s : Sh) : PyData := .list (s.map rowD)
def cell (s : Sh) (d k : Nat) : Int := (s.getD d []).getD k 0
/-- the number of a stretch -/
def U (s : Sh) (i j : Int) : Int := if i ≤ j then cell s j.toNat (j - i).toNat else 0
structure SheetOk (s : Sh) (w : Nat) : Prop where
  l1 : 1 ≤ s.length
  l30 : s.length ≤ 30
  w1 : 1 ≤ w
  wl : w ≤ s.length
  row : ∀ d, d < s.length → (s.getD d []).length = min (d + 1) w
  nn : ∀ r ∈ s, ∀ x ∈ r, (0 : Int) ≤ x
def Gap (s : Sh) (i j : Int) : Int := U s i (j - 1) + U s (i + 1) j - U s (i + 1) (j - 1) - U s i j
def lastL (s : Sh) (w : Nat) (d : Int) : Int := min (d + w) s.length - 1
def firstL (w : Nat) (d : Int) : Int := max 0 (d - w + 1)
def Away (s : Sh) (w : Nat) (d : Int) : Int := U s d (lastL s w d) - U s (d + 1) (lastL s w d)
def Fresh (s : Sh) (w : Nat) (d : Int) : Int := U s (firstL w d) d - U s (firstL w d) (d - 1)
/-- no number tells against the sheet -/
structure Feas (s : Sh) (w : Nat) : Prop where
  gap : ∀ i, i < s.length → ∀ j, j < s.length → i < j → j - i < w → 0 ≤ Gap s i j
  away : ∀ d, d < s.length → 0 ≤ Away s w d
  fresh : ∀ d, d < s.length → 0 ≤ Fresh s w d
theorem kids_rowD {r : List Int} : (T.d (rowD r)).kids = some (r.map fun x => T.d (.int x)) := by
  show some ((r.map PyData.int).map T.d) = _
  rw [List.map_map]
  rfl
theorem kids_shD {s : Sh} : (T.d (shD s)).kids = some (s.map fun r => T.d (rowD r)) := by
  show some ((s.map rowD).map T.d) = _
  rw [List.map_map]
  rfl
theorem size_rowD {r : List Int} : (T.d (rowD r)).size = some r.length := by
  show some (r.map PyData.int).length = _
  rw [List.length_map]
theorem size_shD {s : Sh} : (T.d (shD s)).size = some s.length := by
  show some (s.map rowD).length = _
  rw [List.length_map]
theorem atI_nat {α : Type} {xs : List α} {i : Int} {x : α} (h0 : 0 ≤ i) (h : xs[i.toNat]? = some x) : atI xs i = some x := by
  unfold atI ixN
  have hi := (List.getElem?_eq_some_iff.mp h).1
  rw [if_pos h0, if_pos (by omega), Option.bind_some, h]
theorem atI_last {α : Type} {xs : List α} {x : α} (h : xs[xs.length - 1]? = some x) : atI xs (-1) = some x := by
  unfold atI ixN
  have hi := (List.getElem?_eq_some_iff.mp h).1
  rw [if_neg (by decide), if_pos (by omega), Option.bind_some, show (-1 + (xs.length : Int)).toNat = xs.length - 1 by omega, h]
section
variable {R : T → Prop} {s : Sh} {w : Nat} {i j : Int} {r : List Int}
theorem x_row (h0 : 0 ≤ i) (hi : i < s.length) (h : R (.d (rowD (s.getD i.toNat [])))) : oIxG [.d (shD s), .d (.int i)] R := by
  have hi2 : i.toNat < s.length := by omega
  refine x_ix _ kids_shD (u := .d (rowD (s.getD i.toNat []))) (atI_nat h0 ?_) h
  rw [List.getElem?_map, List.getElem?_eq_getElem hi2, List.getD_eq_getElem?_getD, List.getElem?_eq_getElem hi2]
  rfl
theorem x_last (h1 : 1 ≤ s.length) (h : R (.d (rowD (s.getD (s.length - 1) [])))) : oIxG [.d (shD s), .d (.int (-1))] R := by
  have hi2 : s.length - 1 < s.length := by omega
  refine x_ix _ kids_shD (u := .d (rowD (s.getD (s.length - 1) []))) (atI_last ?_) h
  rw [List.length_map, List.getElem?_map, List.getElem?_eq_getElem hi2, List.getD_eq_getElem?_getD, List.getElem?_eq_getElem hi2]
  rfl
theorem x_cell (h0 : 0 ≤ i) (hi : i < r.length) (h : R (.d (.int (r.getD i.toNat 0)))) : oIxG [.d (rowD r), .d (.int i)] R := by
  have hi2 : i.toNat < r.length := by omega
  refine x_ix _ kids_rowD (u := .d (.int (r.getD i.toNat 0))) (atI_nat h0 ?_) h
  rw [List.getElem?_map, List.getElem?_eq_getElem hi2, List.getD_eq_getElem?_getD, List.getElem?_eq_getElem hi2]
  rfl
end
theorem SheetOk.last {s : Sh} {w : Nat} (h : SheetOk s w) : (s.getD (s.length - 1) []).length = w := by
  rw [h.row _ (by have := h.l1; omega)]
  have := h.l1
  have := h.wl
  omega

/-! ### the program's functions on sheets -/
def sp_width_told : Spec := fun ts _ P => ∃ s w, ts = [.d (shD s)] ∧ SheetOk s w ∧ P (.d (.int w))
def sp_unlike_in : Spec := fun ts _ P => ∃ s w i j, ts = [.d (shD s), .d (.int i), .d (.int j)] ∧ SheetOk s w ∧ (i ≤ j → 0 ≤ i ∧ j < s.length ∧ j - i < w) ∧ P (.d (.int (U s i j)))
def sp_gap_in : Spec := fun ts _ P => ∃ s w i j, ts = [.d (shD s), .d (.int i), .d (.int j)] ∧ SheetOk s w ∧ 0 ≤ i ∧ i < j ∧ j < s.length ∧ j - i < w ∧ P (.d (.int (Gap s i j)))
def sp_last_looked : Spec := fun ts _ P => ∃ s w d, ts = [.d (shD s), .d (.int d)] ∧ SheetOk s w ∧ P (.d (.int (lastL s w d)))
def sp_first_looked : Spec := fun ts _ P => ∃ s w d, ts = [.d (shD s), .d (.int d)] ∧ SheetOk s w ∧ P (.d (.int (firstL w d)))
def sp_away_in : Spec := fun ts _ P => ∃ s w d, ts = [.d (shD s), .d (.int d)] ∧ SheetOk s w ∧ 0 ≤ d ∧ d < s.length ∧ P (.d (.int (Away s w d)))
def sp_fresh_in : Spec := fun ts _ P => ∃ s w d, ts = [.d (shD s), .d (.int d)] ∧ SheetOk s w ∧ 0 ≤ d ∧ d < s.length ∧ P (.d (.int (Fresh s w d)))
def tup3 (x : Int × Int × Int) : PyData := .tuple [.int x.1, .int x.2.1, .int x.2.2]
end FA
set_option Elab.async false
set_option linter.all false
set_option maxRecDepth 100000
namespace FA
open PySem PySem.Spec PyProof.Rows L2

/-! ### loops and comprehensions -/
section
variable {g : Tg} {m : MS} {me : ME} {cond : MT} {EX : EXk} {κ : Kt} {vs : List Nat} {P : T → Env → Prop}
theorem lcM_fm (p : T → Bool) (f : T → T) {ρ : Env} : ∀ {cs acc : List T}, (∀ c ∈ cs, ∀ (Q : T → Env → Prop) (Z : Env → Prop), (p c = true → ∀ ρ3, killv vs ρ3 = ρ → Q (f c) ρ3) → (p c = false → ∀ ρ3, killv vs ρ3 = ρ → Z ρ3) →
    tgA g c ρ fun ρ1 => cond ρ1 EX0 fun b ρ2 => if b = true then me ρ2 EX0 Q else Z ρ2) → acc.length + cs.length ≤ 10000000 → P (.nd .lst (acc ++ (cs.filter p).map f)) ρ → lcM g cond me vs cs acc ρ P
  | [], acc, _, _, hP => by
    rw [List.filter_nil, List.map_nil, List.append_nil] at hP
    exact hP
  | c :: cs, acc, h, hl, hP => by
    rw [List.length_cons] at hl
    refine lcM_cons (h c List.mem_cons_self _ _ (fun hp ρ3 e => ⟨x_lt (by omega), ?_⟩) fun hp ρ3 e => ?_)
    · rw [e]
      refine lcM_fm p f (fun d hd => h d (List.mem_cons_of_mem _ hd)) (by rw [List.length_append, List.length_singleton]; omega) ?_
      rw [List.filter_cons, if_pos hp, List.map_cons] at hP
      rw [List.append_assoc]
      exact hP
    · rw [e]
      refine lcM_fm p f (fun d hd => h d (List.mem_cons_of_mem _ hd)) (by omega) ?_
      rw [List.filter_cons, if_neg (by rw [hp]; exact Bool.false_ne_true)] at hP
      exact hP
theorem lcM_map (f : T → T) {ρ : Env} {cs : List T} (h : ∀ c ∈ cs, ∀ Q : T → Env → Prop, (∀ ρ3, killv vs ρ3 = ρ → Q (f c) ρ3) → tgA g c ρ fun ρ1 => me ρ1 EX0 Q) (hl : cs.length ≤ 10000000) (hP : P (.nd .lst (cs.map f)) ρ) : lcM g tYesM me vs cs [] ρ P := by
  refine lcM_fm (fun _ => true) f (fun c hc Q Z h1 _ => ?_) (by simpa using hl) ?_
  · have := h c hc Q (h1 rfl)
    rw [show (fun ρ1 => tYesM ρ1 EX0 fun b ρ2 => if b = true then me ρ2 EX0 Q else Z ρ2) = fun ρ1 => me ρ1 EX0 Q from funext fun ρ1 => by
      show (if true = true then me ρ1 EX0 Q else Z ρ1) = _
      rw [if_pos rfl]]
    exact this
  · rw [List.filter_eq_self.mpr fun _ _ => rfl]
    exact hP
theorem forM_ix (Inv : Nat → Env → Prop) : ∀ {cs : List T} {k0 : Nat} {ρ : Env}, (∀ k c, cs[k]? = some c → ∀ ρ, Inv (k0 + k) ρ → ∀ N : Env → Prop, (∀ ρ', Inv (k0 + k + 1) ρ' → N ρ') → tgA g c ρ fun ρ1 => m ρ1 EX { κ with nx := N, ct := N, bk := κ.nx }) →
    Inv k0 ρ → (∀ ρ', Inv (k0 + cs.length) ρ' → κ.nx ρ') → forM g m cs ρ EX κ
  | [], k0, ρ, _, h0, hN => forM_nil (hN ρ h0)
  | c :: cs, k0, ρ, h, h0, hN => by
    refine forM_cons (h 0 c rfl ρ h0 _ fun ρ' h1 => ?_)
    refine forM_ix Inv (cs := cs) (k0 := k0 + 1) (fun k d hk ρ2 h2 N hN2 => ?_) h1 fun ρ2 h2 => hN ρ2 (by rw [List.length_cons, ← Nat.add_assoc, Nat.add_right_comm]; exact h2)
    have e : k0 + 1 + k = k0 + (k + 1) := by omega
    rw [e] at h2 hN2
    exact h (k + 1) d hk ρ2 h2 N hN2
theorem forM_all (Inv : Env → Prop) {cs : List T} {ρ : Env} (h : ∀ c ∈ cs, ∀ ρ, Inv ρ → ∀ N : Env → Prop, (∀ ρ', Inv ρ' → N ρ') → tgA g c ρ fun ρ1 => m ρ1 EX { κ with nx := N, ct := N, bk := κ.nx }) (h0 : Inv ρ) (hN : ∀ ρ', Inv ρ' → κ.nx ρ') : forM g m cs ρ EX κ :=
  forM_ix (fun _ => Inv) (k0 := 0) (fun k c hk ρ hI N hN => h c (List.mem_of_getElem? hk) ρ hI N hN) h0 hN
end
section
variable {R : T → Prop} {t : T} {bs : List Bool}
theorem x_isi {b n : String} {r : Bool} (en : t.tyN = some n) (ek : kitB n b = some r) (h : R (.d (.bool r))) : oIsi b [t] R := ⟨t, r, rfl, isB_ty en ek, h⟩
theorem kids_bools : (T.nd .lst (tB0 bs)).kids = some (tB0 bs) := by
  refine if_pos ⟨rfl, ?_⟩
  unfold leafys tB0
  rw [List.all_map, List.all_eq_true]
  intro x _
  rfl
theorem x_bools {f : List Bool → Bool} (h : R (.d (.bool (f bs)))) : oBools f [.nd .lst (tB0 bs)] R := ⟨_, bs, rfl, rfl, kids_bools, h⟩
theorem x_en {ρ : Env} {EX : EXk} {P : List T → Env → Prop} {m : ME} (h : mA [.e m] ρ EX fun ts ρ' => ∃ (t : T) (ds : List PyData), ts = [t] ∧ t.isL = true ∧ t.kids = some (ds.map T.d) ∧ P (enT 0 ds) ρ') : miE m ρ EX P := h
theorem x_two {A : T → T → Prop} {a b : T} (h : A a b) : ∃ t u, [a, b] = [t, u] ∧ A t u := ⟨_, _, rfl, h⟩
theorem x_chain {ρ : Env} {EX : EXk} {P : T → Env → Prop} {o o' : OpT} {x y z : Opd} (h : mA [x, y] ρ EX fun ts ρ' => ∃ t u, ts = [t, u] ∧ o [t, u] fun r => ∃ k, r = .d (.bool k) ∧ if k = true then mA [z] (back [x, y] ts ρ') EX fun zs ρ2 => ∃ s, zs = [s] ∧ u.leafy = true ∧ o' [u, s] fun r2 => P r2 (back [z] zs ρ2) else P (.d (.bool false)) (back [x, y] ts ρ')) :
    mChain o o' x y z ρ EX P := h
end
local macro_rules | `(tactic| walk_at "x") => `(tactic| repeat (first
  | with_reducible refine x_seq ?_ | with_reducible refine x_set ?_ | with_reducible refine x_ret ?_ | with_reducible refine x_Ae ?_ | with_reducible refine x_A0 ?_ | with_reducible refine x_C ?_ | with_reducible refine x_I ?_ | with_reducible refine x_add ?_
  | with_reducible refine x_int ?_ | with_reducible refine x_abs ?_ | with_reducible refine x_bits ?_ | with_reducible refine x_bits' ?_ | with_reducible refine x_setc ?_ | with_reducible refine x_eqI ?_ | with_reducible refine x_fz ?_
  | ((with_reducible refine x_op ?_ ?hn); (case hn => rfl)) | ((with_reducible refine x_call ?_ ?hn); (case hn => rfl))
  | ((with_reducible show mA (Opd.b _ :: _) _ _ _); refine x_Ab rfl rfl ?_) | ((with_reducible show mVar _ _ _ _); refine x_var rfl rfl ?_)
  | ((with_reducible show mRd _ (bIx (bVar _) (mC _)) _ _ _); refine x_rdc rfl rfl rfl rfl rfl ?_)
  | with_reducible refine x_if ?_ | with_reducible refine x_ifS ?_ | with_reducible refine x_val ?_ | with_reducible refine x_bool ?_
  | with_reducible refine x_neg ?_ | with_reducible refine x_min ?_ | with_reducible refine x_max ?_ | with_reducible refine x_next ?_ | with_reducible refine x_kill ?_ | with_reducible refine x_retN ?_ | with_reducible refine x_tand ?_ | with_reducible refine x_tor ?_
  | with_reducible refine x_chain ?_ | with_reducible refine x_two ?_ | with_reducible refine x_tnot ?_ | with_reducible refine x_and ?_ | with_reducible refine x_or ?_ | with_reducible refine x_not ?_ | with_reducible refine x_drop ?_))


/-- width_told(sheet): slots sheet -/
def m_width_told : MS := (mSeq (mRet (mOp oLenA [.e (mOp oIxG [.b 0, .e (mOp oNeg [.e (mC (.int 1))])])]))
  mNext)

/-- unlike_in(sheet, first, last): slots sheet, first, last -/
def m_unlike_in : MS := (mSeq (mRet (mFz (mIf (tVal (mOp oLe [.b 1, .b 2])) (mOp oIxG [.e (mOp oIxG [.b 0, .b 2]), .e (mOp oSub [.b 2, .b 1])]) (mC (.int 0)))))
  mNext)

/-- gap_in(sheet, first, second): slots sheet, first, second, found -/
def m_gap_in : MS := (mSeq (mSet 3 (mFz (mOp oAddA [.e (mCall sp_unlike_in [.b 0, .b 1, .e (mOp oSub [.b 2, .e (mC (.int 1))])]), .e (mCall sp_unlike_in [.b 0, .e (mOp oAddA [.b 1, .e (mC (.int 1))]), .b 2])])))
  (mSeq (mRet (mOp oSub [.e (mOp oSub [.b 3, .e (mCall sp_unlike_in [.b 0, .e (mOp oAddA [.b 1, .e (mC (.int 1))]), .e (mOp oSub [.b 2, .e (mC (.int 1))])])]), .e (mCall sp_unlike_in [.b 0, .b 1, .b 2])]))
  mNext))

/-- last_looked(sheet, day): slots sheet, day -/
def m_last_looked : MS := (mSeq (mRet (mOp oSub [.e (mOp oMin [.e (mOp oAddA [.b 1, .e (mCall sp_width_told [.b 0])]), .e (mOp oLenA [.b 0])]), .e (mC (.int 1))]))
  mNext)

/-- first_looked(sheet, day): slots sheet, day -/
def m_first_looked : MS := (mSeq (mRet (mOp oMax [.e (mC (.int 0)), .e (mOp oAddA [.e (mOp oSub [.b 1, .e (mCall sp_width_told [.b 0])]), .e (mC (.int 1))])]))
  mNext)

/-- away_in(sheet, day): slots sheet, day, last -/
def m_away_in : MS := (mSeq (mSet 2 (mFz (mCall sp_last_looked [.b 0, .b 1])))
  (mSeq (mRet (mOp oSub [.e (mCall sp_unlike_in [.b 0, .b 1, .b 2]), .e (mCall sp_unlike_in [.b 0, .e (mOp oAddA [.b 1, .e (mC (.int 1))]), .b 2])]))
  mNext))

/-- fresh_in(sheet, day): slots sheet, day, first -/
def m_fresh_in : MS := (mSeq (mSet 2 (mFz (mCall sp_first_looked [.b 0, .b 1])))
  (mSeq (mRet (mOp oSub [.e (mCall sp_unlike_in [.b 0, .b 2, .b 1]), .e (mCall sp_unlike_in [.b 0, .b 2, .e (mOp oSub [.b 1, .e (mC (.int 1))])])]))
  mNext))

theorem re_width_told : Ref sp_width_told 1 1 m_width_told := by
  intro ts EX Q _ _ ⟨s, w, e, h, hQ⟩
  subst e
  unfold m_width_told
  walk_at "x"
  refine x_last h.l1 ?_
  walk_at "x"
  refine x_len ?_ size_rowD
  rw [h.last]
  exact hQ
theorem re_unlike_in : Ref sp_unlike_in 3 3 m_unlike_in := by
  intro ts EX Q _ _ ⟨s, w, i, j, e, h, hij, hQ⟩
  subst e
  unfold m_unlike_in
  walk_at "x"
  unfold U at hQ
  refine x_ite (fun z => ?_) fun z => ?_
  · obtain ⟨h1, h2, h3⟩ := hij z
    rw [if_pos z] at hQ
    walk_at "x"
    refine x_row (by omega) h2 ?_
    walk_at "x"
    refine x_cell (by omega) (by rw [h.row _ (by omega)]; omega) ?_
    exact ⟨_, rfl, hQ⟩
  · rw [if_neg z] at hQ
    walk_at "x"
    exact ⟨_, rfl, hQ⟩
theorem re_gap_in : Ref sp_gap_in 3 4 m_gap_in := by
  intro ts EX Q _ _ ⟨s, w, i, j, e, h, h1, h2, h3, h4, hQ⟩
  subst e
  unfold m_gap_in
  walk_at "x"
  refine ⟨_, rfl, s, w, _, _, rfl, h, fun _ => by omega, rfl, ?_⟩
  walk_at "x"
  refine ⟨_, rfl, s, w, _, _, rfl, h, fun _ => by omega, rfl, ?_⟩
  walk_at "x"
  refine ⟨_, rfl, ?_⟩
  walk_at "x"
  refine ⟨_, rfl, s, w, _, _, rfl, h, fun _ => by omega, rfl, ?_⟩
  walk_at "x"
  refine ⟨_, rfl, s, w, _, _, rfl, h, fun _ => by omega, rfl, ?_⟩
  walk_at "x"
  exact hQ
theorem re_last_looked : Ref sp_last_looked 2 2 m_last_looked := by
  intro ts EX Q _ _ ⟨s, w, d, e, h, hQ⟩
  subst e
  unfold m_last_looked
  walk_at "x"
  refine ⟨_, rfl, s, w, rfl, h, rfl, ?_⟩
  walk_at "x"
  refine x_len ?_ size_shD
  walk_at "x"
  exact hQ
theorem re_first_looked : Ref sp_first_looked 2 2 m_first_looked := by
  intro ts EX Q _ _ ⟨s, w, d, e, h, hQ⟩
  subst e
  unfold m_first_looked
  walk_at "x"
  refine ⟨_, rfl, s, w, rfl, h, rfl, ?_⟩
  walk_at "x"
  exact hQ
theorem re_away_in : Ref sp_away_in 2 3 m_away_in := by
  intro ts EX Q _ _ ⟨s, w, d, e, h, h1, h2, hQ⟩
  subst e
  have hw := h.w1
  unfold m_away_in
  walk_at "x"
  refine ⟨_, rfl, s, w, d, rfl, h, rfl, _, rfl, ?_⟩
  walk_at "x"
  refine ⟨_, rfl, s, w, _, _, rfl, h, fun _ => by unfold lastL; omega, rfl, ?_⟩
  walk_at "x"
  refine ⟨_, rfl, s, w, _, _, rfl, h, fun _ => by unfold lastL; omega, rfl, ?_⟩
  walk_at "x"
  exact hQ
theorem re_fresh_in : Ref sp_fresh_in 2 3 m_fresh_in := by
  intro ts EX Q _ _ ⟨s, w, d, e, h, h1, h2, hQ⟩
  subst e
  have hw := h.w1
  unfold m_fresh_in
  walk_at "x"
  refine ⟨_, rfl, s, w, d, rfl, h, rfl, _, rfl, ?_⟩
  walk_at "x"
  refine ⟨_, rfl, s, w, _, _, rfl, h, fun _ => by unfold firstL; omega, rfl, ?_⟩
  walk_at "x"
  refine ⟨_, rfl, s, w, _, _, rfl, h, fun z => by unfold firstL at z ⊢; omega, rfl, ?_⟩
  walk_at "x"
  exact hQ
end FA
set_option Elab.async false
set_option linter.all false
set_option maxRecDepth 100000
namespace FA
open PySem PySem.Spec PyProof.Rows L2
local macro_rules | `(tactic| walk_at "x") => `(tactic| repeat (first
  | with_reducible refine x_seq ?_ | with_reducible refine x_set ?_ | with_reducible refine x_ret ?_ | with_reducible refine x_Ae ?_ | with_reducible refine x_A0 ?_ | with_reducible refine x_C ?_ | with_reducible refine x_I ?_ | with_reducible refine x_add ?_
  | with_reducible refine x_int ?_ | with_reducible refine x_abs ?_ | with_reducible refine x_bits ?_ | with_reducible refine x_bits' ?_ | with_reducible refine x_setc ?_ | with_reducible refine x_eqI ?_ | with_reducible refine x_fz ?_
  | ((with_reducible refine x_op ?_ ?hn); (case hn => rfl)) | ((with_reducible refine x_call ?_ ?hn); (case hn => rfl))
  | ((with_reducible show mA (Opd.b _ :: _) _ _ _); refine x_Ab rfl rfl ?_) | ((with_reducible show mVar _ _ _ _); refine x_var rfl rfl ?_)
  | ((with_reducible show mRd _ (bIx (bVar _) (mC _)) _ _ _); refine x_rdc rfl rfl rfl rfl rfl ?_)
  | with_reducible refine x_if ?_ | with_reducible refine x_ifS ?_ | with_reducible refine x_val ?_ | with_reducible refine x_bool ?_
  | with_reducible refine x_neg ?_ | with_reducible refine x_min ?_ | with_reducible refine x_max ?_ | with_reducible refine x_next ?_ | with_reducible refine x_kill ?_ | with_reducible refine x_retN ?_ | with_reducible refine x_tand ?_ | with_reducible refine x_tor ?_
  | with_reducible refine x_chain ?_ | with_reducible refine x_two ?_ | with_reducible refine x_tnot ?_ | with_reducible refine x_and ?_ | with_reducible refine x_or ?_ | with_reducible refine x_not ?_ | with_reducible refine x_drop ?_))



theorem rng_get {lo : Int} {n k : Nat} {c : T} (h : (rngT lo n)[k]? = some c) : k < n ∧ c = .d (.int (lo + (k : Int))) := by
  unfold rngT at h
  rw [List.getElem?_map] at h
  cases e : (List.range n)[k]? with
  | none => rw [e] at h; cases h
  | some q =>
    rw [e] at h
    obtain ⟨hi, hk⟩ := List.getElem?_eq_some_iff.mp e
    rw [List.length_range] at hi
    rw [List.getElem_range] at hk
    subst hk
    cases h
    exact ⟨hi, rfl⟩
theorem rng_len {lo : Int} {n : Nat} : (rngT lo n).length = n := by
  unfold rngT
  rw [List.length_map, List.length_range]
section
variable {ρ : Env} {EX : EXk} {κ : Kt} {P : T → Env → Prop} {o o' o2 : OpT} {x y z w : Opd} {u : T} {l1 : OpT × Opd} {l : List (OpT × Opd)} {g1 g2 g3 : Tg} {d1 d2 d3 : PyData} {PE : Env → Prop} {os : List Opd} {i j : Nat}
theorem x_tt3 (h : tgA g1 (.d d1) ρ fun ρ' => tgA g2 (.d d2) ρ' fun ρ' => tgA g3 (.d d3) ρ' PE) : tgA (.t [g1, g2, g3]) (.d (.tuple [d1, d2, d3])) ρ PE := by
  rw [tgA]
  refine ⟨_, rfl, rfl, rfl, ?_⟩
  rw [List.map_cons, List.map_cons, List.map_cons, List.map_nil, tgAs]
  refine ⟨_, _, rfl, ?_⟩
  have e0 : (fun ρ' => tgAs [] [] ρ' PE) = PE := funext fun ρ' => by rw [tgAs]; exact propext ⟨fun h => h.2, fun h => ⟨rfl, h⟩⟩
  have e1 : ∀ (g : Tg) (d : PyData) (P : Env → Prop) (gs : List Tg) (cs : List T), (fun ρ' => tgAs (g :: gs) (T.d d :: cs) ρ' P) = fun ρ' => tgA g (.d d) ρ' fun ρ2 => tgAs gs cs ρ2 P := fun g d P gs cs => funext fun ρ' => by
    rw [tgAs]
    refine propext ⟨fun ⟨x, xs, e, h⟩ => ?_, fun h => ⟨_, _, rfl, h⟩⟩
    cases e
    exact h
  rw [e1]
  rw [show (fun ρ' => tgA g2 (.d d2) ρ' fun ρ2 => tgAs [g3] [T.d d3] ρ2 PE) = fun ρ' => tgA g2 (.d d2) ρ' fun ρ' => tgA g3 (.d d3) ρ' PE from funext fun ρ' => by rw [e1, e0]]
  exact h
theorem x_tup1' {d : PyData} {B : List PyData → Prop} (h : B [d]) : ([T.d d].length ≤ sizeLine ∧ ∃ ds, T.datas [T.d d] = some ds ∧ B ds) := ⟨by show 1 ≤ sizeLine; rw [sizeLine_eq]; decide, _, rfl, h⟩
theorem x_tup2' {B : List PyData → Prop} (h : B [d1, d2]) : ([T.d d1, T.d d2].length ≤ sizeLine ∧ ∃ ds, T.datas [T.d d1, T.d d2] = some ds ∧ B ds) := ⟨by show 2 ≤ sizeLine; rw [sizeLine_eq]; decide, _, rfl, h⟩
theorem x_tup3' {B : List PyData → Prop} (h : B [d1, d2, d3]) : ([T.d d1, T.d d2, T.d d3].length ≤ sizeLine ∧ ∃ ds, T.datas [T.d d1, T.d d2, T.d d3] = some ds ∧ B ds) := ⟨by show 3 ≤ sizeLine; rw [sizeLine_eq]; decide, _, rfl, h⟩
theorem x_par (h : mA os ρ EX fun ts ρ' => ∃ t u, ts = [t, u] ∧ κ.nx ((ρ'.set i (some t)).set j (some u))) : mPar i j os ρ EX κ := h
end
theorem datas_map {α : Type} {f : α → PyData} : ∀ {l : List α}, T.datas (l.map fun x => T.d (f x)) = some (l.map f)
  | [] => rfl
  | a :: l => by
    rw [List.map_cons, T.datas, datas_map (l := l)]
    rfl
theorem fz_list {ds : List PyData} : (T.nd .lst (ds.map T.d)).fz = some (.d (.list ds)) := by
  show (T.data (.nd .lst (ds.map T.d))).map T.d = _
  rw [T.data, if_pos (show Kd.lst.isLst = true from rfl)]
  have := datas_map (f := id) (l := ds)
  rw [List.map_id] at this
  rw [show ds.map T.d = ds.map fun x => T.d (id x) from rfl, this]
  rfl
theorem Feas.awayI {s : Sh} {w : Nat} (f : Feas s w) {d : Int} (h0 : 0 ≤ d) (h1 : d < s.length) : ¬ Away s w d < 0 := by
  have := f.away d.toNat (by omega)
  rw [Int.toNat_of_nonneg h0] at this
  omega
theorem Feas.freshI {s : Sh} {w : Nat} (f : Feas s w) {d : Int} (h0 : 0 ≤ d) (h1 : d < s.length) : ¬ Fresh s w d < 0 := by
  have := f.fresh d.toNat (by omega)
  rw [Int.toNat_of_nonneg h0] at this
  omega
end FA
set_option Elab.async false
set_option linter.all false
set_option maxRecDepth 100000
namespace FA
open PySem PySem.Spec PyProof.Rows L2
local macro_rules | `(tactic| walk_at "x") => `(tactic| repeat (first
  | with_reducible refine x_seq ?_ | with_reducible refine x_set ?_ | with_reducible refine x_ret ?_ | with_reducible refine x_Ae ?_ | with_reducible refine x_A0 ?_ | with_reducible refine x_C ?_ | with_reducible refine x_I ?_ | with_reducible refine x_add ?_
  | with_reducible refine x_int ?_ | with_reducible refine x_abs ?_ | with_reducible refine x_bits ?_ | with_reducible refine x_bits' ?_ | with_reducible refine x_setc ?_ | with_reducible refine x_eqI ?_ | with_reducible refine x_fz ?_
  | ((with_reducible refine x_op ?_ ?hn); (case hn => rfl)) | ((with_reducible refine x_call ?_ ?hn); (case hn => rfl))
  | ((with_reducible show mA (Opd.b _ :: _) _ _ _); refine x_Ab rfl rfl ?_) | ((with_reducible show mVar _ _ _ _); refine x_var rfl rfl ?_)
  | ((with_reducible show mRd _ (bIx (bVar _) (mC _)) _ _ _); refine x_rdc rfl rfl rfl rfl rfl ?_)
  | with_reducible refine x_if ?_ | with_reducible refine x_ifS ?_ | with_reducible refine x_val ?_ | with_reducible refine x_bool ?_
  | with_reducible refine x_neg ?_ | with_reducible refine x_min ?_ | with_reducible refine x_max ?_ | with_reducible refine x_next ?_ | with_reducible refine x_kill ?_ | with_reducible refine x_retN ?_ | with_reducible refine x_tand ?_ | with_reducible refine x_tor ?_
  | with_reducible refine x_chain ?_ | with_reducible refine x_two ?_ | with_reducible refine x_tnot ?_ | with_reducible refine x_and ?_ | with_reducible refine x_or ?_ | with_reducible refine x_not ?_ | with_reducible refine x_drop ?_))



def okA : Nat → PyData → Prop
  | 0, _ => False
  | n + 1, .list xs => xs.length ≤ 1000000 ∧ ∀ y ∈ xs, okA n y
  | n + 1, .tuple xs => xs.length ≤ 1000000 ∧ ∀ y ∈ xs, okA n y
  | _ + 1, .dict _ => False
  | _ + 1, .str z => SeqAt.shaped (.str z) = true
  | _ + 1, _ => True
/-- a pattern of days below many -/
def PatOk (many : Int) (p : List Int) : Prop := p ≠ [] ∧ p.Pairwise (· < ·) ∧ ∀ x ∈ p, 0 ≤ x ∧ x < many
abbrev Fam := List (List Int × Int)
def pairD (x : List Int × Int) : PyData := .tuple [.tuple (x.1.map .int), .int x.2]
def famD (f : Fam) : PyData := .list (f.map pairD)
def FamOk (many : Int) (f : Fam) : Prop := f.length ≤ 1000 ∧ ∀ x ∈ f, PatOk many x.1 ∧ 0 ≤ x.2
/-- in order, each with visitors -/
def FamSt (f : Fam) : Prop := f.Pairwise (fun x y => x.1 < y.1) ∧ ∀ x ∈ f, 1 ≤ x.2
section
variable {R : T → Prop} {x y : PyData}
theorem x_ne (hx : SeqAt.shaped x = true) (hy : SeqAt.shaped y = true) (h : R (.d (.bool (!PyData.eqv x y)))) : oNe [.d x, .d y] R := ⟨x, y, rfl, hx, hy, h⟩
theorem x_neI {i j : Int} (h : R (.d (.bool (!decide (i = j))))) : oNe [.d (.int i), .d (.int j)] R := by
  refine x_ne rfl rfl ?_
  have e : PyData.eqv (.int i) (.int j) = decide (i = j) := by
    by_cases q : i = j <;> simp [PyData.eqv, q]
  rw [e]
  exact h
end
section
variable {g : Tg} {me : ME} {cond : MT} {vs : List Nat} {P : T → Env → Prop}
end
theorem wd_small {i : Int} (h : 0 < i) (h' : i < 10 ^ 100) : Wd i := by
  refine ⟨h, ?_⟩
  have h1 : i.natAbs < 2 ^ 400 := by
    have e : (10 : Int) ^ 100 = ((10 ^ 100 : Nat) : Int) := by decide +kernel
    rw [e] at h'
    have h2 : i.natAbs < 10 ^ 100 := by omega
    exact Nat.lt_trans h2 (by decide +kernel)
  exact Nat.lt_trans ((Nat.log2_lt (by omega)).mpr h1) (by decide)
theorem okA_all : ∀ (n : Nat) (x : PyData), okA n x → PyData.eqv x x = true ∧ x.canLay0 = true ∧ x.depth ≤ n
  | 0, _, h => h.elim
  | n + 1, .none, _ => ⟨by decide +kernel, rfl, Nat.zero_le _⟩
  | n + 1, .bool b, _ => ⟨by cases b <;> decide +kernel, rfl, Nat.zero_le _⟩
  | n + 1, .int i, _ => ⟨by simp [PyData.eqv], rfl, Nat.zero_le _⟩
  | n + 1, .str z, h => ⟨by simp [PyData.eqv], SeqAt.canLay_of_shaped h, Nat.zero_le _⟩
  | n + 1, .dict _, h => h.elim
  | n + 1, .list xs, h => by
    have key : ∀ xs : List PyData, (∀ y ∈ xs, okA n y) → PyData.eqvAll xs xs = true ∧ PyData.canLayAll0 xs = true ∧ PyData.depthAll xs ≤ n := by
      intro xs
      induction xs with
      | nil => intro _; exact ⟨by decide +kernel, rfl, Nat.zero_le _⟩
      | cons y ys ih =>
        intro h
        obtain ⟨a1, a2, a3⟩ := okA_all n y (h y List.mem_cons_self)
        obtain ⟨b1, b2, b3⟩ := ih fun z hz => h z (List.mem_cons_of_mem _ hz)
        refine ⟨by rw [PyData.eqvAll, a1, b1]; rfl, by rw [PyData.canLayAll0, a2, b2]; rfl, ?_⟩
        rw [PyData.depthAll]
        omega
    obtain ⟨b1, b2, b3⟩ := key xs h.2
    refine ⟨by rw [PyData.eqv, b1], by rw [PyData.canLay0, b2], ?_⟩
    rw [PyData.depth]
    omega
  | n + 1, .tuple xs, h => by
    have key : ∀ xs : List PyData, (∀ y ∈ xs, okA n y) → PyData.eqvAll xs xs = true ∧ PyData.canLayAll0 xs = true ∧ PyData.depthAll xs ≤ n := by
      intro xs
      induction xs with
      | nil => intro _; exact ⟨by decide +kernel, rfl, Nat.zero_le _⟩
      | cons y ys ih =>
        intro h
        obtain ⟨a1, a2, a3⟩ := okA_all n y (h y List.mem_cons_self)
        obtain ⟨b1, b2, b3⟩ := ih fun z hz => h z (List.mem_cons_of_mem _ hz)
        refine ⟨by rw [PyData.eqvAll, a1, b1]; rfl, by rw [PyData.canLayAll0, a2, b2]; rfl, ?_⟩
        rw [PyData.depthAll]
        omega
    obtain ⟨b1, b2, b3⟩ := key xs h.2
    refine ⟨by rw [PyData.eqv, b1], by rw [PyData.canLay0, b2], ?_⟩
    rw [PyData.depth]
    omega
theorem okA_shaped {n : Nat} {x : PyData} (h : okA n x) (hn : n ≤ 64) : SeqAt.shaped x = true := by
  obtain ⟨_, h2, h3⟩ := okA_all n x h
  unfold SeqAt.shaped
  rw [h2, decide_eq_true (by omega)]
  rfl
theorem okA_ints {l : List Int} {n : Nat} (h : l.length ≤ 1000000) : okA (n + 2) (.list (l.map .int)) := by
  refine ⟨by rw [List.length_map]; exact h, fun y hy => ?_⟩
  obtain ⟨x, _, rfl⟩ := List.mem_map.mp hy
  trivial
theorem keysOf_ints : ∀ {p : List Int}, keysOf (p.map .int) = some (p.map Sum.inl)
  | [] => rfl
  | i :: p => by
    rw [List.map_cons, keysOf, keysOf_ints (p := p)]
    rfl
theorem dVs_map {ks : List (List L2.Key)} {cs : List Int} {k : List L2.Key} {v : Int} : dVs ks ((cs.map PyData.int).map T.d) k (.d (.int v)) = ((dVs ks cs k v).map PyData.int).map T.d := by
  unfold dVs
  by_cases h : hasK ks k = true
  · rw [if_pos h, if_pos h]
    clear h
    induction ks generalizing cs with
    | nil => rfl
    | cons a ks ih =>
      cases cs with
      | nil => rfl
      | cons c cs =>
        rw [List.map_cons, List.map_cons, List.zipWith_cons_cons, List.zipWith_cons_cons, List.map_cons, List.map_cons, ih]
        by_cases e : a = k
        · rw [if_pos e, if_pos e]
        · rw [if_neg e, if_neg e]
  · rw [if_neg h, if_neg h, List.map_append, List.map_append]
    rfl
theorem dVs_mem {ks : List (List L2.Key)} {cs : List Int} {k : List L2.Key} {v x : Int} (h : x ∈ dVs ks cs k v) : x ∈ cs ∨ x = v := by
  unfold dVs at h
  by_cases hk : hasK ks k = true
  · rw [if_pos hk] at h
    clear hk
    induction ks generalizing cs with
    | nil => cases h
    | cons a ks ih =>
      cases cs with
      | nil => cases h
      | cons c cs =>
        rw [List.zipWith_cons_cons] at h
        rcases List.mem_cons.mp h with h | h
        · by_cases e : a = k
          · rw [if_pos e] at h; exact .inr h
          · rw [if_neg e] at h; exact .inl (by rw [h]; exact List.mem_cons_self)
        · rcases ih h with h | h
          · exact .inl (List.mem_cons_of_mem _ h)
          · exact .inr h
  · rw [if_neg hk] at h
    rcases List.mem_append.mp h with h | h
    · exact .inl h
    · exact .inr (List.mem_singleton.mp h)
theorem dKs_mem {ks : List (List L2.Key)} {k q : List L2.Key} (h : q ∈ dKs ks k) : q ∈ ks ∨ q = k := by
  unfold dKs at h
  by_cases hk : hasK ks k = true
  · rw [if_pos hk] at h; exact .inl h
  · rw [if_neg hk] at h
    rcases List.mem_append.mp h with h | h
    · exact .inl h
    · exact .inr (List.mem_singleton.mp h)
theorem dKs_len {ks : List (List L2.Key)} {k : List L2.Key} : (dKs ks k).length ≤ ks.length + 1 := by
  unfold dKs
  by_cases hk : hasK ks k = true
  · rw [if_pos hk]; omega
  · rw [if_neg hk, List.length_append]; exact Nat.le_refl _
theorem keyP_inl : ∀ {p : List Int}, (p.map (Sum.inl (β := Str))).map keyP = p.map .int
  | [] => rfl
  | i :: p => by
    show PyData.int i :: (p.map (Sum.inl (β := Str))).map keyP = _
    rw [keyP_inl (p := p)]
    rfl
theorem items_fam {many : Int} : ∀ {ks : List (List L2.Key)} {cs : List Int}, ks.length = cs.length → (∀ q ∈ ks, ∃ p : List Int, q = p.map Sum.inl ∧ PatOk many p) → (∀ c ∈ cs, 1 ≤ c) → ∃ f : Fam, itemsT ks (cs.map .int) = f.map pairD ∧ f.length = ks.length ∧ (∀ x ∈ f, PatOk many x.1 ∧ 0 ≤ x.2) ∧ (∀ x ∈ f, 1 ≤ x.2) ∧ ks = f.map fun x => x.1.map Sum.inl
  | [], cs, _, _, _ => ⟨[], rfl, rfl, (fun _ z => by cases z), (fun _ z => by cases z), rfl⟩
  | k :: ks, [], h, _, _ => by cases h
  | k :: ks, c :: cs, h, hk, hc => by
    obtain ⟨f, e, l, hf, hf1, ek⟩ := items_fam (ks := ks) (cs := cs) (Nat.succ.inj h) (fun q hq => hk q (List.mem_cons_of_mem _ hq)) fun d hd => hc d (List.mem_cons_of_mem _ hd)
    obtain ⟨p, rfl, hp⟩ := hk k List.mem_cons_self
    have hc1 := hc c List.mem_cons_self
    refine ⟨(p, c) :: f, ?_, by rw [List.length_cons, List.length_cons, l], fun x hx => ?_, fun x hx => ?_, ?_⟩
    · show PyData.tuple [.tuple ((p.map Sum.inl).map keyP), .int c] :: itemsT ks (cs.map .int) = _
      rw [e, keyP_inl]
      rfl
    · rcases List.mem_cons.mp hx with rfl | hx
      · exact ⟨hp, by show 0 ≤ c; omega⟩
      · exact hf x hx
    · rcases List.mem_cons.mp hx with rfl | hx
      · exact hc1
      · exact hf1 x hx
    · rw [List.map_cons, ← ek]
/-- less, of patterns -/
theorem ltT (p q : List Int) : PySem.W.dataLt (.tuple (p.map .int)) (.tuple (q.map .int)) = decide (p < q) := (PySem.W.dataLt_tuple _ _).trans (PySem.W.dataLt_ints p q)
theorem eqvT (p q : List Int) : PyData.eqv (.tuple (p.map .int)) (.tuple (q.map .int)) = decide (p = q) := by
  rw [PyData.eqv]
  induction p generalizing q with
  | nil => cases q <;> simp [PyData.eqvAll]
  | cons a p ih =>
    cases q with
    | nil => simp [PyData.eqvAll]
    | cons b q =>
      rw [List.map_cons, List.map_cons, PyData.eqvAll, ih q]
      rw [PyData.eqv]
      by_cases h : a = b <;> simp [h]
theorem nod_pair (x : List Int × Int) : nod (pairD x) = true := by
  show nods [PyData.tuple (x.1.map .int), .int x.2] = true
  rw [nods, nod, nods_ints]
  rfl
theorem nods_pairs {f : Fam} : nods (f.map pairD) = true := nods_of fun d hd => by
  obtain ⟨x, _, rfl⟩ := List.mem_map.mp hd
  exact nod_pair x
theorem leP (x y : List Int × Int) : PySem.W.dataLe false id (pairD x) (pairD y) = decide (x.1 < y.1 ∨ (x.1 = y.1 ∧ x.2 ≤ y.2)) := by
  show (!PySem.W.dataLt (pairD y) (pairD x)) = _
  unfold pairD
  rw [PySem.W.dataLt_pair (by simp [PySem.W.alike, PySem.W.alike_ints]) (by simp [PySem.W.alike]), eqvT, ltT, PySem.W.dataLt_int]
  simp only [PyData.eqv, beq_iff_eq]
  by_cases h : y.1 = x.1
  · have hi : ¬ (x.1 < y.1) := by rw [h]; exact List.lt_irrefl _
    by_cases h2 : y.2 = x.2
    · simp [h, h2]
    · simp only [h, h2, List.lt_irrefl, if_true, if_false, decide_eq_true_eq, decide_true, false_or, true_and]
      by_cases h4 : y.2 < x.2
      · simp [h4, show ¬ x.2 ≤ y.2 by omega]
      · simp [h4, show x.2 ≤ y.2 by omega]
  · by_cases h1 : y.1 < x.1
    · have h3 : ¬ x.1 < y.1 := fun z => List.lt_asymm h1 z
      simp [h, h1, h3, Ne.symm h, fun z : x.1 = y.1 => h z.symm]
    · have h3 : x.1 < y.1 := by
        rcases List.le_iff_lt_or_eq.mp (List.not_lt.mp h1) with z | z
        · exact z
        · exact absurd z.symm h
      simp [h, h1, h3]
theorem fam_sorted {f : Fam} (hn : (f.map fun x => x.1).Nodup) : (f.mergeSort fun a b => PySem.W.dataLe false id (pairD a) (pairD b)).Pairwise fun x y => x.1 < y.1 := by
  have hs := List.pairwise_mergeSort (le := fun a b => PySem.W.dataLe false id (pairD a) (pairD b)) (fun a b c => ?_) (fun a b => ?_) f
  · have hn2 : (f.mergeSort fun a b => PySem.W.dataLe false id (pairD a) (pairD b)).Pairwise fun x y => x.1 ≠ y.1 := by
      have := ((List.mergeSort_perm f fun a b => PySem.W.dataLe false id (pairD a) (pairD b)).map fun x => x.1).nodup_iff.mpr hn
      exact List.pairwise_map.mp this
    refine (hs.and hn2).imp fun {a b} ⟨h1, h2⟩ => ?_
    rw [leP, decide_eq_true_eq] at h1
    rcases h1 with h1 | h1
    · exact h1
    · exact absurd h1.1 h2
  · rw [leP, leP, leP, decide_eq_true_eq, decide_eq_true_eq, decide_eq_true_eq]
    intro h1 h2
    rcases h1 with h1 | ⟨h1, h1'⟩
    · rcases h2 with h2 | ⟨h2, h2'⟩
      · exact .inl (List.lt_trans h1 h2)
      · exact .inl (h2 ▸ h1)
    · rcases h2 with h2 | ⟨h2, h2'⟩
      · exact .inl (h1 ▸ h2)
      · exact .inr ⟨h1.trans h2, by omega⟩
  · rw [leP, leP, Bool.or_eq_true, decide_eq_true_eq, decide_eq_true_eq]
    by_cases h : a.1 = b.1
    · rcases Int.le_total a.2 b.2 with h2 | h2
      · exact .inl (.inr ⟨h, h2⟩)
      · exact .inr (.inr ⟨h.symm, h2⟩)
    · by_cases h1 : a.1 < b.1
      · exact .inl (.inl h1)
      · rcases List.le_iff_lt_or_eq.mp (List.not_lt.mp h1) with z | z
        · exact .inr (.inl z)
        · exact absurd z.symm h
theorem nodup_of_map {α β : Type} {g : α → β} : ∀ {l : List α}, (l.map g).Nodup → l.Nodup
  | [], _ => List.nodup_nil
  | a :: l, h => by
    rw [List.map_cons, List.nodup_cons] at h
    exact List.nodup_cons.mpr ⟨fun z => h.1 (List.mem_map.mpr ⟨a, z, rfl⟩), nodup_of_map h.2⟩
theorem hasK_mem {ks : List (List L2.Key)} {k : List L2.Key} (h : k ∈ ks) : hasK ks k = true := List.any_eq_true.mpr ⟨k, h, decide_eq_true rfl⟩
theorem dKs_nodup {ks : List (List L2.Key)} {k : List L2.Key} (h : ks.Nodup) : (dKs ks k).Nodup := by
  unfold dKs
  by_cases hk : hasK ks k = true
  · rw [if_pos hk]; exact h
  · rw [if_neg hk]
    refine List.nodup_append.mpr ⟨h, List.pairwise_singleton _ _, fun a ha b hb => ?_⟩
    rw [List.mem_singleton.mp hb]
    rintro rfl
    exact hk (hasK_mem ha)
theorem kids_ds {ds : List PyData} : (T.nd .lst (ds.map T.d)).kids = some (ds.map T.d) := by
  refine if_pos ⟨rfl, ?_⟩
  unfold leafys
  rw [List.all_map, List.all_eq_true]
  intro x _
  rfl
theorem x_dnew {ρ : Env} {EX : EXk} {P : T → Env → Prop} (h : P (.nd (.dT []) []) ρ) : mDNew ρ EX P := h
theorem x_dput {ρ : Env} {EX : EXk} {κ : Kt} {i : Nat} {mk m : ME} (h : m ρ EX fun t ρ1 => (∃ t0, ρ1[i]? = some (some t0)) ∧ mk ρ1 EX fun kt ρ2 => ∃ d key ks cs, kt = .d d ∧ keyD d = some key ∧ t.leafy = true ∧ ρ2[i]? = some (some (.nd (.dT ks) cs)) ∧ ks.length < sizeLine ∧
  κ.nx (ρ2.set i (some (.nd (.dT (dKs ks key)) (dVs ks cs key t))))) : mDPut i mk m ρ EX κ := h
end FA
set_option Elab.async false
set_option linter.all false
set_option maxRecDepth 100000
namespace FA
open PySem PySem.Spec PyProof.Rows L2
local macro_rules | `(tactic| walk_at "x") => `(tactic| repeat (first
  | with_reducible refine x_seq ?_ | with_reducible refine x_set ?_ | with_reducible refine x_ret ?_ | with_reducible refine x_Ae ?_ | with_reducible refine x_A0 ?_ | with_reducible refine x_C ?_ | with_reducible refine x_I ?_ | with_reducible refine x_add ?_
  | with_reducible refine x_int ?_ | with_reducible refine x_abs ?_ | with_reducible refine x_bits ?_ | with_reducible refine x_bits' ?_ | with_reducible refine x_setc ?_ | with_reducible refine x_eqI ?_ | with_reducible refine x_fz ?_
  | ((with_reducible refine x_op ?_ ?hn); (case hn => rfl)) | ((with_reducible refine x_call ?_ ?hn); (case hn => rfl))
  | ((with_reducible show mA (Opd.b _ :: _) _ _ _); refine x_Ab rfl rfl ?_) | ((with_reducible show mVar _ _ _ _); refine x_var rfl rfl ?_)
  | ((with_reducible show mRd _ (bIx (bVar _) (mC _)) _ _ _); refine x_rdc rfl rfl rfl rfl rfl ?_)
  | with_reducible refine x_if ?_ | with_reducible refine x_ifS ?_ | with_reducible refine x_val ?_ | with_reducible refine x_bool ?_
  | with_reducible refine x_neg ?_ | with_reducible refine x_min ?_ | with_reducible refine x_max ?_ | with_reducible refine x_next ?_ | with_reducible refine x_kill ?_ | with_reducible refine x_retN ?_ | with_reducible refine x_tand ?_ | with_reducible refine x_tor ?_
  | with_reducible refine x_chain ?_ | with_reducible refine x_two ?_ | with_reducible refine x_tnot ?_ | with_reducible refine x_and ?_ | with_reducible refine x_or ?_ | with_reducible refine x_not ?_ | with_reducible refine x_drop ?_))


/-! ### counting -/
def met (p : List Int) (i j : Int) : Bool := p.any fun x => decide (i ≤ x) && decide (x ≤ j)
theorem met_iff {p : List Int} {i j : Int} : met p i j = true ↔ ∃ x ∈ p, i ≤ x ∧ x ≤ j := by
  unfold met
  rw [List.any_eq_true]
  refine ⟨fun ⟨x, h, e⟩ => ⟨x, h, ?_⟩, fun ⟨x, h, e⟩ => ⟨x, h, ?_⟩⟩
  · simpa using e
  · simpa using e
def cntBy (f : Fam) (g : List Int → Bool) : Int := (f.map fun x => if g x.1 = true then x.2 else 0).sum
def cnt (f : Fam) (i j : Int) : Int := cntBy f fun p => met p i j
/-- the last visit up to d was k days before -/
def hit (p : List Int) (d k : Int) : Bool := decide ((d - k) ∈ p) && !met p (d - k + 1) d
def rowsOf (f : Fam) (many wide : Nat) : Sh := (List.range many).map fun d => (List.range (min (d + 1) wide)).map fun k : Nat => cnt f ((d : Int) - (k : Int)) d
theorem pat_len {many : Int} : ∀ {p : List Int}, p.Pairwise (· < ·) → (∀ x ∈ p, 0 ≤ x ∧ x < many) → (p.length : Int) ≤ max many 0 := by
  have key : ∀ (p : List Int) (lo : Int), p.Pairwise (· < ·) → (∀ x ∈ p, lo ≤ x ∧ x < many) → lo + p.length ≤ max many lo := by
    intro p
    induction p with
    | nil => intro lo _ _; show lo + 0 ≤ _; omega
    | cons a p ih =>
      intro lo h1 h2
      rw [List.pairwise_cons] at h1
      have ha := h2 a List.mem_cons_self
      have := ih (a + 1) h1.2 fun x hx => ⟨h1.1 x hx, (h2 x (List.mem_cons_of_mem _ hx)).2⟩
      rw [List.length_cons]
      omega
  intro p h1 h2
  have := key p 0 h1 h2
  omega
/-- a matrix, row d with d + 1 numbers -/
def rowT (n : Nat) (r : Nat → Int) : List T := (List.range n).map fun k => T.d (.int (r k))
def matT (many : Nat) (m : Nat → Nat → Int) : T := .nd .lst ((List.range many).map fun d => .nd .lst (rowT (d + 1) (m d)))
def mUpd (m : Nat → Nat → Int) (d k : Nat) (v : Int) : Nat → Nat → Int := fun d' k' => if d' = d ∧ k' = k then v else m d' k'
theorem rowT_get {n k : Nat} {r : Nat → Int} (h : k < n) : (rowT n r)[k]? = some (.d (.int (r k))) := by
  unfold rowT
  rw [List.getElem?_map, List.getElem?_range h]
  rfl
theorem rowT_len {n : Nat} {r : Nat → Int} : (rowT n r).length = n := by
  unfold rowT
  rw [List.length_map, List.length_range]
theorem rowT_set {n k : Nat} {r : Nat → Int} {v : Int} (h : k < n) : (rowT n r).set k (.d (.int v)) = rowT n fun k' => if k' = k then v else r k' := by
  refine List.ext_getElem? fun i => ?_
  by_cases hi : i < n
  · by_cases e : i = k
    · subst e
      rw [List.getElem?_set_self (by rw [rowT_len]; exact h), rowT_get hi, if_pos rfl]
    · rw [List.getElem?_set_ne (Ne.symm e), rowT_get hi, rowT_get hi, if_neg e]
  · rw [List.getElem?_eq_none (by rw [List.length_set, rowT_len]; omega), List.getElem?_eq_none (by rw [rowT_len]; omega)]
theorem mat_get {many d : Nat} {m : Nat → Nat → Int} (h : d < many) : ((List.range many).map fun d => T.nd .lst (rowT (d + 1) (m d)))[d]? = some (.nd .lst (rowT (d + 1) (m d))) := by
  rw [List.getElem?_map, List.getElem?_range h]
  rfl
theorem mat_at1 {many d : Nat} {m : Nat → Nat → Int} (h : d < many) : atP [d] (matT many m) = some (.nd .lst (rowT (d + 1) (m d))) := at_one (mat_get h)
theorem mat_upd {many d k : Nat} {m : Nat → Nat → Int} {v : Int} (h : d < many) (hk : k < d + 1) : updP [d] (matT many m) (.nd .lst ((rowT (d + 1) (m d)).set k (.d (.int v)))) = matT many (mUpd m d k v) := by
  unfold matT
  rw [upd_one (mat_get h), rowT_set hk]
  congr 1
  refine List.ext_getElem? fun i => ?_
  by_cases hi : i < many
  · by_cases e : i = d
    · subst e
      rw [List.getElem?_set_self (by rw [List.length_map, List.length_range]; exact h), mat_get hi]
      congr 3
      funext k'
      unfold mUpd
      by_cases q : k' = k
      · rw [if_pos q, if_pos ⟨rfl, q⟩]
      · rw [if_neg q, if_neg fun z => q z.2]
    · rw [List.getElem?_set_ne (Ne.symm e), mat_get hi, mat_get hi]
      congr 3
      funext k'
      unfold mUpd
      rw [if_neg fun z => e z.1]
  · rw [List.getElem?_eq_none (by rw [List.length_set, List.length_map, List.length_range]; omega), List.getElem?_eq_none (by rw [List.length_map, List.length_range]; omega)]
theorem mat_congr {many : Nat} {m m' : Nat → Nat → Int} (h : ∀ d k, d < many → k < d + 1 → m d k = m' d k) : matT many m = matT many m' := by
  unfold matT
  congr 1
  refine List.map_congr_left fun d hd => ?_
  unfold rowT
  congr 1
  exact List.map_congr_left fun k hk => by rw [h d k (List.mem_range.mp hd) (List.mem_range.mp hk)]
theorem hit_one {p : List Int} {d t k : Int} (h1 : t ∈ p) (h2 : t ≤ d) (h3 : met p (t + 1) d = false) (hk : 0 ≤ k) : hit p d k = decide (k = d - t) := by
  have n3 : ¬ ∃ x ∈ p, t + 1 ≤ x ∧ x ≤ d := fun z => by
    rw [met_iff.mpr z] at h3
    cases h3
  by_cases e : k = d - t
  · rw [decide_eq_true e]
    unfold hit
    subst e
    rw [show d - (d - t) = t by omega, h3, decide_eq_true h1]
    rfl
  · rw [decide_eq_false e]
    cases q : hit p d k with
    | false => rfl
    | true =>
      exfalso
      unfold hit at q
      rw [Bool.and_eq_true, decide_eq_true_eq, Bool.not_eq_true'] at q
      obtain ⟨q1, q2⟩ := q
      have n2 : ¬ ∃ x ∈ p, d - k + 1 ≤ x ∧ x ≤ d := fun z => by
        rw [met_iff.mpr z] at q2
        cases q2
      by_cases l : t < d - k
      · exact n3 ⟨d - k, q1, by omega, by omega⟩
      · exact n2 ⟨t, h1, by omega, h2⟩
theorem hit_none {p : List Int} {d k : Int} (h : ∀ x ∈ p, d < x) (hk : 0 ≤ k) : hit p d k = false := by
  unfold hit
  rw [decide_eq_false fun z => by have := h _ z; omega]
  rfl
/-! ### families as data -/
theorem kids_famD {f : Fam} : (T.d (famD f)).kids = some (f.map fun x => T.d (pairD x)) := by
  show some ((f.map pairD).map T.d) = _
  rw [List.map_map]
  rfl
theorem x_sum {R : T → Prop} {ns : List Int} (h : R (.d (.int ns.sum))) : oInts (fun ns P => P (.int ns.sum)) [.nd .lst (tI0 ns)] R := ⟨_, ns, rfl, rfl, kids_ints, h⟩
theorem pat_small {many : Int} {p : List Int} (h : PatOk many p) (hm : many ≤ 1000) : p.length ≤ 1000 := by
  have := pat_len h.2.1 h.2.2
  omega
end FA
set_option Elab.async false
set_option linter.all false
set_option maxRecDepth 100000
namespace FA
open PySem PySem.Spec PyProof.Rows L2
local macro_rules | `(tactic| walk_at "x") => `(tactic| repeat (first
  | with_reducible refine x_seq ?_ | with_reducible refine x_set ?_ | with_reducible refine x_ret ?_ | with_reducible refine x_Ae ?_ | with_reducible refine x_A0 ?_ | with_reducible refine x_C ?_ | with_reducible refine x_I ?_ | with_reducible refine x_add ?_
  | with_reducible refine x_int ?_ | with_reducible refine x_abs ?_ | with_reducible refine x_bits ?_ | with_reducible refine x_bits' ?_ | with_reducible refine x_setc ?_ | with_reducible refine x_eqI ?_ | with_reducible refine x_fz ?_
  | ((with_reducible refine x_op ?_ ?hn); (case hn => rfl)) | ((with_reducible refine x_call ?_ ?hn); (case hn => rfl))
  | ((with_reducible show mA (Opd.b _ :: _) _ _ _); refine x_Ab rfl rfl ?_) | ((with_reducible show mVar _ _ _ _); refine x_var rfl rfl ?_)
  | ((with_reducible show mRd _ (bIx (bVar _) (mC _)) _ _ _); refine x_rdc rfl rfl rfl rfl rfl ?_)
  | with_reducible refine x_if ?_ | with_reducible refine x_ifS ?_ | with_reducible refine x_val ?_ | with_reducible refine x_bool ?_
  | with_reducible refine x_neg ?_ | with_reducible refine x_min ?_ | with_reducible refine x_max ?_ | with_reducible refine x_next ?_ | with_reducible refine x_kill ?_ | with_reducible refine x_retN ?_ | with_reducible refine x_tand ?_ | with_reducible refine x_tor ?_
  | with_reducible refine x_chain ?_ | with_reducible refine x_two ?_ | with_reducible refine x_tnot ?_ | with_reducible refine x_and ?_ | with_reducible refine x_or ?_ | with_reducible refine x_not ?_ | with_reducible refine x_drop ?_))


/-! ### sums over a family -/
theorem cntBy_add {f : Fam} {g1 g2 g3 : List Int → Bool} (h : ∀ p, g3 p = (g1 p || g2 p)) (hd : ∀ p, g1 p = true → g2 p = false) : cntBy f g1 + cntBy f g2 = cntBy f g3 := by
  unfold cntBy
  induction f with
  | nil => rfl
  | cons x f ih =>
    rw [List.map_cons, List.map_cons, List.map_cons, List.sum_cons, List.sum_cons, List.sum_cons, ← ih]
    have e : (if g1 x.1 = true then x.2 else 0) + (if g2 x.1 = true then x.2 else 0) = (if g3 x.1 = true then x.2 else 0) := by
      rw [h x.1]
      cases q : g1 x.1 with
      | false => simp
      | true => rw [hd x.1 q]; simp
    omega
theorem cntBy_congr {f : Fam} {g1 g2 : List Int → Bool} (h : ∀ x ∈ f, g1 x.1 = g2 x.1) : cntBy f g1 = cntBy f g2 := by
  unfold cntBy
  congr 1
  exact List.map_congr_left fun x hx => by rw [h x hx]
theorem cntBy_snoc {f : Fam} {x : List Int × Int} {g : List Int → Bool} : cntBy (f ++ [x]) g = cntBy f g + (if g x.1 = true then x.2 else 0) := by
  unfold cntBy
  rw [List.map_append, List.sum_append]
  simp
def psum (r : Nat → Int) : Nat → Int
  | 0 => r 0
  | k + 1 => psum r k + r (k + 1)
def mF (f : Fam) (d k : Nat) : Int := cntBy f fun p => hit p d k
theorem psum_cnt {f : Fam} {d : Nat} : ∀ k : Nat, psum (mF f d) k = cnt f ((d : Int) - (k : Int)) d
  | 0 => by
    show cntBy f (fun p => hit p d ((0 : Nat) : Int)) = cntBy f _
    refine cntBy_congr fun x _ => ?_
    unfold hit
    have e : met x.1 ((d : Int) - ((0 : Nat) : Int) + 1) d = false := by
      refine Bool.eq_false_iff.mpr fun z => ?_
      obtain ⟨y, _, h1, h2⟩ := met_iff.mp z
      omega
    rw [e, Bool.not_false, Bool.and_true]
    by_cases q : ((d : Int) - ((0 : Nat) : Int)) ∈ x.1
    · rw [decide_eq_true q]
      exact (met_iff.mpr ⟨_, q, by omega, by omega⟩).symm
    · rw [decide_eq_false q]
      exact (Bool.eq_false_iff.mpr fun z => by
        obtain ⟨y, hy, h1, h2⟩ := met_iff.mp z
        have : y = (d : Int) - ((0 : Nat) : Int) := by omega
        exact q (this ▸ hy)).symm
  | k + 1 => by
    show psum (mF f d) k + mF f d (k + 1) = _
    rw [psum_cnt k]
    refine cntBy_add (fun p => ?_) fun p h1 => ?_
    · unfold hit
      rw [show (d : Int) - ((k + 1 : Nat) : Int) + 1 = (d : Int) - (k : Int) by omega]
      cases q : met p ((d : Int) - (k : Int)) d with
      | true =>
        rw [Bool.true_or]
        obtain ⟨y, hy, h1, h2⟩ := met_iff.mp q
        exact met_iff.mpr ⟨y, hy, by omega, h2⟩
      | false =>
        rw [Bool.false_or, Bool.not_false, Bool.and_true]
        have nq : ¬ ∃ x ∈ p, (d : Int) - (k : Int) ≤ x ∧ x ≤ d := fun z => by
          rw [met_iff.mpr z] at q
          cases q
        by_cases e : ((d : Int) - ((k + 1 : Nat) : Int)) ∈ p
        · rw [decide_eq_true e]
          exact met_iff.mpr ⟨_, e, Int.le_refl _, by omega⟩
        · rw [decide_eq_false e]
          refine Bool.eq_false_iff.mpr fun z => ?_
          obtain ⟨y, hy, h1, h2⟩ := met_iff.mp z
          by_cases h3 : (d : Int) - (k : Int) ≤ y
          · exact nq ⟨y, hy, h3, h2⟩
          · have : y = (d : Int) - ((k + 1 : Nat) : Int) := by omega
            exact e (this ▸ hy)
    · unfold hit
      rw [show (d : Int) - ((k + 1 : Nat) : Int) + 1 = (d : Int) - (k : Int) by omega, h1]
      simp

/-! ### steps for rows -/
section
variable {ρ : Env} {EX : EXk} {κ : Kt} {P : T → Env → Prop} {PT : T → List Nat → Env → Prop} {R : T → Prop} {i j : Nat} {m mk : ME} {mb : MB} {os : List Opd} {o : OpT} {t u : T} {cs : List T} {kd : Kd} {q : Nat} {p : List Nat} {z : Int} {mS : MS}
theorem x_bVar (e : ρ[i]? = some (some t)) (h : PT t [] (ρ.set i none)) : bVar i ρ EX PT := ⟨t, e, h⟩
theorem x_bIx (h : mb ρ EX fun t p ρ1 => mk ρ1 EX fun k ρ2 => ∃ j kd cs q, k = .d (.int j) ∧ atP p t = some (.nd kd cs) ∧ kd.isLst = true ∧ ixN cs.length j = some q ∧ PT t (p ++ [q]) ρ2) : bIx mb mk ρ EX PT := h
theorem x_mRd (h : mb ρ EX fun t p ρ' => ∃ u, atP p t = some u ∧ u.leafy = true ∧ P u (ρ'.set i (some t))) : mRd i mb ρ EX P := h
theorem x_key {A : Nat → Prop} (hk : kd.isLst = true) (ea : atP p t = some (.nd kd cs)) (hq : ixN cs.length z = some q) (h : A q) : ∃ j kd cs q, T.d (.int z) = .d (.int j) ∧ atP p t = some (.nd kd cs) ∧ kd.isLst = true ∧ ixN cs.length j = some q ∧ A q := ⟨z, kd, cs, q, rfl, ea, hk, hq, h⟩
theorem x_setP (h : m ρ EX fun t ρ1 => mb ρ1 EX fun t0 p ρ2 => mk ρ2 EX fun k ρ3 => ∃ j kd cs q, k = .d (.int j) ∧ atP p t0 = some (.nd kd cs) ∧ kd.isLst = true ∧ ixN cs.length j = some q ∧ κ.nx (ρ3.set i (some (updP p t0 (.nd kd (cs.set q t)))))) : mSetP i mb mk m ρ EX κ := h
theorem ixN_nat {n k : Nat} (h : k < n) : ixN n (k : Int) = some k := by
  unfold ixN
  rw [if_pos (by omega), if_pos (by omega), Int.toNat_natCast]
theorem x_opO (h : mA os ρ EX fun ts ρ' => o ts fun t => P t (back os ts ρ')) : mOp o os ρ EX P := h
theorem x_forO (css : List (List T)) (e : ρ[i]? = some (some (.nd .lst (css.map (.nd .lst))))) (h : ∀ l : Addr, forO j mS (fun done ρ' => ρ'[i]? = some (some (.tok .hole l)) ∧ κ.nx (ρ'.set i (some (.nd .lst done)))) EX css [] (ρ.set i (some (.tok .hole l)))) : mForO i j mS ρ EX κ := ⟨css, e, h⟩
theorem x_frz (e : ρ[i]? = some (some t)) (e2 : t.fz = some u) (h : P u (ρ.set i (some u))) : mFrz i ρ EX P := ⟨t, u, e, e2, h⟩
theorem x_rep {n : Nat} (h : n ≤ 100000) (hR : R (.nd .lst (rowT n fun _ => 0))) : oMulA [.nd .lst [.d (.int 0)], .d (.int (n : Int))] R := by
  show T.isS (.nd .lst [.d (.int 0)]) = true ∧ ∃ cs, T.kids (.nd .lst [.d (.int 0)]) = some cs ∧ -(2 ^ 63) ≤ (n : Int) ∧ (n : Int) < 2 ^ 63 ∧ cs.length * (n : Int).toNat ≤ sizeLine ∧ R (.nd .lst (List.replicate (n : Int).toNat cs).flatten)
  refine ⟨rfl, [.d (.int 0)], rfl, by omega, by omega, ?_, ?_⟩
  · rw [sizeLine_eq, Int.toNat_natCast, List.length_singleton]; omega
  · have e : (List.replicate (n : Int).toNat [T.d (.int 0)]).flatten = rowT n fun _ => 0 := by
      rw [Int.toNat_natCast]
      unfold rowT
      clear h hR
      refine List.ext_getElem? fun i => ?_
      have e1 : (List.replicate n [T.d (.int 0)]).flatten = List.replicate n (T.d (.int 0)) := by
        induction n with
        | zero => rfl
        | succ n ih => rw [List.replicate_succ, List.flatten_cons, ih]; rfl
      rw [e1, List.getElem?_map]
      by_cases hi : i < n
      · rw [List.getElem?_replicate_of_lt hi, List.getElem?_range hi]
        rfl
      · rw [List.getElem?_eq_none (by rw [List.length_replicate]; omega), List.getElem?_eq_none (by rw [List.length_range]; omega)]
        rfl
    rw [e]
    exact hR
end
theorem data_row {n : Nat} {r : Nat → Int} : (T.nd .lst (rowT n r)).data = some (rowD ((List.range n).map r)) := by
  rw [T.data, if_pos (show Kd.lst.isLst = true from rfl)]
  unfold rowT rowD
  rw [datas_map (f := fun k => PyData.int (r k)), List.map_map]
  rfl
theorem fz_rows {l : List Nat} {n : Nat → Nat} {r : Nat → Nat → Int} : (T.nd .lst (l.map fun d => .nd .lst (rowT (n d) (r d)))).fz = some (.d (shD (l.map fun d => (List.range (n d)).map (r d)))) := by
  show (T.data _).map T.d = _
  rw [T.data, if_pos (show Kd.lst.isLst = true from rfl)]
  have e : T.datas (l.map fun d => T.nd .lst (rowT (n d) (r d))) = some (l.map fun d => rowD ((List.range (n d)).map (r d))) := by
    induction l with
    | nil => rfl
    | cons a l ih => rw [List.map_cons, T.datas, data_row, ih]; rfl
  rw [e]
  show some (T.d (.list _)) = _
  unfold shD
  rw [List.map_map]
  rfl

end FA
set_option Elab.async false
set_option linter.all false
set_option maxRecDepth 100000
namespace FA
open PySem PySem.Spec PyProof.Rows L2
local macro_rules | `(tactic| walk_at "x") => `(tactic| repeat (first
  | with_reducible refine x_seq ?_ | with_reducible refine x_set ?_ | with_reducible refine x_ret ?_ | with_reducible refine x_Ae ?_ | with_reducible refine x_A0 ?_ | with_reducible refine x_C ?_ | with_reducible refine x_I ?_ | with_reducible refine x_add ?_
  | with_reducible refine x_int ?_ | with_reducible refine x_abs ?_ | with_reducible refine x_bits ?_ | with_reducible refine x_bits' ?_ | with_reducible refine x_setc ?_ | with_reducible refine x_eqI ?_ | with_reducible refine x_fz ?_
  | ((with_reducible refine x_op ?_ ?hn); (case hn => rfl)) | ((with_reducible refine x_call ?_ ?hn); (case hn => rfl))
  | ((with_reducible show mA (Opd.b _ :: _) _ _ _); refine x_Ab rfl rfl ?_) | ((with_reducible show mVar _ _ _ _); refine x_var rfl rfl ?_)
  | ((with_reducible show mRd _ (bIx (bVar _) (mC _)) _ _ _); refine x_rdc rfl rfl rfl rfl rfl ?_)
  | with_reducible refine x_if ?_ | with_reducible refine x_ifS ?_ | with_reducible refine x_val ?_ | with_reducible refine x_bool ?_
  | with_reducible refine x_neg ?_ | with_reducible refine x_min ?_ | with_reducible refine x_max ?_ | with_reducible refine x_next ?_ | with_reducible refine x_kill ?_ | with_reducible refine x_retN ?_ | with_reducible refine x_tand ?_ | with_reducible refine x_tor ?_
  | with_reducible refine x_chain ?_ | with_reducible refine x_two ?_ | with_reducible refine x_tnot ?_ | with_reducible refine x_and ?_ | with_reducible refine x_or ?_ | with_reducible refine x_not ?_ | with_reducible refine x_drop ?_))


theorem famList {f : Fam} {k : Nat} {c : T} (h : (f.map fun x => T.d (pairD x))[k]? = some c) : ∃ x, f[k]? = some x ∧ c = T.d (pairD x) := by
  rw [List.getElem?_map] at h
  cases e : f[k]? with
  | none => rw [e] at h; cases h
  | some x => rw [e] at h; cases h; exact ⟨x, rfl, rfl⟩
def mIn (f : Fam) (i : Nat) (x : List Int × Int) (a : Int) (j : Nat) : Nat → Nat → Int := fun d k => mF (f.take i) d k + if a ≤ d ∧ (d : Int) < a + j ∧ hit x.1 d k = true then x.2 else 0
theorem mIn_zero {f : Fam} {i : Nat} {x : List Int × Int} {a : Int} : mIn f i x a 0 = mF (f.take i) := by
  funext d k
  unfold mIn
  rw [if_neg (by omega)]
  omega
theorem mIn_step {f : Fam} {i : Nat} {x : List Int × Int} {a s : Int} {j d0 k0 many : Nat} (h0 : (d0 : Int) = a + j) (hs : s ∈ x.1) (h1 : s ≤ d0) (h2 : met x.1 (s + 1) d0 = false) (hk : (k0 : Int) = d0 - s) : matT many (mUpd (mIn f i x a j) d0 k0 (mIn f i x a j d0 k0 + x.2)) = matT many (mIn f i x a (j + 1)) := by
  refine mat_congr fun d k hd hk2 => ?_
  unfold mUpd
  by_cases e : d = d0
  · subst e
    have hh := hit_one (k := (k : Int)) hs h1 h2 (by omega)
    by_cases q : k = k0
    · subst q
      rw [if_pos ⟨rfl, rfl⟩]
      unfold mIn
      rw [if_neg (by omega), hh, if_pos ⟨by omega, by omega, decide_eq_true hk⟩]
      omega
    · rw [if_neg fun z => q z.2]
      unfold mIn
      rw [if_neg (by omega), hh, if_neg fun z => by have := of_decide_eq_true z.2.2; omega]
  · rw [if_neg fun z => e z.1]
    unfold mIn
    congr 1
    have e2 : ((d : Int) < a + ((j + 1 : Nat) : Int)) ↔ (d : Int) < a + (j : Int) := by omega
    simp only [e2]
theorem mIn_all {f : Fam} {i : Nat} {x : List Int × Int} {a : Int} {j many : Nat} (hx : f[i]? = some x) (ha : ∀ y ∈ x.1, a ≤ y) (hj : a + j = many) : matT many (mIn f i x a j) = matT many (mF (f.take (i + 1))) := by
  refine mat_congr fun d k hd hk => ?_
  unfold mIn mF
  rw [List.take_add_one, hx]
  show _ = cntBy (f.take i ++ [x]) _
  rw [cntBy_snoc]
  congr 1
  by_cases q : hit x.1 d k = true
  · rw [if_pos q]
    by_cases l : a ≤ d
    · rw [if_pos ⟨l, by omega, q⟩]
    · rw [hit_none (fun y hy => by have := ha y hy; omega) (by omega)] at q
      cases q
  · rw [if_neg q, if_neg fun z => q z.2.2]
theorem forO_rows {j : Nat} {mS : MS} {K : List T → Env → Prop} {EX : EXk} {ρ : Env} {m m' : Nat → Nat → Int} : ∀ {l : List Nat} {done : List T}, (∀ d ∈ l, ∀ a (N : Env → Prop), (∀ ρ', ρ'[j]? = some (some (.nd (.lsa a) (rowT (d + 1) (m' d)))) → ρ'.set j none = ρ → N ρ') →
    mS (ρ.set j (some (.nd (.lsa a) (rowT (d + 1) (m d))))) EX { nx := N, rt := fun _ _ => False, bk := fun _ => False, ct := fun _ => False }) → K (done ++ l.map fun d => .nd .lst (rowT (d + 1) (m' d))) ρ → forO j mS K EX (l.map fun d => rowT (d + 1) (m d)) done ρ
  | [], done, _, h => by
    rw [List.map_nil, List.append_nil] at h
    exact h
  | d :: l, done, hs, h => fun a => hs d List.mem_cons_self a _ fun ρ' e1 e2 => ⟨_, e1, by
      rw [e2]
      refine forO_rows (fun d hd => hs d (List.mem_cons_of_mem _ hd)) ?_
      rw [List.append_assoc]
      exact h⟩
theorem HT_none {n : Nat} : HT.sIx n 0 none = 0 := rfl
theorem HT_nat {n k : Nat} : HT.sIx n n (some (k : Int)) = min k n := by
  show (if (k : Int) < 0 then ((k : Int) + (n : Int)).toNat else min (k : Int).toNat n) = min k n
  rw [if_neg (by omega), Int.toNat_natCast]
end FA
set_option Elab.async false
set_option linter.all false
set_option maxRecDepth 100000
namespace FA
open PySem PySem.Spec PyProof.Rows L2
/-! ### families and their sheets -/
def b2i (b : Bool) : Int := if b = true then 1 else 0
theorem cntBy_ge {f : Fam} {A B C D : List Int → Bool} (hn : ∀ x ∈ f, 0 ≤ x.2) (h : ∀ x ∈ f, b2i (C x.1) + b2i (D x.1) ≤ b2i (A x.1) + b2i (B x.1)) : cntBy f C + cntBy f D ≤ cntBy f A + cntBy f B := by
  unfold cntBy
  induction f with
  | nil => exact Int.le_refl _
  | cons x f ih =>
    rw [List.map_cons, List.map_cons, List.map_cons, List.map_cons, List.sum_cons, List.sum_cons, List.sum_cons, List.sum_cons]
    have h1 := ih (fun y hy => hn y (List.mem_cons_of_mem _ hy)) fun y hy => h y (List.mem_cons_of_mem _ hy)
    have h2 := h x List.mem_cons_self
    have h3 := hn x List.mem_cons_self
    have : (if C x.1 = true then x.2 else 0) + (if D x.1 = true then x.2 else 0) ≤ (if A x.1 = true then x.2 else 0) + (if B x.1 = true then x.2 else 0) := by
      unfold b2i at h2
      revert h2
      cases A x.1 <;> cases B x.1 <;> cases C x.1 <;> cases D x.1 <;> simp <;> omega
    omega
theorem met_false {p : List Int} {i j : Int} (h : j < i) : met p i j = false := Bool.eq_false_iff.mpr fun z => by
  obtain ⟨y, _, h1, h2⟩ := met_iff.mp z
  omega
theorem met_union {p : List Int} {a b c d : Int} (h1 : a ≤ c) (h2 : c ≤ b + 1) (h3 : b ≤ d) : met p a d = (met p a b || met p c d) := by
  cases q : met p a b with
  | true =>
    rw [Bool.true_or]
    obtain ⟨y, hy, e1, e2⟩ := met_iff.mp q
    exact met_iff.mpr ⟨y, hy, e1, by omega⟩
  | false =>
    rw [Bool.false_or]
    have nq : ¬ ∃ x ∈ p, a ≤ x ∧ x ≤ b := fun z => by rw [met_iff.mpr z] at q; cases q
    cases r : met p c d with
    | true =>
      obtain ⟨y, hy, e1, e2⟩ := met_iff.mp r
      exact met_iff.mpr ⟨y, hy, by omega, e2⟩
    | false =>
      refine Bool.eq_false_iff.mpr fun z => ?_
      obtain ⟨y, hy, e1, e2⟩ := met_iff.mp z
      by_cases l : y ≤ b
      · exact nq ⟨y, hy, e1, l⟩
      · rw [met_iff.mpr ⟨y, hy, by omega, e2⟩] at r
        cases r
theorem met_mono {p : List Int} {a b c d : Int} (h1 : c ≤ a) (h2 : b ≤ d) (h : met p a b = true) : met p c d = true := by
  obtain ⟨y, hy, e1, e2⟩ := met_iff.mp h
  exact met_iff.mpr ⟨y, hy, by omega, by omega⟩
theorem cnt_false {f : Fam} {i j : Int} (h : j < i) : cnt f i j = 0 := by
  unfold cnt cntBy
  induction f with
  | nil => rfl
  | cons x f ih =>
    rw [List.map_cons, List.sum_cons, ih]
    show (if met x.1 i j = true then x.2 else 0) + 0 = 0
    rw [met_false h]
    simp
theorem cnt_nn {f : Fam} {i j : Int} (hn : ∀ x ∈ f, 0 ≤ x.2) : 0 ≤ cnt f i j := by
  unfold cnt cntBy
  induction f with
  | nil => exact Int.le_refl _
  | cons x f ih =>
    rw [List.map_cons, List.sum_cons]
    have := ih fun y hy => hn y (List.mem_cons_of_mem _ hy)
    have := hn x List.mem_cons_self
    split <;> omega
theorem rows_len {f : Fam} {many wide : Nat} : (rowsOf f many wide).length = many := by
  unfold rowsOf
  rw [List.length_map, List.length_range]
theorem rows_row {f : Fam} {many wide d : Nat} (h : d < many) : (rowsOf f many wide).getD d [] = (List.range (min (d + 1) wide)).map fun k : Nat => cnt f ((d : Int) - (k : Int)) d := by
  unfold rowsOf
  rw [List.getD_eq_getElem?_getD, List.getElem?_map, List.getElem?_range h]
  rfl
theorem U_cnt {f : Fam} {many wide : Nat} {i j : Int} (h : i ≤ j → 0 ≤ i ∧ j < many ∧ j - i < wide) : U (rowsOf f many wide) i j = cnt f i j := by
  unfold U
  by_cases l : i ≤ j
  · obtain ⟨h1, h2, h3⟩ := h l
    rw [if_pos l]
    unfold cell
    rw [rows_row (by omega), List.getD_eq_getElem?_getD, List.getElem?_map, List.getElem?_range (by omega)]
    show cnt f ((j.toNat : Int) - ((j - i).toNat : Int)) (j.toNat : Int) = _
    rw [show ((j.toNat : Int) - ((j - i).toNat : Int)) = i by omega, show (j.toNat : Int) = j by omega]
  · rw [if_neg l, cnt_false (by omega)]
section
variable {f : Fam} {many wide : Nat}
theorem rows_ok (hf : FamOk many f) (h1 : 1 ≤ wide) (h2 : wide ≤ many) (h3 : many ≤ 30) : SheetOk (rowsOf f many wide) wide := by
  refine ⟨by rw [rows_len]; omega, by rw [rows_len]; exact h3, h1, by rw [rows_len]; exact h2, fun d hd => ?_, fun r hr x hx => ?_⟩
  · rw [rows_len] at hd
    rw [rows_row hd, List.length_map, List.length_range]
  · unfold rowsOf at hr
    obtain ⟨d, _, rfl⟩ := List.mem_map.mp hr
    obtain ⟨k, _, rfl⟩ := List.mem_map.mp hx
    exact cnt_nn fun y hy => (hf.2 y hy).2
theorem gap_cnt {i j : Int} (h0 : 0 ≤ i) (h1 : i < j) (h2 : j < many) (h3 : j - i < wide) : Gap (rowsOf f many wide) i j = cnt f i (j - 1) + cnt f (i + 1) j - cnt f (i + 1) (j - 1) - cnt f i j := by
  unfold Gap
  rw [U_cnt (fun _ => by omega), U_cnt (fun _ => by omega), U_cnt (fun _ => by omega), U_cnt (fun _ => by omega)]
theorem rows_feas (hf : FamOk many f) (h1 : 1 ≤ wide) (h2 : wide ≤ many) : Feas (rowsOf f many wide) wide := by
  have hn : ∀ x ∈ f, 0 ≤ x.2 := fun x hx => (hf.2 x hx).2
  refine ⟨fun i hi j hj hij hw => ?_, fun d hd => ?_, fun d hd => ?_⟩
  · rw [rows_len] at hi hj
    rw [gap_cnt (by omega) (by omega) (by omega) (by omega)]
    have := cntBy_ge (f := f) (A := fun p => met p i ((j : Int) - 1)) (B := fun p => met p ((i : Int) + 1) j) (C := fun p => met p ((i : Int) + 1) ((j : Int) - 1)) (D := fun p => met p i j) hn fun x _ => ?_
    · unfold cnt; omega
    · have hD := met_union (p := x.1) (a := i) (b := (j : Int) - 1) (c := (i : Int) + 1) (d := j) (by omega) (by omega) (by omega)
      have hC := fun z => met_mono (p := x.1) (a := (i : Int) + 1) (b := (j : Int) - 1) (c := i) (d := (j : Int) - 1) (by omega) (by omega) z
      have hC2 := fun z => met_mono (p := x.1) (a := (i : Int) + 1) (b := (j : Int) - 1) (c := (i : Int) + 1) (d := j) (by omega) (by omega) z
      rw [hD]
      unfold b2i
      cases q : met x.1 ((i : Int) + 1) ((j : Int) - 1) with
      | true => rw [hC q, hC2 q]; simp
      | false => cases met x.1 i ((j : Int) - 1) <;> cases met x.1 ((i : Int) + 1) j <;> simp
  · rw [rows_len] at hd
    unfold Away lastL
    rw [rows_len, U_cnt (fun _ => by omega), U_cnt (fun _ => by omega)]
    have := cntBy_ge (f := f) (A := fun p => met p d (min ((d : Int) + wide) many - 1)) (B := fun _ => false) (C := fun p => met p ((d : Int) + 1) (min ((d : Int) + wide) many - 1)) (D := fun _ => false) hn fun x _ => ?_
    · unfold cnt; omega
    · unfold b2i
      cases q : met x.1 ((d : Int) + 1) (min ((d : Int) + wide) many - 1) with
      | true => rw [met_mono (by omega) (by omega) q]; simp
      | false => cases met x.1 d (min ((d : Int) + wide) many - 1) <;> simp
  · rw [rows_len] at hd
    unfold Fresh firstL
    rw [U_cnt (fun _ => by omega), U_cnt (fun _ => by omega)]
    have := cntBy_ge (f := f) (A := fun p => met p (max 0 ((d : Int) - wide + 1)) d) (B := fun _ => false) (C := fun p => met p (max 0 ((d : Int) - wide + 1)) ((d : Int) - 1)) (D := fun _ => false) hn fun x _ => ?_
    · unfold cnt; omega
    · unfold b2i
      cases q : met x.1 (max 0 ((d : Int) - wide + 1)) ((d : Int) - 1) with
      | true => rw [met_mono (by omega) (by omega) q]; simp
      | false => cases met x.1 (max 0 ((d : Int) - wide + 1)) d <;> simp
end

end FA
set_option Elab.async false
set_option linter.all false
set_option maxRecDepth 100000
namespace FA
open PySem PySem.Spec PyProof.Rows L2
def sp_law : Spec := fun ts _ P => ∃ a ns, ts = [.scr a ns] ∧ P (.d (.bool true))
/-- one of two -/
theorem x_pick {R : T → Prop} {a b : PyData} {q : Int} (h0 : 0 ≤ q) (h1 : q < 2) (ha : R (.d a)) (hb : R (.d b)) : oIxG [.nd .lst [.d a, .d b], .d (.int q)] R := by
  have e : q = 0 ∨ q = 1 := by omega
  rcases e with rfl | rfl
  · exact x_ix _ rfl (u := .d a) (atI_nat (by decide) rfl) ha
  · exact x_ix _ rfl (u := .d b) (atI_nat (by decide) rfl) hb
theorem eqv_refl {n : Nat} {x : PyData} (h : okA n x) : PyData.eqv x x = true := (okA_all n x h).1
theorem okA_shD {s : Sh} (h : s.length ≤ 1000000) (h2 : ∀ r ∈ s, r.length ≤ 1000000) : okA 3 (shD s) := by
  refine ⟨by rw [List.length_map]; exact h, fun y hy => ?_⟩
  obtain ⟨r, hr, rfl⟩ := List.mem_map.mp hy
  exact okA_ints (n := 0) (h2 r hr)
theorem cl_bool {ts : List T} {b : Bool} : (leafys ts || T.closed (.d (.bool b))) = true := by
  rw [show T.closed (.d (.bool b)) = true from rfl, Bool.or_true]
theorem x_neSame {R : T → Prop} {t u : T} {x : PyData} {n : Nat} (h1 : t.data = some x) (h2 : u.data = some x) (h : okA n x) (hn : n ≤ 64) (hR : R (.d (.bool false))) : oNe [t, u] R := by
  refine ⟨x, x, ?_, okA_shaped h hn, okA_shaped h hn, ?_⟩
  · rw [T.datas, h1, T.datas, h2]
    rfl
  · rw [eqv_refl h]
    exact hR
theorem x_pick' {R : T → Prop} {a b : PyData} {q : Int} (h0 : 0 ≤ q) (h1 : q < 2) (h : ∀ d, d = a ∨ d = b → R (.d d)) : oIxG [.nd .lst [.d a, .d b], .d (.int q)] R := x_pick h0 h1 (h a (.inl rfl)) (h b (.inr rfl))
end FA
set_option Elab.async false
set_option linter.all false
set_option maxRecDepth 100000
namespace FA
open PySem PySem.Spec PyProof.Rows L2 L2.DX

/-! ### a locked dict whose keys are tuples -/
section
variable {X : Cx} {pins : List (Addr × Obj)} {σ : L2.St} {H : Hp} {s : Shared} {d : Addr} {o : Obj}
end
section
variable {P : Program} {w : World} {K : PySem.W.Frag} {d : Addr} {o : Obj} {es : Array DictEntry} {ep : Nat}
end
section
variable {X : Cx} {tg e : Expr} {td : TE} {apos cpos : Pos}
end

/-! ### data at keys -/
def dGet (kvs : List (PyData × PyData)) (q : List L2.Key) : Option PyData := (kvs.find? fun p => decide (keyD p.1 = some q)).map Prod.snd
theorem keysOf_keyP : ∀ q : List L2.Key, keysOf (q.map keyP) = some q
  | [] => rfl
  | .inl i :: q => by
    rw [List.map_cons, keysOf, keysOf_keyP q]
    rfl
  | .inr i :: q => by
    rw [List.map_cons, keysOf, keysOf_keyP q]
    rfl
theorem keyD_keyP (q : List L2.Key) : keyD (.tuple (q.map keyP)) = some q := keysOf_keyP q
theorem dGet_pos {k q : List L2.Key} {x : PyData} {kvs : List (PyData × PyData)} (h : k = q) : dGet ((.tuple (k.map keyP), x) :: kvs) q = some x := by
  unfold dGet
  rw [List.find?_cons_of_pos]
  · rfl
  · rw [keyD_keyP, h, decide_eq_true rfl]
theorem dGet_neg {k q : List L2.Key} {x : PyData} {kvs : List (PyData × PyData)} (h : k ≠ q) : dGet ((.tuple (k.map keyP), x) :: kvs) q = dGet kvs q := by
  unfold dGet
  rw [List.find?_cons_of_neg]
  rw [keyD_keyP, decide_eq_true_eq]
  exact fun z => h (Option.some.inj z)
theorem drk_val {K : PySem.W.Frag} {G : Hp} {q : List L2.Key} : ∀ {kvs : List (PyData × PyData)} {ws : List (List L2.Key × V)}, DRk K G kvs ws → (dGet kvs q).isSome = (valV ws q).isSome ∧ ∀ x, dGet kvs q = some x → ∃ v, valV ws q = some v ∧ DR K G x v
  | [], ws, h => by
    rw [DRk] at h
    subst h
    exact ⟨rfl, fun x z => by cases z⟩
  | (k, x) :: kvs, ws, h => by
    rw [DRk] at h
    obtain ⟨k', v, r, rfl, rfl, h1, h2⟩ := h
    by_cases e : k' = q
    · rw [dGet_pos e, valV_pos (p := (k', v)) e]
      exact ⟨rfl, fun x z => by cases z; exact ⟨v, rfl, h1⟩⟩
    · rw [dGet_neg e, valV_neg (p := (k', v)) e]
      exact drk_val h2
theorem drk_at {K : PySem.W.Frag} {G : Hp} : ∀ {kvs : List (PyData × PyData)} {ws : List (List L2.Key × V)}, DRk K G kvs ws → kvs.length = ws.length ∧ ∀ (i : Nat) k x, kvs[i]? = some (k, x) → ∃ q v, ws[i]? = some (q, v) ∧ k = .tuple (q.map keyP) ∧ DR K G x v
  | [], ws, h => by
    rw [DRk] at h
    subst h
    exact ⟨rfl, fun i k x z => by cases z⟩
  | (k, x) :: kvs, ws, h => by
    rw [DRk] at h
    obtain ⟨q, v, r, rfl, rfl, h1, h2⟩ := h
    obtain ⟨l, hr⟩ := drk_at h2
    refine ⟨by rw [List.length_cons, List.length_cons, l], fun i k' x' z => ?_⟩
    cases i with
    | zero => cases z; exact ⟨q, v, rfl, rfl, h1⟩
    | succ i => exact hr i k' x' z
theorem key_dr {K : PySem.W.Frag} {G : Hp} {d : PyData} {q : List L2.Key} {v : V} (h : DR K G d v) (e : keyD d = some q) : ∃ b, v = .ref b ∧ G b = some (.tup (q.map kV)) := by
  cases d with
  | tuple xs =>
    rw [DR] at h
    obtain ⟨b, ws, rfl, gb, dws⟩ := h
    have ews := keysOf_at dws e
    subst ews
    exact ⟨b, rfl, gb⟩
  | _ => cases e
theorem dget_dr {K : PySem.W.Frag} {G H : Hp} {d : PyData} {q : List L2.Key} {kvs : List (PyData × PyData)} {v w : V} (le : Le G H) (h : DR K G d v) (e : keyD d = some q) (h2 : DR K G (.dict kvs) w) :
    ∃ a o, w = .ref a ∧ DGet H a v o ∧ o.isSome = (dGet kvs q).isSome ∧ ∀ x, dGet kvs q = some x → ∃ u, o = some u ∧ DR K G x u := by
  obtain ⟨b, rfl, gb⟩ := key_dr h e
  rw [DR] at h2
  obtain ⟨a, o, ws, rfl, ga, dk⟩ := h2
  obtain ⟨l, hv⟩ := drk_val (q := q) dk
  exact ⟨a, valV ws q, rfl, .inr ⟨ws, q, b, .inr ⟨o, le _ _ ga⟩, rfl, le _ _ gb, rfl⟩, l.symm, hv⟩

/-! ### in, not in, d[k] -/
def rDGet : R2 := fun x y H Q => ∃ a v, x = .ref a ∧ DGet H a y (some v) ∧ Q v H
def oDGet : OpT := fun ts P => ∃ kvs d q x, ts = [.d (.dict kvs), .d d] ∧ keyD d = some q ∧ dGet kvs q = some x ∧ P (.d x)
theorem oDGet_S {K : PySem.W.Frag} : OpS K (r2L rDGet) oDGet := by
  intro ts vs G H F P Q ok tr ⟨kvs, d, q, x, e, ek, ex, hP⟩ hQ
  subst e
  obtain ⟨v, w, rfl, h1, h2⟩ := trs2 tr
  obtain ⟨a, o, rfl, g, l, hx⟩ := dget_dr ok.le h2.dr ek h1.dr
  obtain ⟨u, rfl, du⟩ := hx x ex
  exact ⟨a, u, rfl, g, hQ _ _ (res_same ok (.d du) hP)⟩
section
variable {X : Cx} {W : WX} {e a b tg : Expr} {m : ME} {pos apos cpos : Pos} {o1 o2 : Opd}
theorem ej_dget (hu : X.A.units + 64 < cLine) (ha : EO X W a o1) (hb : EO X W b o2) (hs : NoSl b := by exact fun _ _ => rfl) : EJ X W (.Subscript a b pos) (mOp oDGet [o1, o2]) :=
  PE_imp (pe_dget (by omega) ha hb hs) fun σ H Q h => mOp_read (c := cw X W) oDGet_S h

/-! ### the pairs are walked -/
theorem add_tup {G H : Hp} {F : Fp} {q : Addr} {ys : List V} (ok : Ok G H F) (h : H q = some (.tup ys)) : Step G H F (upd G q (.tup ys)) H F ∧ Ok (upd G q (.tup ys)) H F := by
  have nF : ¬ F q := fun z => by
    have c := ok.cell q z
    rw [h] at c
    exact c
  refine ⟨⟨fun a u e => ?_, fun a z => ?_, fun a u _ e => e, fun a z => z, fun a z => .inl z⟩, ⟨fun a u e => ?_, fun a z => ?_, ok.cell⟩⟩
  · by_cases x : a = q
    · subst x
      rw [upd_same, ← h]
      exact (ok.le _ _ e).symm ▸ rfl
    · rw [upd_ne x]; exact e
  · by_cases x : a = q
    · subst x
      right; right
      intro c
      rw [h] at c
      exact c
    · rw [upd_ne x] at z; exact .inl z
  · by_cases x : a = q
    · subst x
      rw [upd_same] at e
      cases e
      exact h
    · rw [upd_ne x] at e; exact ok.le _ _ e
  · rw [upd_ne (fun x : a = q => nF (x ▸ z))]
    exact ok.no a z
/-! ### a dict of ours is locked: data from now on -/
def dictD (ks : List (List L2.Key)) (xs : List PyData) : PyData := .dict (List.zipWith (fun k x => (.tuple (k.map keyP), x)) ks xs)
theorem drk_of {K : PySem.W.Frag} {G : Hp} : ∀ {ks : List (List L2.Key)} {xs : List PyData} {vs : List V}, ks.length = vs.length → DRs K G xs vs → DRk K G (List.zipWith (fun k x => (.tuple (k.map keyP), x)) ks xs) (ks.zip vs)
  | [], xs, vs, _, _ => by
    rw [List.zipWith_nil_left, List.zip_nil_left, DRk]
  | k :: ks, xs, [], e, _ => by cases e
  | k :: ks, [], v :: vs, e, h => by
    rw [DRs] at h
    cases h
  | k :: ks, x :: xs, v :: vs, e, h => by
    rw [DRs] at h
    obtain ⟨v', r', e2, h1, h2⟩ := h
    cases e2
    rw [List.zipWith_cons_cons, List.zip_cons_cons, DRk]
    exact ⟨k, v, _, rfl, rfl, h1, drk_of (Nat.succ.inj e) h2⟩
end
end FA
set_option Elab.async false
set_option linter.all false
set_option maxRecDepth 100000
namespace FA
open PySem PySem.Spec PyProof.Rows L2 L2.DX

/-! ### {(..): v, ..} -/
section
variable {X : Cx} {pos : Pos}
end
section
variable {X : Cx} {W : WX} {pos : Pos}
end
end FA
set_option Elab.async false
set_option linter.all false
set_option maxRecDepth 100000
namespace FA
open PySem PySem.Spec PyProof.Rows L2

/-! ### list(range(a, b)), tuple(range(a, b)) -/
def rgD (a b : Int) : List PyData := (List.range (b - a).toNat).map fun k : Nat => PyData.int (a + (k : Int))
theorem rg_drs {K : PySem.W.Frag} {G : Hp} {a b : Int} : DRs K G (rgD a b) (rgV a b) := by
  unfold rgD rgV
  refine DRs.of (by rw [List.length_map, List.length_map]) fun i d v e1 e2 => ?_
  rw [List.getElem?_map] at e1 e2
  obtain ⟨k, ek, rfl⟩ := Option.map_eq_some_iff.mp e1
  rw [ek] at e2
  cases e2
  rw [DR]
def rTupR : RL := fun vs H Q => match vs with
  | [x, y] => ∃ i j, x = V.int i ∧ y = V.int j ∧ RgOk i j ∧ ∀ q, H q = none → Q (.ref q) (upd H q (.tup (rgV i j)))
  | _ => False
def oTupR : OpT := fun ts P => ∃ i j, ts = [.d (.int i), .d (.int j)] ∧ RgOk i j ∧ P (.d (.tuple (rgD i j)))
theorem oTupR_S {K : PySem.W.Frag} : OpS K rTupR oTupR := by
  intro ts vs G H F P Q ok tr ⟨i, j, e, hr, hP⟩ hQ
  subst e
  obtain ⟨v, w, rfl, h1, h2⟩ := trs2 tr
  exact ⟨i, j, h1.int, h2.int, hr, fun q hq => hQ _ _ (res_tup ok rg_drs hq hP)⟩
section
variable {X : Cx} {W : WX} {a b : Expr} {o1 o2 : Opd} {p p2 pos pos2 : Pos}
theorem ej_tupR (hc : X.calm = true) (hm : X.mg "tuple" = none) (hr : X.mg "range" = none) (ha : EO X W a o1) (hb : EO X W b o2) (hg : Gl X "tuple" := by rfl) (hg2 : Gl X "range" := by rfl)
    (na : starEach [a, b] X.env = (false, eval a X.env) :: starEach [b] X.env := by rfl) (nb : starEach [b] X.env = (false, eval b X.env) :: starEach [] X.env := by rfl) (hp : (backTo pos2 (starEach [b] X.env)).any (·.1) = false := by rfl)
    (ne : starEach [Expr.Call (.Name "range" p2) [a, b] [] pos2] X.env = (false, eval (Expr.Call (.Name "range" p2) [a, b] [] pos2) X.env) :: starEach [] X.env := by rfl) :
    EJ X W (.Call (.Name "tuple" p) [.Call (.Name "range" p2) [a, b] [] pos2] [] pos) (mOp oTupR [o1, o2]) :=
  PE_imp (pe_tupRg hc hg hm (prg_2 hg2 hr ha hb na nb hp) ne) fun σ H Q h => by
    have q := mOp_read (c := cw X W) oTupR_S h
    exact q
end
end FA
set_option Elab.async false
set_option linter.all false
set_option maxRecDepth 100000
set_option maxHeartbeats 1000000
namespace FA
open PySem PySem.Spec PyProof.Rows L2

/-! ### defs that may change any argument that is a cell of the caller's -/
abbrev SpecO := List T → (Exc → List T → Prop) → (T → List T → Prop) → Prop
/-- a list without a label -/
def T.isLN : T → Bool
  | .nd .lst _ => true
  | _ => false
def LabT (t u : T) : Prop := (∃ cs l, t = .nd .lst cs ∧ u = .nd (.lsa l) cs) ∨ (t.isLN = false ∧ u = t)
def Labs : List T → List T → Prop
  | [], us => us = []
  | t :: ts, us => ∃ u r, us = u :: r ∧ LabT t u ∧ Labs ts r
theorem Labs.len : ∀ {ts us : List T}, Labs ts us → us.length = ts.length
  | [], us, h => by
    have h : us = [] := h
    rw [h]
  | t :: ts, us, h => by
    obtain ⟨u, r, rfl, _, hr⟩ := h
    rw [List.length_cons, List.length_cons, hr.len]
section
variable {K : PySem.W.Frag} {G H : Hp} {F F' : Fp} {t u : T} {v : V} {ts us : List T} {vs : List V}
theorem TRs.mono (h : TRs K G H ts vs F) (s : ∀ a, F a → F' a) : TRs K G H ts vs F' := by
  obtain ⟨l, fs, a1, a2, a3⟩ := h
  exact ⟨l, fs, a1, a2, fun i x z => s x (a3 i x z)⟩
theorem TR.labT (h : TR K G H t v F) : ∃ u, LabT t u ∧ TR K G H u v F := by
  by_cases e : t.isLN = true
  · cases t with
    | nd k cs =>
      cases k with
      | lst =>
        obtain ⟨l, _, h2⟩ := h.lab rfl
        exact ⟨_, .inl ⟨cs, l, rfl, rfl⟩, h2⟩
      | _ => cases e
    | _ => cases e
  · exact ⟨t, .inr ⟨Bool.not_eq_true _ ▸ e, rfl⟩, h⟩
end
section
variable {c : Cw} {G H G' H' G2 H2 : Hp} {F F' F2 A B : Fp} {ρ : Env} {EX : EXk} {os : List Opd} {Q : VK} {sp : SpecO} {n i : Nat}
end
section
variable {X : Cx} {W : WX} {e : Expr} {pos : Pos}
end
section
variable {P : Program} {w : World} {K : PySem.W.Frag} {mg : Str → Option Value} {base : Heap}
end
end FA
set_option Elab.async false
set_option linter.all false
set_option maxRecDepth 100000
set_option maxHeartbeats 1000000
namespace L2
open PySem PySem.Spec PyProof.Rows
/-! ### methods and making, what is wanted of exceptions by the slots -/
section
variable {X : Cx} {CX : CXT} {k : Nat} {f C : Addr} {fd : FuncData} {ps : List Str} {sp : Sp} {E : St → XK} {x m : Str} {p pos apos : Pos} {e o : Expr} {es : List Expr} {ta : TE} {t : TA}
end
end L2
namespace FA
open PySem PySem.Spec PyProof.Rows L2

/-! ### fields of an instance of ours -/
def mFld (D : Addr) (i : Nat) (f : Str) : ME := fun ρ EX P => ∃ a fs cs c, ρ[i]? = some (some (.nd (.ins a D fs) cs)) ∧ (fs.zip cs).lookup f = some c ∧ c.leafy = true ∧ P c ρ
section
variable {X : Cx} {W : WX} {e : Expr} {es : List Expr} {m : ME} {pos pos' apos p : Pos} {x f : Str} {i : Nat} {D : Addr}
end
end FA
set_option Elab.async false
set_option linter.all false
set_option maxRecDepth 100000
set_option maxHeartbeats 1000000
namespace FA
open PySem PySem.Spec PyProof.Rows L2

/-! ### a new instance -/
section
variable {c : Cw} {G H : Hp} {F : Fp} {ρ : Env} {EX EX1 : EXk} {os : List Opd} {Q : VK} {sp : SpecO} {n : Nat} {D : Addr}
end
section
variable {X : Cx} {W : WX} {e : Expr} {es : List Expr} {m : ME} {pos pos' apos p : Pos} {x f : Str} {i : Nat} {D : Addr} {sp : SpecO} {os : List Opd} {k n : Nat} {g : Addr} {fd : FuncData} {ps : List Str}
/-! ### properties, len, == -/
end
section
variable {X : Cx} {k : Nat} {C g : Addr} {fd : FuncData} {ps : List Str} {sp : Sp} {E : XK}
end
section
variable {X : Cx} {W : WX} {e : Expr} {es : List Expr} {m : ME} {pos pos' apos p p2 : Pos} {x y f : Str} {i j : Nat} {D : Addr} {sp : SpecO} {os : List Opd} {k n : Nat} {g : Addr} {fd : FuncData} {ps : List Str}
end

/-! ### == of instances without an __eq__ of their own -/
section
variable {prog : Program} {w : World} {A : Around} {E : Value → Shared → Prop} {s : Shared} {K : PySem.W.Frag} {x y C : Addr} {ox oy : Obj} {od od' : Option Obj}
end
section
variable {X : Cx} {W : WX} {pos p p2 : Pos} {x y : Str} {i j : Nat} {D : Addr}
end

/-! ### methods called by keywords -/
section
variable {X : Cx} {k : Nat} {C g : Addr} {fd : FuncData} {ps ks : List Str} {sp : Sp} {E : L2.St → XK} {o : Expr} {ta : TE} {t : TA} {pos apos : Pos} {kws : List Keyword} {m : Str} {is : List Nat}
end
section
variable {X : Cx} {W : WX} {e : Expr} {es : List Expr} {m : ME} {pos pos' apos p p2 : Pos} {x y f : Str} {i j : Nat} {D : Addr} {sp : SpecO} {os : List Opd} {k n : Nat} {g : Addr} {fd : FuncData} {ps ks : List Str} {is : List Nat} {kws : List Keyword} {mm : Str}
end
end FA
set_option Elab.async false
set_option linter.all false
set_option maxRecDepth 100000
set_option maxHeartbeats 2000000
namespace L2
open PySem PySem.Spec PyProof.Rows
/-! ### try with one clause that binds no name -/
section
variable {X : Cx} {pins : List (Addr × Obj)} {σ : St} {H : Hp}
end
end L2
namespace FA
open PySem PySem.Spec PyProof.Rows L2
section
variable {X : Cx} {W : WX}
end
/-! ### append at a place -/
section
variable {X : Cx} {W : WX} {a e : Expr} {m : ME} {mb : MB} {pos cpos apos : Pos} {i : Nat}
end
/-! ### binding of keywords -/
section
variable {X : Cx} {W : WX} {pos p p2 : Pos} {x y : Str} {D : Addr}
end
section
variable {X : Cx} {W : WX} {x : Str} {p pos : Pos}
end
end FA
set_option Elab.async false
set_option linter.all false
set_option maxRecDepth 100000
set_option maxHeartbeats 1000000
namespace FA
open PySem PySem.Spec PyProof.Rows L2 L2.DX

/-! ### what a def returns may be named by its address -/
section
variable {P : Program} {w : World} {K : PySem.W.Frag} {mg : Str → Option Value} {base : Heap}
theorem lab_ok {k n : Nat} {f : Addr} {fd : FuncData} {ps : List Str} {sp0 sp : Spec} (F : FnOk P w K mg base (L2.CX P w) k f fd ps (spP K mg n sp0)) (hs : ∀ ts EX P, sp ts EX P → sp0 ts EX fun t => ∀ u, LabT t u → P u) :
    FnOk P w K mg base (L2.CX P w) k f fd ps (spP K mg n sp) :=
  F.imp fun vs H Q E ⟨G, ts, Pd, EX, ok, hl, hlf, tr, h, hQ, hX⟩ => ⟨G, ts, _, EX, ok, hl, hlf, tr, hs ts EX Pd h, fun v H' ⟨G', Fv, t, s', ok', tt, hP⟩ => by
    obtain ⟨u, lu, tu⟩ := tt.labT
    exact hQ v H' ⟨G', Fv, u, s', ok', tu, hP u lu⟩, hX⟩
end

/-! ### the keys of a locked dict are walked -/
def miK (m : ME) : MI := fun ρ EX P => m ρ EX fun t ρ' => ∃ kvs, t = .d (.dict kvs) ∧ P (kvs.map fun p => T.d p.1) ρ'
theorem walks_k {K : PySem.W.Frag} {G H : Hp} {F : Fp} {d : Addr} {o : Obj} {kvs : List (PyData × PyData)} {ws : List (List L2.Key × V)} (hd : G d = some (.frz o (.dT ws))) (dk : DRk K G kvs ws) :
    Walks K (Itkt d o ws) (kvs.map fun p => T.d p.1) G H F := fun G' H' F' s ok' => by
  have hd' : H' d = some (.frz o (.dT ws)) := ok'.le _ _ (s.le _ _ hd)
  obtain ⟨l, hat⟩ := drk_at (dk.le s.le)
  refine ⟨fun i t et => ?_, hd', by rw [List.length_map, l]; exact Nat.le_refl _⟩
  rw [List.getElem?_map] at et
  obtain ⟨⟨k, x⟩, ek, rfl⟩ := Option.map_eq_some_iff.mp et
  obtain ⟨q, v, ew, rfl, dx⟩ := hat i k x ek
  refine ⟨⟨hd', (List.getElem?_eq_some_iff.mp ew).1⟩, fun y H'' ⟨eH, k', v', q0, e1, e2, hq⟩ => ?_⟩
  rw [ew] at e1
  cases e1
  subst e2 eH
  obtain ⟨s1, ok1⟩ := add_tup ok' hq
  exact ⟨_, s1, ok1, .refl _, .d (by
    rw [DR]
    exact ⟨q0, _, rfl, upd_same, keyP_at q⟩)⟩
section
variable {X : Cx} {W : WX} {e a b tg : Expr} {m mk mx : ME} {pos apos cpos : Pos} {o1 o2 : Opd}
theorem ij_keysD (h : EJ X W e m) : IJ X W tg e (miK m) := by
  refine PI_imp (pi_keys h) fun σ H R ⟨G, F, ρ, P, EX, ok, en, xw, hm, hR⟩ => ?_
  refine ⟨G, F, ρ, _, EX, ok, en, xw, hm, fun v H' ⟨G', F', Fv, t, ρ', s, ok', dj, en', tr, kvs, et, hP⟩ => ?_⟩
  subst et
  have dr := tr.dr
  rw [DR] at dr
  obtain ⟨a, o, ws, rfl, ga, dk⟩ := dr
  exact ⟨a, o, rfl, .inr ⟨ws, ok'.le _ _ ga, hR _ H' G' F' _ ρ' (s.less fun a q => .inr q) (ok'.less fun a q => .inr q) en' (walks_k ga dk) hP⟩⟩

/-! ### a dict of ours at a slot is locked, no step of the program -/
def mLock (i : Nat) (m : MS) : MS := fun ρ EX κ => ∃ ks xs, ρ[i]? = some (some (.nd (.dT ks) (xs.map T.d))) ∧ m (ρ.set i (some (.d (dictD ks xs)))) EX κ
theorem sj_lock {sts : List Stmt} {m1 : MS} (i : Nat) (h : SJs X W sts m1) : SJs X W sts (mLock i m1) := by
  refine ⟨fun pins s σ H D I ⟨G, F, ρ, κ, EX, ok, en, xw, ⟨ks, xs, e, hm⟩, kd⟩ => ?_⟩
  obtain ⟨v, A, B, ev, tr, enB, dAB, hA, hB⟩ := en.take e
  cases tr with
  | @nd _ _ a vs _ fs h1 h2 h3 h4 h5 h6 h7 =>
    obtain ⟨hkl, ha⟩ := h1
    obtain ⟨od, I2⟩ := I.lock ha trivial
    have fa : F a := hA a h7
    have ga : G a = none := ok.no a fa
    have nB : ¬ B a := fun z => dAB a h7 z
    have leG : Le G (upd G a (.frz od (.dT (ks.zip vs)))) := fun b u e => by
      rw [upd_ne (ne_of_none e ga)]
      exact e
    have drs : DRs (cw X W).K G xs vs := DRs.of (by rw [← h2, List.length_map]) fun i d w e1 e2 => (h3 i (.d d) w (by rw [List.getElem?_map, e1]; rfl) e2).dr
    have st : Step G H F (upd G a (.frz od (.dT (ks.zip vs)))) (upd H a (.frz od (.dT (ks.zip vs)))) B := by
      refine ⟨leG, fun b z => ?_, fun b u nb e => ?_, fun b z => ?_, fun b z => .inl (hB b z)⟩
      · by_cases x : b = a
        · exact .inr (.inl (x ▸ fa))
        · rw [upd_ne x] at z
          exact .inl z
      · rw [upd_ne fun x : b = a => nb (x ▸ fa)]
        exact e
      · by_cases x : b = a
        · rw [x, upd_same]; simp
        · rw [upd_ne x]; exact z
    have ok2 : Ok (upd G a (.frz od (.dT (ks.zip vs)))) (upd H a (.frz od (.dT (ks.zip vs)))) B := by
      refine ⟨fun b u e => ?_, fun b z => ?_, fun b z => ?_⟩
      · by_cases x : b = a
        · subst x
          rw [upd_same] at e ⊢
          exact e
        · rw [upd_ne x] at e ⊢
          exact ok.le b u e
      · rw [upd_ne fun x : b = a => nB (x ▸ z)]
        exact ok.no b (hB b z)
      · rw [upd_ne fun x : b = a => nB (x ▸ z)]
        exact ok.cell b (hB b z)
    have en2 := (enB.stay leG (H' := upd H a (.frz od (.dT (ks.zip vs)))) fun b u z e => by
      rw [upd_ne fun x : b = a => nB (x ▸ z)]
      exact e).put ev (t := .d (dictD ks xs)) (A := Fz) (.d (by
        unfold dictD
        rw [DR]
        exact ⟨a, od, _, rfl, upd_same, drk_of hkl (drs.le leG)⟩)) fun b z => z.elim
    rw [List.set_set] at en2
    exact h.run pins s σ _ D I2 ⟨_, B, _, κ, EX, ok2, en2.mono fun b z => z.elim (fun z => z.elim) id, xw.step st, hm, kd.step st⟩

/-! ### found.get(key, other), found a dict of ours -/
def getT : List (List L2.Key) → List PyData → List L2.Key → PyData → PyData
  | k :: ks, x :: xs, q, z => if k = q then x else getT ks xs q z
  | _, _, _, z => z
theorem getT_dr {K : PySem.W.Frag} {G : Hp} {q : List L2.Key} {z : PyData} {zv : V} (hz : DR K G z zv) : ∀ {ks : List (List L2.Key)} {xs : List PyData} {vs : List V}, ks.length = vs.length → DRs K G xs vs → DR K G (getT ks xs q z) ((valV (ks.zip vs) q).getD zv)
  | [], xs, vs, _, _ => by
    rw [getT]
    · exact hz
    · intros _ _ _ _ e; cases e
  | k :: ks, xs, [], e, _ => by cases e
  | k :: ks, [], v :: vs, e, h => by
    rw [DRs] at h
    cases h
  | k :: ks, x :: xs, v :: vs, e, h => by
    rw [DRs] at h
    obtain ⟨v', r', e2, h1, h2⟩ := h
    cases e2
    rw [getT, List.zip_cons_cons]
    by_cases c : k = q
    · rw [if_pos c, valV_pos (p := (k, v)) c]
      exact h1
    · rw [if_neg c, valV_neg (p := (k, v)) c]
      exact getT_dr hz (Nat.succ.inj e) h2
def mGetO (i : Nat) (mk mx : ME) : ME := fun ρ EX P => (∃ ks cs, ρ[i]? = some (some (.nd (.dT ks) cs))) ∧ mk ρ EX fun kt ρ1 => mx ρ1 EX fun xt ρ2 => ∃ d q ks xs z, kt = .d d ∧ keyD d = some q ∧ xt = .d z ∧ ρ2[i]? = some (some (.nd (.dT ks) (xs.map T.d))) ∧ P (.d (getT ks xs q z)) ρ2
theorem ej_getO {x : Str} {px : Pos} (i : Nat) (hu : X.A.units + 64 < cLine) (hk : EJ X W a mk) (hx : EJ X W b mx) (m : M2 X (.Name x px) "get" apos a b cpos) (hN : X.N[i]? = some x := by rfl) (hv : Vis X.env.scope x := by first | exact Or.inl rfl | exact Or.inr (Or.inl rfl) | exact Or.inr (Or.inr rfl))
    (hd : (x == ("__debug__" : Str)) = false := by decide +kernel) (hcd : (x == ("__classdict__" : Str)) = false := by decide +kernel) : EJ X W (.Call (.Attribute (.Name x px) "get" apos) [a, b] [] cpos) (mGetO i mk mx) := by
  refine PE_imp (pe_dget2 (by omega) (pe_var hN hv hd hcd) hk hx m) fun σ H Q ⟨G, F, ρ, P, EX, ok, en, xw, ⟨⟨ks0, cs0, e0⟩, hm⟩, hQ⟩ => ?_
  obtain ⟨v0, A0, B0, ev0, tr0, _⟩ := en.take e0
  cases tr0 with
  | @nd _ _ ad vs0 _ fs0 h1 _ _ _ _ _ _ =>
    refine ⟨.ref ad, ev0, ad, rfl, .inr ⟨_, .of h1.2⟩, ?_⟩
    refine ⟨G, F, ρ, _, EX, ok, en, xw, hm, fun kv H1 ⟨G1, F1, F1v, kt, ρ1, s1, ok1, dj1, en1, tr1, hm1⟩ => ?_⟩
    have s1' : Step G H F G1 H1 F1 := s1.less fun a q => .inr q
    refine ⟨G1, F1, ρ1, _, EX, ok1.less fun a q => .inr q, en1, xw.step s1', hm1, fun xv H2 ⟨G2, F2, F2v, xt, ρ2, s2, ok2, dj2, en2, tr2, d, q, ks, xs, z, e1, ek, e2, e3, hP⟩ => ?_⟩
    subst e1 e2
    obtain ⟨bk, rfl, gb⟩ := key_dr (tr1.dr.le s2.le) ek
    obtain ⟨v1, A1, B1, ev1, tr3, _, _, hA1, _⟩ := en2.take e3
    rw [ev0] at ev1
    cases ev1
    cases tr3 with
    | @nd _ _ _ vs1 _ fs1 k1 k2 k3 k4 k5 k6 k7 =>
      have drs : DRs (cw X W).K G2 xs vs1 := DRs.of (by rw [← k2, List.length_map]) fun i d w e1 e2 => (k3 i (.d d) w (by rw [List.getElem?_map, e1]; rfl) e2).dr
      refine ⟨_, DGet.t k1.2 (ok2.le _ _ gb), hQ _ _ ⟨G2, F2, Fz, _, ρ2, (s1'.trans s2).less fun a q => q.elim (fun z => z.elim) .inr, ok2.less fun a q => q.elim (fun z => z.elim) .inr, fun a q => q.elim, en2, .d (getT_dr tr2.dr k1.1 drs), hP⟩⟩

/-! ### is True, is not True -/
/-! ### y = x[..][k], a list inside of ours: it is lent, and given back -/
def mLend (i : Nat) (mb : MB) : ME := fun ρ EX P => mb ρ EX fun t p ρ' => ∃ ds, atP p t = some (.nd .lst ds) ∧ ∀ a, P (.nd (.lsa a) ds) (ρ'.set i (some (updP p t (.tok .hole a))))
theorem ej_lend {mb : MB} {i : Nat} (hb : EB X W i e mb) : EJ X W e (mLend i mb) := by
  refine PE_imp hb fun σ H Q ⟨G, F, ρ, P, EX, ok, en, xw, hm, hQ⟩ => ?_
  refine ⟨G, F, ρ, _, EX, ok, en, xw, hm, fun v H1 ⟨G1, F1, A, t, p, u, v0, ρ1, s1, ok1, dj1, en1, ev, tr, et, va, ds, ea, hP⟩ => ?_⟩
  obtain ⟨A2, tu, hA2, re⟩ := focus_at tr ea va
  cases tu with
  | @nd _ _ l vs _ fs h1 h2 h3 h4 h5 h6 h7 =>
    have tl : TR (cw X W).K G1 H1 (.nd (.lsa l) ds) (.ref l) A2 := .nd fs ⟨rfl, h1⟩ h2 h3 h4 h5 h6 h7
    have tn := re G1 H1 (.tok .hole l) Fz (.refl _) (fun a o _ _ e => e) (.tok trivial) fun a z => z.elim
    have en2 := en1.put ev tn fun a z q => z.elim (fun z => z.elim) fun z => dj1 a z.1 q
    have ww : ∀ a, Fu A2 (Fu (fun a => Fz a ∨ (A a ∧ ¬ A2 a)) F1) a → Fu A F1 a := fun a q => by
      rcases q with q | (q | q) | q
      · exact .inl (hA2 a q)
      · exact q.elim
      · exact .inl q.1
      · exact .inr q
    refine hQ _ H1 ⟨G1, _, A2, _, _, s1.less ww, ok1.less ww, fun a p q => ?_, en2, tl, hP l⟩
    rcases q with (q | q) | q
    · exact q.elim
    · exact q.2 p
    · exact dj1 a (hA2 a p) q
def mBack (i j : Nat) (m : MS) : MS := fun ρ EX κ => ∃ t p a ds, ρ[i]? = some (some t) ∧ atP p t = some (.tok .hole a) ∧ ρ[j]? = some (some (.nd (.lsa a) ds)) ∧ m ((ρ.set j none).set i (some (updP p t (.nd .lst ds)))) EX κ
theorem sj_back {sts : List Stmt} {m1 : MS} (i j : Nat) (hij : i ≠ j) (h : SJs X W sts m1) : SJs X W sts (mBack i j m1) := by
  refine PSs_imp h fun D σ H ⟨G, F, ρ, κ, EX, ok, en, xw, ⟨t, p, a, ds, e1, ea, e2, hm⟩, kd⟩ => ?_
  obtain ⟨v, A, B, ev, tr, enB, dAB, hA, hB⟩ := en.take e2
  have e3 : (ρ.set j none)[i]? = some (some t) := by rw [List.getElem?_set_ne (Ne.symm hij)]; exact e1
  obtain ⟨v2, A2, B2, ev2, tr2, enB2, dAB2, hA2, hB2⟩ := enB.take e3
  obtain ⟨v3, A3, va, tu, hA3, re⟩ := focus tr2 ea
  have q1 := adr_at tu rfl
  subst q1
  have q2 := adr_at tr rfl
  subst q2
  have tl : TR (cw X W).K G H (.nd .lst ds) (.ref a) A := by
    cases tr with
    | @nd _ _ _ us _ gs h1 h2 h3 h4 h5 h6 h7 => exact .nd gs h1.2 h2 h3 h4 h5 h6 h7
  have tn := re G H (.nd .lst ds) A (.refl _) (fun a o _ _ e => e) tl fun b p q => (dAB b p (hA2 b q)).elim
  have en3 := enB2.put ev2 tn fun b p q => by
    rcases p with p | p
    · exact dAB b p (hB2 b q)
    · exact dAB2 b p.1 q
  rw [List.set_set] at en3
  have en4 : EnvR (cw X W).K G H σ ((ρ.set j none).set i (some (updP p t (.nd .lst ds)))) F := en3.mono fun b q => by
    rcases q with (q | q) | q
    · exact hA b q
    · exact hB b (hA2 b q.1)
    · exact hB b (hB2 b q)
  exact ⟨G, F, _, κ, EX, ok, en4, xw, hm, kd⟩
end
abbrev RefI (sp : SpecI) (n N : Nat) (m : MS) : Prop := ∀ t ts EX Q, ts.length + 1 = n → (∀ t ∈ ts, t.leafy = true) → sp t ts EX Q → ∃ a, t.adr = some a ∧ m (startE N (t :: ts)) (exI EX a) (ktI Q a)
theorem x_callI {sp : SpecI} {i : Nat} {os : List Opd} {ρ : Env} {EX : EXk} {P : T → Env → Prop} {t0 : T} (h0 : ρ[i]? = some (some t0)) (hn : noO os = true) (h : mA os ρ EX fun ts ρ1 => ∃ t, ρ1[i]? = some (some t) ∧ leafys ts = true ∧ sp t ts (fun x t' => EX x (ρ1.set i (some t'))) fun u t' => P u (ρ1.set i (some t'))) : mCallI sp i os ρ EX P := ⟨⟨_, h0⟩, hn, h⟩
end FA
set_option Elab.async false
set_option linter.all false
set_option maxRecDepth 100000
namespace FA
open PySem PySem.Spec PyProof.Rows L2
local macro_rules | `(tactic| walk_at "x") => `(tactic| repeat (first
  | with_reducible refine x_seq ?_ | with_reducible refine x_set ?_ | with_reducible refine x_ret ?_ | with_reducible refine x_Ae ?_ | with_reducible refine x_A0 ?_ | with_reducible refine x_C ?_ | with_reducible refine x_I ?_ | with_reducible refine x_add ?_
  | with_reducible refine x_int ?_ | with_reducible refine x_abs ?_ | with_reducible refine x_bits ?_ | with_reducible refine x_bits' ?_ | with_reducible refine x_setc ?_ | with_reducible refine x_eqI ?_ | with_reducible refine x_fz ?_
  | ((with_reducible refine x_op ?_ ?hn); (case hn => rfl)) | ((with_reducible refine x_call ?_ ?hn); (case hn => rfl))
  | ((with_reducible show mA (Opd.b _ :: _) _ _ _); refine x_Ab rfl rfl ?_) | ((with_reducible show mVar _ _ _ _); refine x_var rfl rfl ?_)
  | ((with_reducible show mRd _ (bIx (bVar _) (mC _)) _ _ _); refine x_rdc rfl rfl rfl rfl rfl ?_)
  | with_reducible refine x_if ?_ | with_reducible refine x_ifS ?_ | with_reducible refine x_val ?_ | with_reducible refine x_bool ?_
  | with_reducible refine x_neg ?_ | with_reducible refine x_min ?_ | with_reducible refine x_max ?_ | with_reducible refine x_next ?_ | with_reducible refine x_kill ?_ | with_reducible refine x_retN ?_ | with_reducible refine x_tand ?_ | with_reducible refine x_tor ?_
  | with_reducible refine x_chain ?_ | with_reducible refine x_two ?_ | with_reducible refine x_tnot ?_ | with_reducible refine x_and ?_ | with_reducible refine x_or ?_ | with_reducible refine x_not ?_ | with_reducible refine x_drop ?_))



theorem FamOk.mono {f : Fam} {m n : Int} (h : FamOk m f) (hmn : m ≤ n) : FamOk n f := ⟨h.1, fun x hx => ⟨⟨(h.2 x hx).1.1, (h.2 x hx).1.2.1, fun y hy => ⟨((h.2 x hx).1.2.2 y hy).1, Int.lt_of_lt_of_le ((h.2 x hx).1.2.2 y hy).2 hmn⟩⟩, (h.2 x hx).2⟩⟩
theorem x_zp {ρ : Env} {EX : EXk} {P : List T → Env → Prop} {m1 m2 : ME} (h : mA [.e m1, .e m2] ρ EX fun ts ρ' => ∃ t u ds es, ts = [t, u] ∧ t.isL = u.isL ∧ t.kids = some (ds.map T.d) ∧ u.kids = some (es.map T.d) ∧ P (zpT ds es) ρ') : miZ m1 m2 ρ EX P := h
theorem x_slT {R : T → Prop} {ds : List PyData} {i : Int} (h : R (.d (.tuple (cutL ds (some i) none)))) : oSlLo [.d (.tuple ds), .d (.int i)] R := h
theorem HT_one {n d : Nat} : HT.sIx n d (some 1) = min 1 n := rfl
theorem cut1 {α : Type} {l : List α} : cutL l (some 1) none = l.drop 1 := by
  unfold cutL
  have e : HT.sIx l.length 0 (some 1) = min 1 l.length := by
    exact HT_one
  rw [e, show HT.sIx l.length l.length none = l.length from rfl]
  cases l with
  | nil => rfl
  | cons a l =>
    rw [List.length_cons, show min 1 (l.length + 1) = 1 by omega]
    exact List.take_of_length_le (by simp)
end FA
set_option Elab.async false
set_option linter.all false
set_option maxRecDepth 100000
namespace FA
open PySem PySem.Spec PyProof.Rows L2
local macro_rules | `(tactic| walk_at "x") => `(tactic| repeat (first
  | with_reducible refine x_seq ?_ | with_reducible refine x_set ?_ | with_reducible refine x_ret ?_ | with_reducible refine x_Ae ?_ | with_reducible refine x_A0 ?_ | with_reducible refine x_C ?_ | with_reducible refine x_I ?_ | with_reducible refine x_add ?_
  | with_reducible refine x_int ?_ | with_reducible refine x_abs ?_ | with_reducible refine x_bits ?_ | with_reducible refine x_bits' ?_ | with_reducible refine x_setc ?_ | with_reducible refine x_eqI ?_ | with_reducible refine x_fz ?_
  | ((with_reducible refine x_op ?_ ?hn); (case hn => rfl)) | ((with_reducible refine x_call ?_ ?hn); (case hn => rfl))
  | ((with_reducible show mA (Opd.b _ :: _) _ _ _); refine x_Ab rfl rfl ?_) | ((with_reducible show mVar _ _ _ _); refine x_var rfl rfl ?_)
  | ((with_reducible show mRd _ (bIx (bVar _) (mC _)) _ _ _); refine x_rdc rfl rfl rfl rfl rfl ?_)
  | with_reducible refine x_if ?_ | with_reducible refine x_ifS ?_ | with_reducible refine x_val ?_ | with_reducible refine x_bool ?_
  | with_reducible refine x_neg ?_ | with_reducible refine x_min ?_ | with_reducible refine x_max ?_ | with_reducible refine x_next ?_ | with_reducible refine x_kill ?_ | with_reducible refine x_retN ?_ | with_reducible refine x_tand ?_ | with_reducible refine x_tor ?_
  | with_reducible refine x_chain ?_ | with_reducible refine x_two ?_ | with_reducible refine x_tnot ?_ | with_reducible refine x_and ?_ | with_reducible refine x_or ?_ | with_reducible refine x_not ?_ | with_reducible refine x_drop ?_))


/-- a sum along days -/
def sumF (g : Int → Int) (lo : Int) (n : Nat) : Int := ((List.range n).map fun k : Nat => g (lo + (k : Int))).sum
def mostV (s : Sh) (w : Nat) (a d : Int) : Int := U s a (a + w - 1) + sumF (Fresh s w) (a + w) (d + 1 - (a + w)).toNat
def cov (s : Sh) (w : Nat) (a d b : Int) : Int := sumF (Away s w) a (b - a).toNat + sumF (Fresh s w) (b + w) (d + 1 - (b + w)).toNat
def sp_most_in : Spec := fun ts _ P => ∃ s w a d, ts = [.d (shD s), .d (.int a), .d (.int d)] ∧ SheetOk s w ∧ 0 ≤ a ∧ d < s.length ∧ (w : Int) ≤ d - a ∧ P (.d (.int (mostV s w a d)))
def sp_covers_in : Spec := fun ts _ P => ∃ s w a d, ts = [.d (shD s), .d (.int a), .d (.int d)] ∧ SheetOk s w ∧ 0 ≤ a ∧ d < s.length ∧ (w : Int) ≤ d - a ∧ P (.d (.list ((List.range (d - a - w + 2).toNat).map fun k : Nat => PyData.tuple [.int (cov s w a d (a + k)), .int (a + k)])))
theorem rng_ints {g : Int → Int} {lo : Int} {n : Nat} : (rngT lo n).map (fun c => match c with | .d (.int k) => T.d (.int (g k)) | _ => c) = tI0 ((List.range n).map fun k : Nat => g (lo + (k : Int))) := by
  unfold rngT tI0
  rw [List.map_map, List.map_map]
  exact List.map_congr_left fun k _ => rfl
theorem fz_tups {n : Nat} {g : Nat → PyData} : (T.nd .lst ((List.range n).map fun k : Nat => T.d (g k))).fz = some (.d (.list ((List.range n).map g))) := by
  have := fz_list (ds := (List.range n).map g)
  rw [List.map_map] at this
  exact this
theorem range_cons {n : Nat} : List.range (n + 1) = 0 :: (List.range n).map Nat.succ := List.range_succ_eq_map
theorem cov_mem {s : Sh} {w : Nat} {a d : Int} {n : Nat} {x : PyData} (h : x ∈ PyData.tuple [.int (cov s w a d (a + (0 : Nat))), .int (a + (0 : Nat))] :: (List.range n).map fun k : Nat => PyData.tuple [.int (cov s w a d (a + (k.succ : Nat))), .int (a + (k.succ : Nat))]) : ∃ i j : Int, x = .tuple [.int i, .int j] := by
  rcases List.mem_cons.mp h with h | h
  · exact ⟨_, _, h⟩
  · obtain ⟨k, _, e⟩ := List.mem_map.mp h
    exact ⟨_, _, e.symm⟩
theorem cov_alike {s : Sh} {w : Nat} {a d : Int} {n : Nat} : PySem.W.AlikeAll (PyData.tuple [.int (cov s w a d (a + (0 : Nat))), .int (a + (0 : Nat))] :: (List.range n).map fun k : Nat => PyData.tuple [.int (cov s w a d (a + (k.succ : Nat))), .int (a + (k.succ : Nat))]) := by
  refine ⟨fun x hx y hy => ?_, fun x hx => ?_⟩
  · obtain ⟨i, j, rfl⟩ := cov_mem hx
    obtain ⟨i2, j2, rfl⟩ := cov_mem hy
    simp [PySem.W.alike, PySem.W.alikeAll]
  · obtain ⟨i, j, rfl⟩ := cov_mem hx
    intro z
    cases z
theorem depth_le {n : Nat} : ∀ {xs : List PyData}, (∀ x ∈ xs, x.depth ≤ n) → PyData.depthAll xs ≤ n
  | [], _ => Nat.zero_le _
  | x :: xs, h => by
    rw [PyData.depthAll]
    exact Nat.max_le.mpr ⟨h x List.mem_cons_self, depth_le fun y hy => h y (List.mem_cons_of_mem _ hy)⟩
theorem cov_depth {s : Sh} {w : Nat} {a d : Int} {n : Nat} : PyData.depthAll (PyData.tuple [.int (cov s w a d (a + (0 : Nat))), .int (a + (0 : Nat))] :: (List.range n).map fun k : Nat => PyData.tuple [.int (cov s w a d (a + (k.succ : Nat))), .int (a + (k.succ : Nat))]) < 40 := by
  refine Nat.lt_of_le_of_lt (depth_le (n := 2) fun x hx => ?_) (by decide)
  obtain ⟨i, j, rfl⟩ := cov_mem hx
  simp [PyData.depth, PyData.depthAll]
/-- most_in(sheet, first, last): slots sheet, first, last, beyond, day -/
def m_most_in : MS := (mSeq (mSet 3 (mFz (mOp oAddA [.b 1, .e (mCall sp_width_told [.b 0])])))
  (mSeq (mRet (mOp oAddA [.e (mCall sp_unlike_in [.b 0, .b 1, .e (mOp oSub [.b 3, .e (mC (.int 1))])]), .e (mOp (oInts fun ns P => P (.int ns.sum)) [.e (mLc (miR2 (.b 3) (.e (mOp oAddA [.b 2, .e (mC (.int 1))]))) (.n 4) tYesM (mCall sp_fresh_in [.b 0, .b 4]) [4])])]))
  mNext))

/-- covers_in(sheet, first, last): slots sheet, first, last, width, found, begin, leaving, coming, day -/
def m_covers_in : MS := (mSeq (mPar 3 4 [.e (mCall sp_width_told [.b 0]), .e (mLst [])])
  (mSeq (mFor (miR2 (.b 1) (.e (mOp oAddA [.e (mOp oSub [.b 2, .b 3]), .e (mC (.int 2))]))) (.n 5)
    (mSeq (mSet 6 (mOp (oInts fun ns P => P (.int ns.sum)) [.e (mLc (miR2 (.b 1) (.b 5)) (.n 8) tYesM (mCall sp_away_in [.b 0, .b 8]) [8])]))
  (mSeq (mSet 7 (mOp (oInts fun ns P => P (.int ns.sum)) [.e (mLc (miR2 (.e (mOp oAddA [.b 5, .b 3])) (.e (mOp oAddA [.b 2, .e (mC (.int 1))]))) (.n 8) tYesM (mCall sp_fresh_in [.b 0, .b 8]) [8])]))
  (mSeq (mApp 4 (mTup [.e (mOp oAddA [.b 6, .b 7]), .e (mVar 5)]))
  (mKill [5, 6, 7] mNext)))))
  (mKill [5, 6, 7] (mSeq (mRet (mFz (mMov 4)))
  mNext))))

/-! ### longer stretches -/
theorem re_most_in : Ref sp_most_in 3 5 m_most_in := by
  intro ts EX Q _ _ ⟨s, w, a, d, e, h, h1, h2, h3, hQ⟩
  subst e
  have h30 := h.l30
  unfold m_most_in
  walk_at "x"
  refine ⟨_, rfl, s, w, rfl, h, rfl, ?_⟩
  walk_at "x"
  refine ⟨_, rfl, ?_⟩
  walk_at "x"
  refine ⟨_, rfl, s, w, _, _, rfl, h, fun _ => by omega, rfl, ?_⟩
  walk_at "x"
  refine x_lc (x_r2 ?_)
  walk_at "x"
  refine x_r2' (by omega) ?_
  refine lcM_map (fun c => match c with | .d (.int k) => .d (.int (Fresh s w k)) | _ => c) (fun c hc Q hQ => ?_) (by rw [rng_len]; omega) ?_
  · obtain ⟨k, hk⟩ := List.mem_iff_getElem?.mp hc
    obtain ⟨hk, rfl⟩ := rng_get hk
    refine x_tn ?_
    walk_at "x"
    exact ⟨_, rfl, s, w, _, rfl, h, by omega, by omega, rfl, hQ _ rfl⟩
  · rw [rng_ints]
    walk_at "x"
    refine x_sum ?_
    walk_at "x"
    exact hQ
theorem re_covers_in : Ref sp_covers_in 3 9 m_covers_in := by
  intro ts EX Q _ _ ⟨s, w, a, d, e, h, h1, h2, h3, hQ⟩
  subst e
  have h30 := h.l30
  have hw := h.w1
  unfold m_covers_in
  walk_at "x"
  refine x_par ?_
  walk_at "x"
  refine ⟨_, rfl, s, w, rfl, h, rfl, ?_⟩
  walk_at "x"
  refine x_lst ?_
  walk_at "x"
  refine ⟨x_small (by decide), ?_⟩
  walk_at "x"
  refine x_for (x_r2 ?_)
  walk_at "x"
  refine x_r2' (by omega) ?_
  refine forM_ix (fun k ρ => ρ = [some (.d (shD s)), some (.d (.int a)), some (.d (.int d)), some (.d (.int w)), some (.nd .lst ((List.range k).map fun k : Nat => T.d (.tuple [.int (cov s w a d (a + k)), .int (a + k)]))), none, none, none, none]) (k0 := 0) (fun k c hc ρ hI N hN => ?_) rfl fun ρ hI => ?_
  · obtain ⟨hk, rfl⟩ := rng_get hc
    rw [Nat.zero_add] at hI
    rw [Nat.zero_add] at hN
    subst hI
    refine x_tn ?_
    walk_at "x"
    refine x_lc (x_r2 ?_)
    walk_at "x"
    refine x_r2' (by omega) ?_
    refine lcM_map (fun c => match c with | .d (.int k) => .d (.int (Away s w k)) | _ => c) (fun c hc Q hQ => ?_) (by rw [rng_len]; omega) ?_
    · obtain ⟨j, hj⟩ := List.mem_iff_getElem?.mp hc
      obtain ⟨hj, rfl⟩ := rng_get hj
      refine x_tn ?_
      walk_at "x"
      exact ⟨_, rfl, s, w, _, rfl, h, by omega, by omega, rfl, hQ _ rfl⟩
    rw [rng_ints]
    walk_at "x"
    refine x_sum ?_
    walk_at "x"
    refine x_lc (x_r2 ?_)
    walk_at "x"
    refine x_r2' (by omega) ?_
    refine lcM_map (fun c => match c with | .d (.int k) => .d (.int (Fresh s w k)) | _ => c) (fun c hc Q hQ => ?_) (by rw [rng_len]; omega) ?_
    · obtain ⟨j, hj⟩ := List.mem_iff_getElem?.mp hc
      obtain ⟨hj, rfl⟩ := rng_get hj
      refine x_tn ?_
      walk_at "x"
      exact ⟨_, rfl, s, w, _, rfl, h, by omega, by omega, rfl, hQ _ rfl⟩
    rw [rng_ints]
    walk_at "x"
    refine x_sum ?_
    walk_at "x"
    refine x_app ?_
    refine x_tup ?_
    walk_at "x"
    refine x_tup2' ?_
    refine ⟨_, rfl, x_lt (by rw [List.length_map, List.length_range]; omega), ?_⟩
    walk_at "x"
    refine hN _ ?_
    rw [List.range_succ, List.map_append]
    rfl
  · rw [rng_len, Nat.zero_add] at hI
    subst hI
    walk_at "x"
    refine x_mov rfl ?_
    refine ⟨_, fz_tups, ?_⟩
    have e : (d - (w : Int) + 2 - a).toNat = (d - a - w + 2).toNat := by omega
    rw [e]
    exact hQ
end FA
set_option Elab.async false
set_option linter.all false
set_option maxRecDepth 100000
set_option maxHeartbeats 1000000
namespace FA.X
open PySem PySem.Spec PyProof.Rows L2
local macro_rules | `(tactic| walk_at "x") => `(tactic| repeat (first
  | with_reducible refine x_seq ?_ | with_reducible refine x_set ?_ | with_reducible refine x_ret ?_ | with_reducible refine x_Ae ?_ | with_reducible refine x_A0 ?_ | with_reducible refine x_C ?_ | with_reducible refine x_I ?_ | with_reducible refine x_add ?_
  | with_reducible refine x_int ?_ | with_reducible refine x_abs ?_ | with_reducible refine x_bits ?_ | with_reducible refine x_bits' ?_ | with_reducible refine x_setc ?_ | with_reducible refine x_eqI ?_ | with_reducible refine x_fz ?_
  | ((with_reducible refine x_op ?_ ?hn); (case hn => rfl)) | ((with_reducible refine x_call ?_ ?hn); (case hn => rfl))
  | ((with_reducible show mA (Opd.b _ :: _) _ _ _); refine x_Ab rfl rfl ?_) | ((with_reducible show mVar _ _ _ _); refine x_var rfl rfl ?_)
  | ((with_reducible show mRd _ (bIx (bVar _) (mC _)) _ _ _); refine x_rdc rfl rfl rfl rfl rfl ?_)
  | with_reducible refine x_if ?_ | with_reducible refine x_ifS ?_ | with_reducible refine x_val ?_ | with_reducible refine x_bool ?_
  | with_reducible refine x_neg ?_ | with_reducible refine x_min ?_ | with_reducible refine x_max ?_ | with_reducible refine x_next ?_ | with_reducible refine x_kill ?_ | with_reducible refine x_retN ?_ | with_reducible refine x_tand ?_ | with_reducible refine x_tor ?_
  | with_reducible refine x_chain ?_ | with_reducible refine x_two ?_ | with_reducible refine x_tnot ?_ | with_reducible refine x_and ?_ | with_reducible refine x_or ?_ | with_reducible refine x_not ?_ | with_reducible refine x_drop ?_))


/-! ### any data -/
def isIntD : PyData → Bool
  | .int _ => true
  | _ => false
def geD : PyData → Bool
  | .int i => decide (i ≥ 0)
  | _ => false
def areIntsD : PyData → Bool
  | .list xs => xs.all isIntD
  | _ => false
def isRowD : PyData → Int → Bool
  | .list xs, n => xs.all isIntD && (decide ((xs.length : Int) = n) && xs.all geD)
  | _, _ => false
def isShD : PyData → Bool
  | .list rows => decide (1 ≤ rows.length) && (decide (rows.length ≤ 30) && (match rows[rows.length - 1]? with
    | some (.list l) => decide (1 ≤ l.length) && (List.range rows.length).all fun i => isRowD (rows.getD i .none) (min ((i : Int) + 1) l.length)
    | _ => false))
  | _ => false
def anyT (a : Addr) : T := .tok (.any [("list", false)]) a
/-- a leaf that may be asked whether it is a sheet -/
def OkT (t : T) : Prop := (∃ x n, t = .d x ∧ okA n x) ∨ ∃ a, t = anyT a
def isShT : T → Bool
  | .d x => isShD x
  | _ => false
def sp_is_integer : Spec := fun ts _ P => ∃ x n, ts = [.d x] ∧ okA n x ∧ P (.d (.bool (isIntD x)))
def sp_are_integers : Spec := fun ts _ P => ∃ x n, ts = [.d x] ∧ okA n x ∧ P (.d (.bool (areIntsD x)))
def sp_is_row : Spec := fun ts _ P => ∃ x n k, ts = [.d x, .d (.int k)] ∧ okA n x ∧ P (.d (.bool (isRowD x k)))
def sp_is_sheet : Spec := fun ts _ P => ∃ t, ts = [t] ∧ OkT t ∧ P (.d (.bool (isShT t)))
def sp_need_sheet : Spec := fun ts EX P => ∃ t, ts = [t] ∧ OkT t ∧ (isShT t = false → EX ⟨"InvalidSheet", []⟩) ∧ (isShT t = true → P (.d .none))
def sp_need_day : Spec := fun ts EX P => ∃ d n : Int, ts = [.d (.int d), .d (.int n)] ∧ (¬ (0 ≤ d ∧ d < n) → EX ⟨"InvalidDay", []⟩) ∧ (0 ≤ d → d < n → P (.d .none))
theorem x_bT {A : Prop} {b : Bool} {B C : Prop} (h1 : b = true → B) (h2 : b = false → C) : if b = true then B else C := by
  cases b with
  | true => rw [if_pos rfl]; exact h1 rfl
  | false => rw [if_neg Bool.false_ne_true]; exact h2 rfl
/-- isinstance(x, list) -/
theorem isList {x : PyData} {n : Nat} {R : T → Prop} (h : okA n x) (h1 : (∃ xs, x = .list xs) → R (.d (.bool true))) (h2 : (∀ xs, x ≠ .list xs) → R (.d (.bool false))) : oIsi "list" [.d x] R := by
  cases n with
  | zero => exact h.elim
  | succ n =>
    cases x with
    | dict _ => exact h.elim
    | list xs => exact x_isi (r := true) rfl (by decide +kernel) (h1 ⟨xs, rfl⟩)
    | none => exact x_isi (r := false) rfl (by decide +kernel) (h2 fun _ z => by cases z)
    | bool _ => exact x_isi (r := false) rfl (by decide +kernel) (h2 fun _ z => by cases z)
    | int _ => exact x_isi (r := false) rfl (by decide +kernel) (h2 fun _ z => by cases z)
    | str _ => exact x_isi (r := false) rfl (by decide +kernel) (h2 fun _ z => by cases z)
    | tuple _ => exact x_isi (r := false) rfl (by decide +kernel) (h2 fun _ z => by cases z)
theorem okA_list {n : Nat} {xs : List PyData} (h : okA n (.list xs)) : xs.length ≤ 1000000 ∧ ∃ m, ∀ y ∈ xs, okA m y := by
  cases n with
  | zero => exact h.elim
  | succ n => exact ⟨h.1, n, h.2⟩
theorem x_allB {R : T → Prop} {xs : List PyData} {f : PyData → Bool} (h : R (.d (.bool (xs.all f)))) : oBools (fun bs => bs.all id) [.nd .lst ((xs.map T.d).map fun c => match c with | .d x => T.d (.bool (f x)) | c => c)] R := by
  have e : (xs.map T.d).map (fun c => match c with | .d x => T.d (.bool (f x)) | c => c) = tB0 (xs.map f) := by
    unfold tB0
    rw [List.map_map, List.map_map]
    exact List.map_congr_left fun x _ => rfl
  rw [e]
  refine x_bools ?_
  rw [List.all_map]
  exact h
/-- is_integer(thing): slots thing -/
def m_is_integer : MS := (mSeq (mRet (mAnd (mOp (oIsi "int") [.b 0]) (mNot (mOp (oIsi "bool") [.b 0]))))
  mNext)

/-- are_integers(thing): slots thing, number -/
def m_are_integers : MS := (mSeq (mRet (mAnd (mOp (oIsi "list") [.b 0]) (mOp (oBools fun bs => bs.all id) [.e (mLc (miS (mVar 0)) (.n 1) tYesM (mCall sp_is_integer [.b 1]) [1])])))
  mNext)

/-- is_row(thing, length): slots thing, length, number -/
def m_is_row : MS := (mSeq (mRet (mAnd (mCall sp_are_integers [.b 0]) (mAnd (mOp oEq [.e (mOp oLenA [.b 0]), .b 1]) (mOp (oBools fun bs => bs.all id) [.e (mLc (miS (mVar 0)) (.n 2) tYesM (mOp oGe [.b 2, .e (mC (.int 0))]) [2])]))))
  mNext)

/-- is_sheet(thing): slots thing, width, day, row -/
def m_is_sheet : MS := (mSeq (mIfS (tOrM (tNotM (tVal (mOp (oIsi "list") [.b 0]))) (tOrM (tNotM (tVal (mChain oLe oLe (.e (mC (.int 1))) (.e (mOp oLenA [.b 0])) (.e (mC (.int 30)))))) (tNotM (tVal (mOp (oIsi "list") [.e (mOp oIxG [.b 0, .e (mOp oNeg [.e (mC (.int 1))])])])))))
    (mSeq (mRet (mC (.bool false)))
  mNext)
    mNext)
  (mSeq (mSet 1 (mOp oLenA [.e (mOp oIxG [.b 0, .e (mOp oNeg [.e (mC (.int 1))])])]))
  (mSeq (mRet (mAnd (mOp oGe [.b 1, .e (mC (.int 1))]) (mOp (oBools fun bs => bs.all id) [.e (mLc (miE (mVar 0)) (.t [(.n 2), (.n 3)]) tYesM (mCall sp_is_row [.b 3, .e (mOp oMin [.e (mOp oAddA [.b 2, .e (mC (.int 1))]), .b 1])]) [2, 3])])))
  mNext)))

/-- need_sheet(sheet): slots sheet -/
def m_need_sheet : MS := (mSeq (mIfS (tNotM (tVal (mCall sp_is_sheet [.b 0])))
    (mSeq (mRaise "InvalidSheet")
  mNext)
    mNext)
  mNext)

/-- need_day(day, count): slots day, count -/
def m_need_day : MS := (mSeq (mIfS (tNotM (tVal (mChain oLe oLt (.e (mC (.int 0))) (.b 0) (.b 1))))
    (mSeq (mRaise "InvalidDay")
  mNext)
    mNext)
  mNext)

theorem re_is_integer : Ref sp_is_integer 1 1 m_is_integer := by
  intro ts EX Q _ _ ⟨x, n, e, hx, hQ⟩
  subst e
  unfold m_is_integer
  cases n with
  | zero => exact hx.elim
  | succ n =>
    cases x with
    | dict _ => exact hx.elim
    | int i =>
      walk_at "x"
      refine x_isi (r := true) rfl (by decide +kernel) ?_
      refine ⟨_, rfl, x_iteT ?_⟩
      walk_at "x"
      refine x_isi (r := false) rfl (by decide +kernel) ?_
      exact ⟨_, rfl, hQ⟩
    | bool b =>
      walk_at "x"
      refine x_isi (r := true) rfl (by decide +kernel) ?_
      refine ⟨_, rfl, x_iteT ?_⟩
      walk_at "x"
      refine x_isi (r := true) rfl (by decide +kernel) ?_
      exact ⟨_, rfl, hQ⟩
    | none =>
      walk_at "x"
      refine x_isi (r := false) rfl (by decide +kernel) ?_
      exact ⟨_, rfl, x_iteF hQ⟩
    | str s =>
      walk_at "x"
      refine x_isi (r := false) rfl (by decide +kernel) ?_
      exact ⟨_, rfl, x_iteF hQ⟩
    | list xs =>
      walk_at "x"
      refine x_isi (r := false) rfl (by decide +kernel) ?_
      exact ⟨_, rfl, x_iteF hQ⟩
    | tuple xs =>
      walk_at "x"
      refine x_isi (r := false) rfl (by decide +kernel) ?_
      exact ⟨_, rfl, x_iteF hQ⟩
theorem re_are_integers : Ref sp_are_integers 1 2 m_are_integers := by
  intro ts EX Q _ _ ⟨x, n, e, hx, hQ⟩
  subst e
  unfold m_are_integers
  walk_at "x"
  refine isList hx (fun ⟨xs, e⟩ => ?_) fun hn => ?_
  · subst e
    obtain ⟨hl, m, hm⟩ := okA_list hx
    refine ⟨_, rfl, x_iteT ?_⟩
    walk_at "x"
    refine x_lc (x_miS ?_)
    walk_at "x"
    refine ⟨_, rfl, ?_⟩
    refine lcM_map (fun c => match c with | .d x => T.d (.bool (isIntD x)) | c => c) (fun c hc Q hQ => ?_) (by rw [List.length_map]; omega) ?_
    · obtain ⟨y, hy, rfl⟩ := List.mem_map.mp hc
      refine x_tn ?_
      walk_at "x"
      exact ⟨_, rfl, y, m, rfl, hm y hy, rfl, hQ _ rfl⟩
    · walk_at "x"
      exact x_allB hQ
  · refine ⟨_, rfl, x_iteF ?_⟩
    have e : areIntsD x = false := by
      cases x with
      | list xs => exact absurd rfl (hn xs)
      | _ => rfl
    rw [e] at hQ
    exact hQ
theorem re_is_row : Ref sp_is_row 2 3 m_is_row := by
  intro ts EX Q _ _ ⟨x, n, k, e, hx, hQ⟩
  subst e
  unfold m_is_row
  walk_at "x"
  refine ⟨_, rfl, x, n, rfl, hx, rfl, _, rfl, ?_⟩
  refine x_bT (A := True) (fun h => ?_) fun h => ?_
  · obtain ⟨xs, rfl⟩ : ∃ xs, x = .list xs := by
      cases x with
      | list xs => exact ⟨xs, rfl⟩
      | _ => cases h
    have hi : xs.all isIntD = true := h
    obtain ⟨hl, m, hm⟩ := okA_list hx
    walk_at "x"
    refine x_len ?_ (n := xs.length) rfl
    walk_at "x"
    refine x_ite (fun z => ?_) fun z => ?_
    · walk_at "x"
      refine x_lc (x_miS ?_)
      walk_at "x"
      refine ⟨_, rfl, ?_⟩
      refine lcM_map (fun c => match c with | .d x => T.d (.bool (geD x)) | c => c) (fun c hc Q hQ => ?_) (by rw [List.length_map]; omega) ?_
      · obtain ⟨y, hy, rfl⟩ := List.mem_map.mp hc
        have hy2 := List.all_eq_true.mp hi y hy
        cases y with
        | int i =>
          refine x_tn ?_
          walk_at "x"
          exact hQ _ rfl
        | _ => cases hy2
      · walk_at "x"
        refine x_allB ?_
        have e : isRowD (.list xs) k = xs.all geD := by
          show (xs.all isIntD && (decide ((xs.length : Int) = k) && xs.all geD)) = _
          rw [hi, decide_eq_true z, Bool.true_and, Bool.true_and]
        rw [e] at hQ
        exact hQ
    · have e : isRowD (.list xs) k = false := by
        show (xs.all isIntD && (decide ((xs.length : Int) = k) && xs.all geD)) = _
        rw [decide_eq_false z, Bool.false_and, Bool.and_false]
      rw [e] at hQ
      exact hQ
  · have e : isRowD x k = false := by
      cases x with
      | list xs =>
        have hi : xs.all isIntD = false := h
        show (xs.all isIntD && (decide ((xs.length : Int) = k) && xs.all geD)) = _
        rw [hi, Bool.false_and]
      | _ => rfl
    rw [e] at hQ
    exact hQ
theorem re_is_sheet : Ref sp_is_sheet 1 4 m_is_sheet := by
  intro ts EX Q _ _ ⟨t, e, ht, hQ⟩
  subst e
  rcases ht with ⟨x, n, rfl, hx⟩ | ⟨a, rfl⟩
  · have hQ' : Q (.d (.bool (isShD x))) := hQ
    unfold m_is_sheet
    walk_at "x"
    refine isList hx (fun ⟨rows, e⟩ => ?_) fun hn => ?_
    · subst e
      obtain ⟨hl, m, hm⟩ := okA_list hx
      refine ⟨_, rfl, ?_⟩
      walk_at "x"
      refine x_iteF ?_
      walk_at "x"
      refine x_len ?_ (n := rows.length) rfl
      walk_at "x"
      refine x_ite (fun z1 => ?_) fun z1 => ?_
      · walk_at "x"
        refine ⟨_, rfl, rfl, ?_⟩
        walk_at "x"
        refine x_bT (A := True) (fun h => ?_) fun h => ?_
        · rw [Bool.not_eq_true', decide_eq_false_iff_not] at h
          walk_at "x"
          have e : isShD (.list rows) = false := by
            show (decide (1 ≤ rows.length) && (decide (rows.length ≤ 30) && _)) = false
            rw [decide_eq_false (show ¬ rows.length ≤ 30 by omega), Bool.false_and, Bool.and_false]
          rw [e] at hQ'
          exact hQ'
        · rw [Bool.not_eq_false', decide_eq_true_eq] at h
          have h1 : 1 ≤ rows.length := by omega
          have h30 : rows.length ≤ 30 := by omega
          obtain ⟨y, hy⟩ : ∃ y, rows[rows.length - 1]? = some y := ⟨_, List.getElem?_eq_getElem (by omega)⟩
          have hym := hm y (List.mem_of_getElem? hy)
          have eS : isShD (.list rows) = (match rows[rows.length - 1]? with
              | some (.list l) => decide (1 ≤ l.length) && (List.range rows.length).all fun i => isRowD (rows.getD i .none) (min ((i : Int) + 1) l.length)
              | _ => false) := by
            show (decide (1 ≤ rows.length) && (decide (rows.length ≤ 30) && _)) = _
            rw [decide_eq_true h1, decide_eq_true h30, Bool.true_and, Bool.true_and]
          rw [eS, hy] at hQ'
          walk_at "x"
          refine x_ix _ (show (T.d (.list rows)).kids = some (rows.map T.d) from rfl) (u := .d y) (atI_last (by rw [List.length_map, List.getElem?_map, hy]; rfl)) ?_
          walk_at "x"
          refine isList hym (fun ⟨l, e⟩ => ?_) fun hn => ?_
          · subst e
            refine ⟨_, rfl, x_iteF ?_⟩
            walk_at "x"
            refine x_ix _ (show (T.d (.list rows)).kids = some (rows.map T.d) from rfl) (u := .d (.list l)) (atI_last (by rw [List.length_map, List.getElem?_map, hy]; rfl)) ?_
            walk_at "x"
            refine x_len ?_ (n := l.length) rfl
            walk_at "x"
            refine x_ite (fun z2 => ?_) fun z2 => ?_
            · walk_at "x"
              refine x_lc (x_en ?_)
              walk_at "x"
              refine ⟨_, rows, rfl, rfl, rfl, ?_⟩
              refine lcM_map (fun c => match c with | .d (.tuple [.int i, x]) => T.d (.bool (isRowD x (min (i + 1) l.length))) | c => c) (fun c hc Q hQ => ?_) (by rw [enT_length]; omega) ?_
              · obtain ⟨i, hi⟩ := List.mem_iff_getElem?.mp hc
                obtain ⟨x, ex, rfl⟩ := enT_get _ _ _ _ hi
                refine x_tt2 (x_tn (x_tn ?_))
                walk_at "x"
                exact ⟨_, rfl, x, m, _, rfl, hm x (List.mem_of_getElem? ex), rfl, hQ _ rfl⟩
              · have e : (enT 0 rows).map (fun c => match c with | .d (.tuple [.int i, x]) => T.d (.bool (isRowD x (min (i + 1) l.length))) | c => c) = tB0 ((List.range rows.length).map fun i => isRowD (rows.getD i .none) (min ((i : Int) + 1) l.length)) := by
                  unfold tB0
                  refine List.ext_getElem? fun i => ?_
                  rw [List.getElem?_map, List.getElem?_map, List.getElem?_map]
                  by_cases hi : i < rows.length
                  · rw [List.getElem?_range hi]
                    cases eq : (enT 0 rows)[i]? with
                    | none =>
                      have := List.getElem?_eq_none_iff.mp eq
                      rw [enT_length] at this
                      omega
                    | some c =>
                      obtain ⟨x, ex, rfl⟩ := enT_get _ _ _ _ eq
                      show some (T.d (.bool (isRowD x (min (((0 + i : Nat) : Int) + 1) l.length)))) = some (T.d (.bool (isRowD (rows.getD i .none) (min ((i : Int) + 1) l.length))))
                      rw [List.getD_eq_getElem?_getD, ex, Nat.zero_add]
                      rfl
                  · rw [List.getElem?_eq_none (by rw [enT_length]; omega), List.getElem?_eq_none (by rw [List.length_range]; omega)]
                    rfl
                rw [e]
                walk_at "x"
                refine x_bools ?_
                rw [List.all_map]
                have e2 : (decide (1 ≤ l.length) && (List.range rows.length).all fun i => isRowD (rows.getD i .none) (min ((i : Int) + 1) l.length)) = (List.range rows.length).all fun i => isRowD (rows.getD i .none) (min ((i : Int) + 1) l.length) := by
                  rw [decide_eq_true (show 1 ≤ l.length by omega), Bool.true_and]
                exact e2 ▸ hQ'
            · have e2 : (decide (1 ≤ l.length) && (List.range rows.length).all fun i => isRowD (rows.getD i .none) (min ((i : Int) + 1) l.length)) = false := by
                rw [decide_eq_false (show ¬ 1 ≤ l.length by omega), Bool.false_and]
              exact e2 ▸ hQ'
          · refine ⟨_, rfl, x_iteT ?_⟩
            walk_at "x"
            cases y with
            | list l => exact absurd rfl (hn l)
            | _ => exact hQ'
      · have e : isShD (.list rows) = false := by
          show (decide (1 ≤ rows.length) && _) = false
          rw [decide_eq_false (show ¬ 1 ≤ rows.length by omega), Bool.false_and]
        rw [e] at hQ'
        refine ⟨false, rfl, ?_⟩
        refine x_iteT ?_
        walk_at "x"
        exact hQ'
    · refine ⟨_, rfl, x_iteT ?_⟩
      walk_at "x"
      have e : isShD x = false := by
        cases x with
        | list xs => exact absurd rfl (hn xs)
        | _ => rfl
      rw [e] at hQ'
      exact hQ'
  · unfold m_is_sheet anyT
    walk_at "x"
    refine ⟨_, false, rfl, rfl, ?_⟩
    refine ⟨_, rfl, x_iteT ?_⟩
    walk_at "x"
    exact hQ
theorem re_need_sheet : Ref sp_need_sheet 1 1 m_need_sheet := by
  intro ts EX Q _ hleaf ⟨t, e, ht, h1, h2⟩
  subst e
  have htl : t.leafy = true := hleaf t List.mem_cons_self
  unfold m_need_sheet
  refine x_seq (x_ifS (x_tnot (x_val (x_call ?_ rfl))))
  refine x_Ab rfl htl ?_
  refine x_A0 ?_
  have efz : fzs [t] = some [t] := by
    rcases ht with ⟨x, n, rfl, _⟩ | ⟨a, rfl⟩ <;> rfl
  refine ⟨_, efz, t, rfl, ht, cl_bool, ?_⟩
  walk_at "x"
  cases q : isShT t with
  | true =>
    refine x_iteF ?_
    exact h2 q
  | false =>
    refine x_iteT ?_
    exact h1 q
theorem re_need_day : Ref sp_need_day 2 2 m_need_day := by
  intro ts EX Q _ _ ⟨d, n, e, h1, h2⟩
  subst e
  unfold m_need_day
  walk_at "x"
  refine x_ite (fun z1 => ?_) fun z1 => ?_
  · walk_at "x"
    refine ⟨_, rfl, rfl, ?_⟩
    walk_at "x"
    refine x_bT (A := True) (fun h => ?_) fun h => ?_
    · rw [Bool.not_eq_true', decide_eq_false_iff_not] at h
      exact h1 fun z => h z.2
    · rw [Bool.not_eq_false', decide_eq_true_eq] at h
      exact h2 z1 h
  · refine ⟨false, rfl, x_iteT ?_⟩
    exact h1 fun z => z1 z.1
end FA.X
set_option Elab.async false
set_option linter.all false
set_option maxRecDepth 100000
set_option maxHeartbeats 1000000
namespace FA.X
open PySem PySem.Spec PyProof.Rows L2
local macro_rules | `(tactic| walk_at "x") => `(tactic| repeat (first
  | with_reducible refine x_seq ?_ | with_reducible refine x_set ?_ | with_reducible refine x_ret ?_ | with_reducible refine x_Ae ?_ | with_reducible refine x_A0 ?_ | with_reducible refine x_C ?_ | with_reducible refine x_I ?_ | with_reducible refine x_add ?_
  | with_reducible refine x_int ?_ | with_reducible refine x_abs ?_ | with_reducible refine x_bits ?_ | with_reducible refine x_bits' ?_ | with_reducible refine x_setc ?_ | with_reducible refine x_eqI ?_ | with_reducible refine x_fz ?_
  | ((with_reducible refine x_op ?_ ?hn); (case hn => rfl)) | ((with_reducible refine x_call ?_ ?hn); (case hn => rfl))
  | ((with_reducible show mA (Opd.b _ :: _) _ _ _); refine x_Ab rfl rfl ?_) | ((with_reducible show mVar _ _ _ _); refine x_var rfl rfl ?_)
  | ((with_reducible show mRd _ (bIx (bVar _) (mC _)) _ _ _); refine x_rdc rfl rfl rfl rfl rfl ?_)
  | with_reducible refine x_if ?_ | with_reducible refine x_ifS ?_ | with_reducible refine x_val ?_ | with_reducible refine x_bool ?_
  | with_reducible refine x_neg ?_ | with_reducible refine x_min ?_ | with_reducible refine x_max ?_ | with_reducible refine x_next ?_ | with_reducible refine x_kill ?_ | with_reducible refine x_retN ?_ | with_reducible refine x_tand ?_ | with_reducible refine x_tor ?_
  | with_reducible refine x_chain ?_ | with_reducible refine x_two ?_ | with_reducible refine x_tnot ?_ | with_reducible refine x_and ?_ | with_reducible refine x_or ?_ | with_reducible refine x_not ?_ | with_reducible refine x_drop ?_))


/-! ### gaps, one after the other -/
def gapsR (s : Sh) (i : Int) (n : Nat) : List (Int × Int × Int) := (List.range n).map fun j : Nat => (i, i + 1 + (j : Int), Gap s i (i + 1 + (j : Int)))
def gapsN (s : Sh) (w k : Nat) : List (Int × Int × Int) := (List.range k).flatMap fun i : Nat => gapsR s i (lastL s w i - i).toNat
def gapC (s : Sh) (w : Nat) : List PyData := ((gapsN s w s.length).filter fun x => decide (x.2.2 < 0)).map fun x => .tuple [.str "gap", .int x.1, .int x.2.1]
def dayC (s : Sh) (w : Nat) (d : Int) : List PyData := (if Away s w d < 0 then [.tuple [.str "away", .int d, .int (lastL s w d)]] else []) ++ (if Fresh s w d < 0 then [.tuple [.str "fresh", .int (firstL w d), .int d]] else [])
def confN (s : Sh) (w k : Nat) : List PyData := gapC s w ++ (List.range k).flatMap fun d : Nat => dayC s w d
def rev3D : PyData → PyData
  | .tuple [a, b, c] => .tuple [c, b, a]
  | x => x
def conflD (s : Sh) (w : Nat) : PyData := match (confN s w s.length).map rev3D with
  | [] => .none
  | c :: cs => rev3D (PySem.W.minD c cs)
/-- what a conflict looks like -/
def IsC (x : PyData) : Prop := ∃ (z : Str) (i j : Int), x = .tuple [.str z, .int i, .int j] ∧ SeqAt.shaped (.str z) = true
def sp_gaps_in : Spec := fun ts _ P => ∃ s w, ts = [.d (shD s)] ∧ SheetOk s w ∧ P (.d (.list ((gapsN s w s.length).map tup3)))
def sp_conflicts_in : Spec := fun ts _ P => ∃ s w, ts = [.d (shD s)] ∧ SheetOk s w ∧ P (.d (.list (confN s w s.length)))
def sp_conflict_in : Spec := fun ts _ P => ∃ s w, ts = [.d (shD s)] ∧ SheetOk s w ∧ P (.d (conflD s w))
def impX (z : Str) (i j : Int) : Exc := ⟨"Impossible", [("second", .int j), ("first", .int i), ("word", .str z)]⟩
def sp_need_possible : Spec := fun ts EX P => ∃ s w, ts = [.d (shD s)] ∧ SheetOk s w ∧ (conflD s w = .none → P (.d .none)) ∧ ∀ z i j, conflD s w = .tuple [.str z, .int i, .int j] → EX (impX z i j)
def sp_conflict_of : Spec := fun ts _ P => ∃ s w, ts = [.d (shD s)] ∧ SheetOk s w ∧ P (.d (conflD s w))
theorem gapC_is {s : Sh} {w : Nat} : ∀ x ∈ gapC s w, IsC x := fun x hx => by
  obtain ⟨y, _, rfl⟩ := List.mem_map.mp hx
  exact ⟨_, _, _, rfl, by decide +kernel⟩
theorem dayC_is {s : Sh} {w : Nat} {d : Int} : ∀ x ∈ dayC s w d, IsC x := fun x hx => by
  unfold dayC at hx
  rcases List.mem_append.mp hx with h | h
  · split at h
    · rw [List.mem_singleton.mp h]; exact ⟨_, _, _, rfl, by decide +kernel⟩
    · cases h
  · split at h
    · rw [List.mem_singleton.mp h]; exact ⟨_, _, _, rfl, by decide +kernel⟩
    · cases h
theorem confN_is {s : Sh} {w k : Nat} : ∀ x ∈ confN s w k, IsC x := fun x hx => by
  rcases List.mem_append.mp hx with h | h
  · exact gapC_is x h
  · obtain ⟨d, _, h⟩ := List.mem_flatMap.mp h
    exact dayC_is x h
theorem minD_in (x : PyData) : ∀ xs : List PyData, PySem.W.minD x xs ∈ x :: xs := by
  intro xs
  unfold PySem.W.minD
  induction xs generalizing x with
  | nil => exact List.mem_singleton_self _
  | cons y ys ih =>
    rw [List.foldl_cons]
    have := ih (if PySem.W.dataLt y x then y else x)
    rcases List.mem_cons.mp this with h | h
    · rw [h]
      split
      · exact List.mem_cons_of_mem _ List.mem_cons_self
      · exact List.mem_cons_self
    · exact List.mem_cons_of_mem _ (List.mem_cons_of_mem _ h)
theorem conflD_is {s : Sh} {w : Nat} : conflD s w = .none ∨ IsC (conflD s w) := by
  unfold conflD
  split
  · exact .inl rfl
  · rename_i c cs e
    have hm : PySem.W.minD c cs ∈ (confN s w s.length).map rev3D := by rw [e]; exact minD_in c cs
    obtain ⟨y, hy, ey⟩ := List.mem_map.mp hm
    obtain ⟨z, i, j, rfl, hz⟩ := confN_is y hy
    rw [← ey]
    exact .inr ⟨z, i, j, rfl, hz⟩
theorem gapsR_len {s : Sh} {i : Int} {n : Nat} : (gapsR s i n).length = n := by
  unfold gapsR
  rw [List.length_map, List.length_range]
theorem gapsN_succ {s : Sh} {w k : Nat} : gapsN s w (k + 1) = gapsN s w k ++ gapsR s k (lastL s w k - k).toNat := by
  unfold gapsN
  rw [List.range_succ, List.flatMap_append]
  simp
theorem gapsN_len {s : Sh} {w : Nat} (h : s.length ≤ 30) : ∀ k : Nat, (gapsN s w k).length ≤ k * 30
  | 0 => Nat.zero_le _
  | k + 1 => by
    rw [gapsN_succ, List.length_append, gapsR_len]
    have := gapsN_len (w := w) h k
    unfold lastL
    omega
theorem confN_succ {s : Sh} {w k : Nat} : confN s w (k + 1) = confN s w k ++ dayC s w k := by
  unfold confN
  rw [List.range_succ, List.flatMap_append, List.append_assoc]
  simp
theorem dayC_len {s : Sh} {w : Nat} {d : Int} : (dayC s w d).length ≤ 2 := by
  unfold dayC
  rw [List.length_append]
  split <;> split <;> simp
theorem confN_len {s : Sh} {w : Nat} (h : s.length ≤ 30) : ∀ k : Nat, (confN s w k).length ≤ 900 + k * 2
  | 0 => by
    show (gapC s w ++ []).length ≤ _
    rw [List.append_nil]
    unfold gapC
    rw [List.length_map]
    have h1 := List.length_filter_le (fun x : Int × Int × Int => decide (x.2.2 < 0)) (gapsN s w s.length)
    have h2 := gapsN_len (w := w) h s.length
    omega
  | k + 1 => by
    rw [confN_succ, List.length_append]
    have h1 := confN_len (w := w) h k
    have h2 := dayC_len (s := s) (w := w) (d := k)
    omega
/-- gaps_in(sheet): slots sheet, found, first, second -/
def m_gaps_in : MS := (mSeq (mSet 1 (mLst []))
  (mSeq (mFor (miR1 (.e (mOp oLenA [.b 0]))) (.n 2)
    (mSeq (mFor (miR2 (.e (mOp oAddA [.b 2, .e (mC (.int 1))])) (.e (mOp oAddA [.e (mCall sp_last_looked [.b 0, .b 2]), .e (mC (.int 1))]))) (.n 3)
    (mSeq (mApp 1 (mTup [.e (mVar 2), .e (mVar 3), .e (mCall sp_gap_in [.b 0, .b 2, .b 3])]))
  (mKill [3] mNext)))
  (mKill [2, 3] mNext)))
  (mKill [2, 3] (mSeq (mRet (mFz (mMov 1)))
  mNext))))

/-- conflicts_in(sheet): slots sheet, found, day, first, second, number -/
def m_conflicts_in : MS := (mSeq (mSet 1 (mLc (miS (mCall sp_gaps_in [.b 0])) (.t [(.n 3), (.n 4), (.n 5)]) (tVal (mOp oLt [.b 5, .e (mC (.int 0))])) (mTup [.e (mC (.str "gap")), .e (mVar 3), .e (mVar 4)]) [3, 4, 5]))
  (mSeq (mFor (miR1 (.e (mOp oLenA [.b 0]))) (.n 2)
    (mSeq (mIfS (tVal (mOp oLt [.e (mCall sp_away_in [.b 0, .b 2]), .e (mC (.int 0))]))
    (mSeq (mApp 1 (mTup [.e (mC (.str "away")), .e (mVar 2), .e (mCall sp_last_looked [.b 0, .b 2])]))
  mNext)
    mNext)
  (mSeq (mIfS (tVal (mOp oLt [.e (mCall sp_fresh_in [.b 0, .b 2]), .e (mC (.int 0))]))
    (mSeq (mApp 1 (mTup [.e (mC (.str "fresh")), .e (mCall sp_first_looked [.b 0, .b 2]), .e (mVar 2)]))
  mNext)
    mNext)
  (mKill [2] mNext))))
  (mKill [2] (mSeq (mRet (mFz (mMov 1)))
  mNext))))

/-- conflict_in(sheet): slots sheet, found, conflict -/
def m_conflict_in : MS := (mSeq (mSet 1 (mFz (mLc (miS (mCall sp_conflicts_in [.b 0])) (.n 2) tYesM (mRev3 (mVar 2)) [2])))
  (mSeq (mRet (mFz (mIf (tVal (mOp oNe [.b 1, .e (mLst [])])) (mRev3 (mOp oMinD [.b 1])) (mC .none))))
  mNext))

/-- need_possible(sheet): slots sheet, conflict -/
def m_need_possible : MS := (mSeq (mSet 1 (mFz (mCall sp_conflict_in [.b 0])))
  (mSeq (mIfS (tVal (mOp (oIsN true) [.b 1, .e (mC .none)]))
    (mSeq (mRaiseI "Impossible" ["word", "first", "second"] [.e (mOp oIxG [.b 1, .e (mC (.int 0))]), .e (mOp oIxG [.b 1, .e (mC (.int 1))]), .e (mOp oIxG [.b 1, .e (mC (.int 2))])])
  mNext)
    mNext)
  mNext))

/-- conflict_of(sheet): slots sheet -/
def m_conflict_of : MS := (mSeq (mDrop (mCall sp_need_sheet [.b 0]))
  (mSeq (mRet (mFz (mCall sp_conflict_in [.b 0])))
  mNext))

theorem re_gaps_in : Ref sp_gaps_in 1 4 m_gaps_in := by
  intro ts EX Q _ _ ⟨s, w, e, h, hQ⟩
  subst e
  have h30 := h.l30
  unfold m_gaps_in
  walk_at "x"
  refine x_lst ?_
  walk_at "x"
  refine ⟨x_small (by decide), ?_⟩
  refine x_for (x_r1 ?_)
  walk_at "x"
  refine x_len ?_ size_shD
  refine x_r1' (by omega) (by omega) ?_
  refine forM_ix (fun k ρ => ρ = [some (.d (shD s)), some (.nd .lst ((gapsN s w k).map fun x => T.d (tup3 x))), none, none]) (k0 := 0) (fun k c hk ρ hI N hN => ?_) rfl fun ρ hI => ?_
  · obtain ⟨hk, rfl⟩ := rng_get hk
    rw [Nat.zero_add] at hI
    rw [Nat.zero_add] at hN
    subst hI
    rw [Int.zero_add]
    refine x_tn ?_
    walk_at "x"
    refine x_for (x_r2 ?_)
    walk_at "x"
    refine ⟨_, rfl, s, w, _, rfl, h, rfl, ?_⟩
    walk_at "x"
    refine x_r2' (by unfold lastL; omega) ?_
    refine forM_ix (fun j ρ => ρ = [some (.d (shD s)), some (.nd .lst ((gapsN s w k ++ gapsR s k j).map fun x => T.d (tup3 x))), some (.d (.int k)), none]) (k0 := 0) (fun j c hj ρ hI N2 hN2 => ?_) ?_ fun ρ hI => ?_
    · obtain ⟨hj, rfl⟩ := rng_get hj
      rw [Nat.zero_add] at hI
      rw [Nat.zero_add] at hN2
      subst hI
      have el : lastL s w (k : Int) = min ((k : Int) + w) s.length - 1 := rfl
      rw [el] at hj
      refine x_tn ?_
      walk_at "x"
      refine x_app ?_
      refine x_tup ?_
      walk_at "x"
      refine ⟨_, rfl, s, w, _, _, rfl, h, by omega, by omega, by omega, by omega, rfl, ?_⟩
      walk_at "x"
      refine x_tup3' ?_
      refine ⟨_, rfl, x_lt ?_, ?_⟩
      · have := gapsN_len (w := w) h30 k
        rw [List.length_map, List.length_append, gapsR_len]
        omega
      · refine hN2 _ ?_
        have e1 : gapsR s k (j + 1) = gapsR s k j ++ [((k : Int), (k : Int) + 1 + (j : Int), Gap s k ((k : Int) + 1 + (j : Int)))] := by
          unfold gapsR
          rw [List.range_succ, List.map_append]
          rfl
        rw [e1, ← List.append_assoc, List.map_append (l₁ := gapsN s w k ++ gapsR s k j)]
        rfl
    · show _ = _
      rw [show gapsR s k 0 = [] from rfl, List.append_nil]
      rfl
    · rw [rng_len, Nat.zero_add] at hI
      subst hI
      refine hN _ ?_
      rw [gapsN_succ, show (lastL s w (k : Int) + 1 - ((k : Int) + 1)).toNat = (lastL s w (k : Int) - k).toNat by omega]
      rfl
  · rw [rng_len, Nat.zero_add, Int.toNat_natCast] at hI
    subst hI
    walk_at "x"
    refine x_mov rfl ?_
    refine ⟨.d (.list ((gapsN s w s.length).map tup3)), ?_, hQ⟩
    show (T.data (.nd .lst ((gapsN s w s.length).map fun x => T.d (tup3 x)))).map T.d = _
    rw [T.data, if_pos (show Kd.lst.isLst = true from rfl), datas_map]
    rfl
def unG : T → Int × Int × Int
  | .d (.tuple [.int a, .int b, .int c]) => (a, b, c)
  | _ => (0, 0, 0)
theorem re_conflicts_in : Ref sp_conflicts_in 1 6 m_conflicts_in := by
  intro ts EX Q _ _ ⟨s, w, e, h, hQ⟩
  subst e
  have h30 := h.l30
  have hgl := gapsN_len (w := w) h30 s.length
  unfold m_conflicts_in
  walk_at "x"
  refine x_lc (x_miS ?_)
  walk_at "x"
  refine ⟨_, rfl, s, w, rfl, h, rfl, _, rfl, ?_⟩
  refine lcM_fm (fun c => decide ((unG c).2.2 < 0)) (fun c => T.d (.tuple [.str "gap", .int (unG c).1, .int (unG c).2.1])) (fun c hc Q Z hq hz => ?_) (by rw [List.length_map, List.length_map]; show 0 + _ ≤ _; omega) ?_
  · rw [List.map_map] at hc
    obtain ⟨x, hx, rfl⟩ := List.mem_map.mp hc
    refine x_tt3 (x_tn (x_tn (x_tn ?_)))
    walk_at "x"
    refine x_ite (fun z => ?_) fun z => ?_
    · refine x_tup ?_
      walk_at "x"
      refine x_tup3' ?_
      exact hq (decide_eq_true z) _ rfl
    · exact hz (decide_eq_false z) _ rfl
  · have e0 : (((gapsN s w s.length).map tup3).map T.d).filter (fun c => decide ((unG c).2.2 < 0)) = ((gapsN s w s.length).filter fun x => decide (x.2.2 < 0)).map fun x => T.d (tup3 x) := by
      rw [List.map_map, List.filter_map]
      rfl
    rw [List.nil_append, e0, List.map_map]
    have e1 : ((gapsN s w s.length).filter fun x => decide (x.2.2 < 0)).map ((fun c => T.d (.tuple [.str "gap", .int (unG c).1, .int (unG c).2.1])) ∘ fun x => T.d (tup3 x)) = (confN s w 0).map T.d := by
      show _ = (gapC s w ++ []).map T.d
      rw [List.append_nil]
      unfold gapC
      rw [List.map_map]
      exact List.map_congr_left fun x _ => rfl
    rw [e1]
    walk_at "x"
    refine x_for (x_r1 ?_)
    walk_at "x"
    refine x_len ?_ size_shD
    refine x_r1' (by omega) (by omega) ?_
    refine forM_ix (fun k ρ => ρ = [some (.d (shD s)), some (.nd .lst ((confN s w k).map T.d)), none, none, none, none]) (k0 := 0) (fun k c hc ρ hI N hN => ?_) rfl fun ρ hI => ?_
    · obtain ⟨hk, rfl⟩ := rng_get hc
      rw [Nat.zero_add] at hI
      rw [Nat.zero_add] at hN
      subst hI
      rw [Int.zero_add]
      have hcl := confN_len (w := w) h30 k
      have hd : confN s w (k + 1) = confN s w k ++ dayC s w k := confN_succ
      refine x_tn ?_
      walk_at "x"
      refine ⟨_, rfl, s, w, _, rfl, h, by omega, by omega, rfl, ?_⟩
      walk_at "x"
      have rest : ∀ {κ : Kt} {L : List PyData}, κ.nx = N → L.length ≤ 10000 → confN s w (k + 1) = L ++ (if Fresh s w k < 0 then [.tuple [.str "fresh", .int (firstL w k), .int k]] else []) →
          mSeq (mIfS (tVal (mOp oLt [.e (mCall sp_fresh_in [.b 0, .b 2]), .e (mC (.int 0))])) (mSeq (mApp 1 (mTup [.e (mC (.str "fresh")), .e (mCall sp_first_looked [.b 0, .b 2]), .e (mVar 2)])) mNext) mNext) (mKill [2] mNext)
            [some (.d (shD s)), some (.nd .lst (L.map T.d)), some (.d (.int k)), none, none, none] (fun x _ => EX x) κ := by
        intro κ L hκ hL hL2
        walk_at "x"
        refine ⟨_, rfl, s, w, _, rfl, h, by omega, by omega, rfl, ?_⟩
        walk_at "x"
        refine x_ite (fun z => ?_) fun z => ?_
        · rw [if_pos z] at hL2
          walk_at "x"
          refine x_app ?_
          refine x_tup ?_
          walk_at "x"
          refine ⟨_, rfl, s, w, _, rfl, h, rfl, ?_⟩
          walk_at "x"
          refine x_tup3' ?_
          refine ⟨_, rfl, x_lt (by rw [List.length_map]; omega), ?_⟩
          walk_at "x"
          rw [hκ]
          refine hN _ ?_
          rw [hL2, List.map_append]
          rfl
        · rw [if_neg z, List.append_nil] at hL2
          walk_at "x"
          rw [hκ]
          refine hN _ ?_
          rw [hL2]
          rfl
      refine x_ite (fun z => ?_) fun z => ?_
      · walk_at "x"
        refine x_app ?_
        refine x_tup ?_
        walk_at "x"
        refine ⟨_, rfl, s, w, _, rfl, h, rfl, ?_⟩
        walk_at "x"
        refine x_tup3' ?_
        refine ⟨_, rfl, x_lt (by rw [List.length_map]; omega), ?_⟩
        refine x_next (EX := fun x _ => EX x) ?_
        have eL : (confN s w k).map T.d ++ [T.d (.tuple [.str "away", .int k, .int (lastL s w k)])] = (confN s w k ++ [PyData.tuple [.str "away", .int k, .int (lastL s w k)]]).map T.d := by
          rw [List.map_append]
          rfl
        rw [eL]
        refine rest (L := confN s w k ++ [PyData.tuple [.str "away", .int k, .int (lastL s w k)]]) ?hk ?ha ?hb
        case hk => rfl
        case ha => rw [List.length_append, List.length_singleton]; omega
        case hb =>
          rw [hd]
          unfold dayC
          rw [if_pos z, List.append_assoc]
      · refine x_next (EX := fun x _ => EX x) ?_
        refine rest (L := confN s w k) ?hk ?ha ?hb
        case hk => rfl
        case ha => omega
        case hb =>
          rw [hd]
          unfold dayC
          rw [if_neg z, List.nil_append]
    · rw [rng_len, Nat.zero_add, Int.toNat_natCast] at hI
      subst hI
      walk_at "x"
      refine x_mov rfl ?_
      exact ⟨_, fz_list, hQ⟩
theorem x_rev3 {m : ME} {ρ : Env} {EX : EXk} {P : T → Env → Prop} (h : m ρ EX fun t ρ' => ∃ d1 d2 d3, t = .d (.tuple [d1, d2, d3]) ∧ P (.d (.tuple [d3, d2, d1])) ρ') : mRev3 m ρ EX P := h
theorem okA_R {x : PyData} (h : IsC x) : okA 2 (rev3D x) := by
  obtain ⟨z, i, j, rfl, hz⟩ := h
  refine ⟨by show 3 ≤ 1000000; decide, fun y hy => ?_⟩
  rcases List.mem_cons.mp hy with rfl | hy
  · trivial
  · rcases List.mem_cons.mp hy with rfl | hy
    · trivial
    · rw [List.mem_singleton.mp hy]; exact hz
theorem depthC {n : Nat} : ∀ {xs : List PyData}, (∀ x ∈ xs, x.depth ≤ n) → PyData.depthAll xs ≤ n
  | [], _ => Nat.zero_le _
  | x :: xs, h => by
    rw [PyData.depthAll]
    exact Nat.max_le.mpr ⟨h x List.mem_cons_self, depthC fun y hy => h y (List.mem_cons_of_mem _ hy)⟩
theorem re_conflict_in : Ref sp_conflict_in 1 3 m_conflict_in := by
  intro ts EX Q _ _ ⟨s, w, e, h, hQ⟩
  subst e
  have hcl := confN_len (w := w) h.l30 s.length
  have h30 := h.l30
  unfold m_conflict_in
  walk_at "x"
  refine x_lc (x_miS ?_)
  walk_at "x"
  refine ⟨_, rfl, s, w, rfl, h, rfl, _, rfl, ?_⟩
  refine lcM_map (fun c => match c with | .d x => T.d (rev3D x) | c => c) (fun c hc Q hQ => ?_) (by rw [List.length_map]; omega) ?_
  · obtain ⟨x, hx, rfl⟩ := List.mem_map.mp hc
    obtain ⟨z, i, j, rfl, _⟩ := confN_is x hx
    refine x_tn ?_
    refine x_rev3 ?_
    walk_at "x"
    exact ⟨_, _, _, rfl, hQ _ rfl⟩
  · have e1 : ((confN s w s.length).map T.d).map (fun c => match c with | .d x => T.d (rev3D x) | c => c) = ((confN s w s.length).map rev3D).map T.d := by
      rw [List.map_map, List.map_map]
      exact List.map_congr_left fun x _ => rfl
    rw [e1]
    refine ⟨_, fz_list, ?_⟩
    walk_at "x"
    refine x_lst ?_
    walk_at "x"
    refine ⟨x_small (by decide), ?_⟩
    have hok : okA 3 (.list ((confN s w s.length).map rev3D)) := by
      refine ⟨by rw [List.length_map]; omega, fun y hy => ?_⟩
      obtain ⟨x, hx, rfl⟩ := List.mem_map.mp hy
      exact okA_R (confN_is x hx)
    refine ⟨.list ((confN s w s.length).map rev3D), .list [], rfl, okA_shaped hok (by decide), rfl, ?_⟩
    have hall : ∀ y ∈ (confN s w s.length).map rev3D, ∃ (z : Str) (i j : Int), y = .tuple [.int j, .int i, .str z] := fun y hy => by
      obtain ⟨x, hx, rfl⟩ := List.mem_map.mp hy
      obtain ⟨z, i, j, rfl, _⟩ := confN_is x hx
      exact ⟨z, i, j, rfl⟩
    have hconf : conflD s w = (match (confN s w s.length).map rev3D with | [] => .none | c :: cs => rev3D (PySem.W.minD c cs)) := rfl
    revert hall hconf
    cases q : (confN s w s.length).map rev3D with
    | nil =>
      intro hall hconf
      rw [show PyData.eqv (.list []) (.list []) = true by decide +kernel]
      refine ⟨false, rfl, x_iteF ?_⟩
      walk_at "x"
      rw [hconf] at hQ
      exact ⟨_, rfl, hQ⟩
    | cons c cs =>
      intro hall hconf
      rw [show PyData.eqv (.list (c :: cs)) (.list []) = false by simp [PyData.eqv, PyData.eqvAll]]
      refine ⟨true, rfl, x_iteT ?_⟩
      refine x_rev3 ?_
      walk_at "x"
      refine ⟨_, c, cs, rfl, rfl, rfl, nods_of fun x hx => ?_, ⟨fun x hx y hy => ?_, fun x hx => ?_⟩, Nat.lt_of_le_of_lt (depthC (n := 2) fun x hx => ?_) (by decide), ?_⟩
      · obtain ⟨z, i, j, rfl⟩ := hall x hx
        rfl
      · obtain ⟨z, i, j, rfl⟩ := hall x hx
        obtain ⟨z2, i2, j2, rfl⟩ := hall y hy
        simp [PySem.W.alike, PySem.W.alikeAll]
      · obtain ⟨z, i, j, rfl⟩ := hall x hx
        intro z
        cases z
      · obtain ⟨z, i, j, rfl⟩ := hall x hx
        simp [PyData.depth, PyData.depthAll]
      · obtain ⟨z, i, j, ez⟩ := hall _ (minD_in c cs)
        rw [hconf] at hQ
        dsimp only at hQ
        rw [ez] at hQ
        rw [ez]
        exact ⟨_, _, _, rfl, _, rfl, hQ⟩
theorem x_raiseI {x : Str} {fs : List Str} {os : List Opd} {ρ : Env} {EX : EXk} {κ : Kt} (h : mA os ρ EX fun ts ρ' => ∃ ds : List PyData, ts = ds.map T.d ∧ ds.all flatD = true ∧ ds.length = fs.length ∧ EX ⟨x, (fs.zip ds).reverse⟩ (back os ts ρ')) : mRaiseI x fs os ρ EX κ := h
theorem re_need_possible : Ref sp_need_possible 1 2 m_need_possible := by
  intro ts EX Q _ _ ⟨s, w, e, h, h1, h2⟩
  subst e
  unfold m_need_possible
  walk_at "x"
  refine ⟨_, rfl, s, w, rfl, h, rfl, ?_⟩
  rcases conflD_is (s := s) (w := w) with e | ⟨z, i, j, e, _⟩
  · rw [e]
    refine ⟨_, rfl, ?_⟩
    walk_at "x"
    refine x_isN ?_
    refine ⟨false, rfl, x_iteF ?_⟩
    exact h1 e
  · rw [e]
    refine ⟨_, rfl, ?_⟩
    walk_at "x"
    refine x_isN ?_
    refine ⟨true, rfl, x_iteT ?_⟩
    refine x_seq ?_
    refine x_raiseI ?_
    walk_at "x"
    refine x_ix (cs := [T.d (.str z), T.d (.int i), T.d (.int j)]) rfl (u := .d (.str z)) (atI_nat (by decide) rfl) ?_
    walk_at "x"
    refine x_ix (cs := [T.d (.str z), T.d (.int i), T.d (.int j)]) rfl (u := .d (.int i)) (atI_nat (by decide) rfl) ?_
    walk_at "x"
    refine x_ix (cs := [T.d (.str z), T.d (.int i), T.d (.int j)]) rfl (u := .d (.int j)) (atI_nat (by decide) rfl) ?_
    walk_at "x"
    exact ⟨[.str z, .int i, .int j], rfl, rfl, rfl, h2 z i j e⟩
theorem sheet_is {s : Sh} {w : Nat} (h : SheetOk s w) : isShT (.d (shD s)) = true := by
  have h1 := h.l1
  have h30 := h.l30
  have hw := h.w1
  have hlast : (s.map rowD)[(s.map rowD).length - 1]? = some (rowD (s.getD (s.length - 1) [])) := by
    rw [List.length_map, List.getElem?_map, List.getD_eq_getElem?_getD, List.getElem?_eq_getElem (show s.length - 1 < s.length by omega)]
    rfl
  show (decide (1 ≤ (s.map rowD).length) && (decide ((s.map rowD).length ≤ 30) && (match (s.map rowD)[(s.map rowD).length - 1]? with
    | some (.list l) => decide (1 ≤ l.length) && (List.range (s.map rowD).length).all fun i => isRowD ((s.map rowD).getD i .none) (min ((i : Int) + 1) l.length)
    | _ => false))) = true
  rw [hlast, List.length_map, decide_eq_true h1, decide_eq_true h30, Bool.true_and, Bool.true_and]
  show (decide (1 ≤ ((s.getD (s.length - 1) []).map PyData.int).length) && (List.range s.length).all fun i => isRowD ((s.map rowD).getD i .none) (min ((i : Int) + 1) ((s.getD (s.length - 1) []).map PyData.int).length)) = true
  rw [List.length_map, h.last, decide_eq_true hw, Bool.true_and, List.all_eq_true]
  intro i hi
  have hi2 := List.mem_range.mp hi
  have er : (s.map rowD).getD i .none = rowD s[i] := by
    rw [List.getD_eq_getElem?_getD, List.getElem?_map, List.getElem?_eq_getElem hi2]
    rfl
  have hr := h.row i hi2
  rw [List.getD_eq_getElem?_getD, List.getElem?_eq_getElem hi2] at hr
  have hr2 : (s[i]).length = min (i + 1) w := hr
  rw [er]
  show ((s[i].map PyData.int).all isIntD && (decide (((s[i].map PyData.int).length : Int) = min ((i : Int) + 1) w) && (s[i].map PyData.int).all geD)) = true
  rw [List.length_map, decide_eq_true (show ((s[i]).length : Int) = min ((i : Int) + 1) w by omega), Bool.true_and, Bool.and_eq_true, List.all_map, List.all_map, List.all_eq_true, List.all_eq_true]
  refine ⟨fun _ _ => rfl, fun x hx => ?_⟩
  exact decide_eq_true (h.nn _ (List.getElem_mem hi2) x hx)
theorem okT_sh {s : Sh} {w : Nat} (h : SheetOk s w) : OkT (.d (shD s)) := .inl ⟨_, 3, rfl, okA_shD (by have := h.l30; omega) fun r hr => by
  obtain ⟨d, hd, e⟩ := List.mem_iff_getElem.mp hr
  have := h.row d hd
  rw [List.getD_eq_getElem?_getD, List.getElem?_eq_getElem hd] at this
  have e2 : (s[d]).length = min (d + 1) w := this
  have := h.l30
  have := h.wl
  rw [e] at e2
  omega⟩
theorem need_sheet_ok {s : Sh} {w : Nat} {EX : Exc → Prop} {P : T → Prop} (h : SheetOk s w) (hP : P (.d .none)) : sp_need_sheet [.d (shD s)] EX P := ⟨_, rfl, okT_sh h, (fun z => by rw [sheet_is h] at z; cases z), fun _ => hP⟩
theorem re_conflict_of : Ref sp_conflict_of 1 1 m_conflict_of := by
  intro ts EX Q _ _ ⟨s, w, e, h, hQ⟩
  subst e
  unfold m_conflict_of
  walk_at "x"
  refine ⟨_, rfl, need_sheet_ok h ⟨rfl, ?_⟩⟩
  walk_at "x"
  refine ⟨_, rfl, s, w, rfl, h, rfl, ?_⟩
  rcases conflD_is (s := s) (w := w) with e | ⟨z, i, j, e, _⟩
  · rw [e] at hQ ⊢
    exact ⟨_, rfl, hQ⟩
  · rw [e] at hQ ⊢
    exact ⟨_, rfl, hQ⟩

end FA.X
set_option Elab.async false
set_option linter.all false
set_option maxRecDepth 100000
set_option maxHeartbeats 1000000
namespace FA.X
open PySem PySem.Spec PyProof.Rows L2
local macro_rules | `(tactic| walk_at "x") => `(tactic| repeat (first
  | with_reducible refine x_seq ?_ | with_reducible refine x_set ?_ | with_reducible refine x_ret ?_ | with_reducible refine x_Ae ?_ | with_reducible refine x_A0 ?_ | with_reducible refine x_C ?_ | with_reducible refine x_I ?_ | with_reducible refine x_add ?_
  | with_reducible refine x_int ?_ | with_reducible refine x_abs ?_ | with_reducible refine x_bits ?_ | with_reducible refine x_bits' ?_ | with_reducible refine x_setc ?_ | with_reducible refine x_eqI ?_ | with_reducible refine x_fz ?_
  | ((with_reducible refine x_op ?_ ?hn); (case hn => rfl)) | ((with_reducible refine x_call ?_ ?hn); (case hn => rfl))
  | ((with_reducible show mA (Opd.b _ :: _) _ _ _); refine x_Ab rfl rfl ?_) | ((with_reducible show mVar _ _ _ _); refine x_var rfl rfl ?_)
  | ((with_reducible show mRd _ (bIx (bVar _) (mC _)) _ _ _); refine x_rdc rfl rfl rfl rfl rfl ?_)
  | with_reducible refine x_if ?_ | with_reducible refine x_ifS ?_ | with_reducible refine x_val ?_ | with_reducible refine x_bool ?_
  | with_reducible refine x_neg ?_ | with_reducible refine x_min ?_ | with_reducible refine x_max ?_ | with_reducible refine x_next ?_ | with_reducible refine x_kill ?_ | with_reducible refine x_retN ?_ | with_reducible refine x_tand ?_ | with_reducible refine x_tor ?_
  | with_reducible refine x_chain ?_ | with_reducible refine x_two ?_ | with_reducible refine x_tnot ?_ | with_reducible refine x_and ?_ | with_reducible refine x_or ?_ | with_reducible refine x_not ?_ | with_reducible refine x_drop ?_))


/-- a told stretch of a sheet of n days, w wide -/
def Told (n w : Nat) (i j : Int) : Prop := 0 ≤ i ∧ i ≤ j ∧ j < n ∧ j - i < w
instance {n w : Nat} {i j : Int} : Decidable (Told n w i j) := by unfold Told; infer_instance
/-- two stretches that touch, in a told one -/
def Days (n w : Nat) (a b c d : Int) : Prop := (a ≤ c ∧ c ≤ b + 1) ∧ (a ≤ b ∧ b ≤ d) ∧ c ≤ d ∧ Told n w a b ∧ Told n w c d ∧ Told n w a d
instance {n w : Nat} {a b c d : Int} : Decidable (Days n w a b c d) := by unfold Days; infer_instance
def BadT (t : T) : Prop := OkT t ∧ isShT t = false
theorem BadT.leaf {t : T} (h : BadT t) : t.leafy = true ∧ t.fz = some t := by
  rcases h.1 with ⟨x, n, rfl, _⟩ | ⟨a, rfl⟩ <;> exact ⟨rfl, rfl⟩
/-! ### the error's class, or what it bears -/
end FA.X
set_option Elab.async false
set_option linter.all false
set_option maxRecDepth 100000
set_option maxHeartbeats 1000000
namespace FA.X.Y
open PySem PySem.Spec PyProof.Rows L2
local macro_rules | `(tactic| walk_at "x") => `(tactic| repeat (first
  | with_reducible refine x_seq ?_ | with_reducible refine x_set ?_ | with_reducible refine x_ret ?_ | with_reducible refine x_Ae ?_ | with_reducible refine x_A0 ?_ | with_reducible refine x_C ?_ | with_reducible refine x_I ?_ | with_reducible refine x_add ?_
  | with_reducible refine x_int ?_ | with_reducible refine x_abs ?_ | with_reducible refine x_bits ?_ | with_reducible refine x_bits' ?_ | with_reducible refine x_setc ?_ | with_reducible refine x_eqI ?_ | with_reducible refine x_fz ?_
  | ((with_reducible refine x_op ?_ ?hn); (case hn => rfl)) | ((with_reducible refine x_call ?_ ?hn); (case hn => rfl))
  | ((with_reducible show mA (Opd.b _ :: _) _ _ _); refine x_Ab rfl rfl ?_) | ((with_reducible show mVar _ _ _ _); refine x_var rfl rfl ?_)
  | ((with_reducible show mRd _ (bIx (bVar _) (mC _)) _ _ _); refine x_rdc rfl rfl rfl rfl rfl ?_)
  | with_reducible refine x_if ?_ | with_reducible refine x_ifS ?_ | with_reducible refine x_val ?_ | with_reducible refine x_bool ?_
  | with_reducible refine x_neg ?_ | with_reducible refine x_min ?_ | with_reducible refine x_max ?_ | with_reducible refine x_next ?_ | with_reducible refine x_kill ?_ | with_reducible refine x_retN ?_ | with_reducible refine x_tand ?_ | with_reducible refine x_tor ?_
  | with_reducible refine x_chain ?_ | with_reducible refine x_two ?_ | with_reducible refine x_tnot ?_ | with_reducible refine x_and ?_ | with_reducible refine x_or ?_ | with_reducible refine x_not ?_ | with_reducible refine x_drop ?_))


/-! ### numbers by keys -/
abbrev Ky := List L2.Key
abbrev KL := List (Ky × Int)
def gK (i j : Int) : Ky := [.inr "gap", .inl i, .inl j]
def aK (i : Int) : Ky := [.inr "away", .inl i, .inl i]
def fK (i : Int) : Ky := [.inr "fresh", .inl i, .inl i]
def numsR (s : Sh) (w : Nat) (i : Int) (n : Nat) : KL := [(aK i, Away s w i), (fK i, Fresh s w i)] ++ (List.range n).map fun j : Nat => (gK i (i + 1 + (j : Int)), Gap s i (i + 1 + (j : Int)))
def numsN (s : Sh) (w k : Nat) : KL := (List.range k).flatMap fun i : Nat => numsR s w i (min ((i : Int) + w) s.length - (i + 1)).toNat
def numsL (s : Sh) (w : Nat) : KL := numsN s w s.length
/-! ### small facts -/
end FA.X.Y
set_option Elab.async false
set_option linter.all false
set_option maxRecDepth 100000
set_option maxHeartbeats 1000000
namespace FA.X.Y
open PySem PySem.Spec PyProof.Rows L2
local macro_rules | `(tactic| walk_at "x") => `(tactic| repeat (first
  | with_reducible refine x_seq ?_ | with_reducible refine x_set ?_ | with_reducible refine x_ret ?_ | with_reducible refine x_Ae ?_ | with_reducible refine x_A0 ?_ | with_reducible refine x_C ?_ | with_reducible refine x_I ?_ | with_reducible refine x_add ?_
  | with_reducible refine x_int ?_ | with_reducible refine x_abs ?_ | with_reducible refine x_bits ?_ | with_reducible refine x_bits' ?_ | with_reducible refine x_setc ?_ | with_reducible refine x_eqI ?_ | with_reducible refine x_fz ?_
  | ((with_reducible refine x_op ?_ ?hn); (case hn => rfl)) | ((with_reducible refine x_call ?_ ?hn); (case hn => rfl))
  | ((with_reducible show mA (Opd.b _ :: _) _ _ _); refine x_Ab rfl rfl ?_) | ((with_reducible show mVar _ _ _ _); refine x_var rfl rfl ?_)
  | ((with_reducible show mRd _ (bIx (bVar _) (mC _)) _ _ _); refine x_rdc rfl rfl rfl rfl rfl ?_)
  | with_reducible refine x_if ?_ | with_reducible refine x_ifS ?_ | with_reducible refine x_val ?_ | with_reducible refine x_bool ?_
  | with_reducible refine x_neg ?_ | with_reducible refine x_min ?_ | with_reducible refine x_max ?_ | with_reducible refine x_next ?_ | with_reducible refine x_kill ?_ | with_reducible refine x_retN ?_ | with_reducible refine x_tand ?_ | with_reducible refine x_tor ?_
  | with_reducible refine x_chain ?_ | with_reducible refine x_two ?_ | with_reducible refine x_tnot ?_ | with_reducible refine x_and ?_ | with_reducible refine x_or ?_ | with_reducible refine x_not ?_ | with_reducible refine x_drop ?_))


theorem x_bT {b : Bool} {B C : Prop} (h1 : b = true → B) (h2 : b = false → C) : if b = true then B else C := by
  cases b with
  | true => rw [if_pos rfl]; exact h1 rfl
  | false => rw [if_neg Bool.false_ne_true]; exact h2 rfl
end FA.X.Y
set_option Elab.async false
set_option linter.all false
set_option maxRecDepth 100000
set_option maxHeartbeats 1000000
namespace FA.X.Y
open PySem PySem.Spec PyProof.Rows L2
local macro_rules | `(tactic| walk_at "x") => `(tactic| repeat (first
  | with_reducible refine x_seq ?_ | with_reducible refine x_set ?_ | with_reducible refine x_ret ?_ | with_reducible refine x_Ae ?_ | with_reducible refine x_A0 ?_ | with_reducible refine x_C ?_ | with_reducible refine x_I ?_ | with_reducible refine x_add ?_
  | with_reducible refine x_int ?_ | with_reducible refine x_abs ?_ | with_reducible refine x_bits ?_ | with_reducible refine x_bits' ?_ | with_reducible refine x_setc ?_ | with_reducible refine x_eqI ?_ | with_reducible refine x_fz ?_
  | ((with_reducible refine x_op ?_ ?hn); (case hn => rfl)) | ((with_reducible refine x_call ?_ ?hn); (case hn => rfl))
  | ((with_reducible show mA (Opd.b _ :: _) _ _ _); refine x_Ab rfl rfl ?_) | ((with_reducible show mVar _ _ _ _); refine x_var rfl rfl ?_)
  | ((with_reducible show mRd _ (bIx (bVar _) (mC _)) _ _ _); refine x_rdc rfl rfl rfl rfl rfl ?_)
  | with_reducible refine x_if ?_ | with_reducible refine x_ifS ?_ | with_reducible refine x_val ?_ | with_reducible refine x_bool ?_
  | with_reducible refine x_neg ?_ | with_reducible refine x_min ?_ | with_reducible refine x_max ?_ | with_reducible refine x_next ?_ | with_reducible refine x_kill ?_ | with_reducible refine x_retN ?_ | with_reducible refine x_tand ?_ | with_reducible refine x_tor ?_
  | with_reducible refine x_chain ?_ | with_reducible refine x_two ?_ | with_reducible refine x_tnot ?_ | with_reducible refine x_and ?_ | with_reducible refine x_or ?_ | with_reducible refine x_not ?_ | with_reducible refine x_drop ?_))


end FA.X.Y
set_option Elab.async false
set_option linter.all false
set_option maxRecDepth 100000
set_option maxHeartbeats 1000000
namespace FA.X.Y
open PySem PySem.Spec PyProof.Rows L2

/-! ### one number of a sheet changed: how all numbers change -/
/-- 1 where it stands, else 0 -/
def one (p : Prop) [Decidable p] : Int := if p then 1 else 0
section
variable {s : Sh} {w d b : Nat} {v : Int}
end

/-! ### signs by keys -/
end FA.X.Y
set_option Elab.async false
set_option linter.all false
set_option maxRecDepth 100000
set_option maxHeartbeats 1000000
namespace FA.X.Y
open PySem PySem.Spec PyProof.Rows L2

/-! ### keys stand once -/
theorem nums_mem {s : Sh} {w : Nat} {p : Ky × Int} : p ∈ numsL s w ↔ ∃ i : Nat, i < s.length ∧ (p = (aK i, Away s w i) ∨ p = (fK i, Fresh s w i) ∨ ∃ j : Nat, i < j ∧ j < s.length ∧ j - i < w ∧ p = (gK i j, Gap s i j)) := by
  unfold numsL numsN
  rw [List.mem_flatMap]
  constructor
  · rintro ⟨i, hi, hp⟩
    refine ⟨i, List.mem_range.mp hi, ?_⟩
    unfold numsR at hp
    rcases List.mem_append.mp hp with hp | hp
    · rcases List.mem_cons.mp hp with hp | hp
      · exact .inl hp
      · exact .inr (.inl (List.mem_singleton.mp hp))
    · obtain ⟨j, hj, rfl⟩ := List.mem_map.mp hp
      have hj := List.mem_range.mp hj
      refine .inr (.inr ⟨i + 1 + j, by omega, by omega, by omega, ?_⟩)
      rw [show ((i + 1 + j : Nat) : Int) = (i : Int) + 1 + (j : Int) by omega]
  · rintro ⟨i, hi, hp⟩
    refine ⟨i, List.mem_range.mpr hi, ?_⟩
    unfold numsR
    rcases hp with rfl | rfl | ⟨j, h1, h2, h3, rfl⟩
    · exact List.mem_append.mpr (.inl List.mem_cons_self)
    · exact List.mem_append.mpr (.inl (List.mem_cons_of_mem _ (List.mem_singleton_self _)))
    · refine List.mem_append.mpr (.inr (List.mem_map.mpr ⟨j - (i + 1), List.mem_range.mpr (by omega), ?_⟩))
      rw [show (i : Int) + 1 + ((j - (i + 1) : Nat) : Int) = (j : Int) by omega]

/-! ### the values -/
end FA.X.Y
set_option Elab.async false
set_option linter.all false
set_option maxRecDepth 100000
set_option maxHeartbeats 1000000
namespace FA.X.Y
open PySem PySem.Spec PyProof.Rows L2

/-! ### no conflict -/
theorem confl_nil {s : Sh} {w : Nat} : conflD s w = .none ↔ confN s w s.length = [] := by
  have e : conflD s w = match (confN s w s.length).map rev3D with | [] => .none | c :: cs => rev3D (PySem.W.minD c cs) := rfl
  constructor
  · intro h
    rw [e] at h
    cases q : (confN s w s.length).map rev3D with
    | nil => exact List.map_eq_nil_iff.mp q
    | cons c cs =>
      rw [q] at h
      have hm := minD_in c cs
      rw [← q] at hm
      obtain ⟨x, hx, ex⟩ := List.mem_map.mp hm
      obtain ⟨z, i, j, rfl, _⟩ := confN_is x hx
      dsimp only at h
      rw [← ex] at h
      cases h
  · intro h
    rw [e, h]
    rfl
theorem gapsN_mem {s : Sh} {w : Nat} {i j : Nat} (hi : i < j) (hj : j < s.length) (hw : j - i < w) : ((i : Int), (j : Int), Gap s i j) ∈ gapsN s w s.length := by
  unfold gapsN
  refine List.mem_flatMap.mpr ⟨i, List.mem_range.mpr (by omega), ?_⟩
  unfold gapsR
  refine List.mem_map.mpr ⟨j - (i + 1), List.mem_range.mpr (by unfold lastL; omega), ?_⟩
  rw [show (i : Int) + 1 + ((j - (i + 1) : Nat) : Int) = (j : Int) by omega]
theorem gapsN_is {s : Sh} {w : Nat} {x : Int × Int × Int} (h : x ∈ gapsN s w s.length) : ∃ i j : Nat, i < j ∧ j < s.length ∧ j - i < w ∧ x = ((i : Int), (j : Int), Gap s i j) := by
  unfold gapsN at h
  obtain ⟨i, hi, h⟩ := List.mem_flatMap.mp h
  have hi := List.mem_range.mp hi
  unfold gapsR at h
  obtain ⟨j, hj, rfl⟩ := List.mem_map.mp h
  have hj := List.mem_range.mp hj
  unfold lastL at hj
  refine ⟨i, i + 1 + j, by omega, by omega, by omega, ?_⟩
  rw [show ((i + 1 + j : Nat) : Int) = (i : Int) + 1 + (j : Int) by omega]
theorem confl_iff {s : Sh} {w : Nat} : conflD s w = .none ↔ ∀ p ∈ numsL s w, 0 ≤ p.2 := by
  rw [confl_nil]
  unfold confN gapC
  rw [List.append_eq_nil_iff, List.map_eq_nil_iff, List.filter_eq_nil_iff, List.flatMap_eq_nil_iff]
  constructor
  · rintro ⟨h1, h2⟩ p hp
    obtain ⟨i, hi, hp⟩ := nums_mem.mp hp
    have hd := h2 i (List.mem_range.mpr hi)
    unfold dayC at hd
    rw [List.append_eq_nil_iff] at hd
    rcases hp with rfl | rfl | ⟨j, a, b, c, rfl⟩
    · by_cases z : Away s w i < 0
      · rw [if_pos z] at hd; cases hd.1
      · show 0 ≤ Away s w i; omega
    · by_cases z : Fresh s w i < 0
      · rw [if_pos z] at hd; cases hd.2
      · show 0 ≤ Fresh s w i; omega
    · have := h1 _ (gapsN_mem a b c)
      rw [decide_eq_true_eq] at this
      show 0 ≤ Gap s i j
      have this : ¬ (Gap s i j < 0) := this
      omega
  · intro h
    refine ⟨fun x hx z => ?_, fun d hd => ?_⟩
    · obtain ⟨i, j, a, b, c, rfl⟩ := gapsN_is hx
      rw [decide_eq_true_eq] at z
      have h2 := h (gK i j, Gap s i j) (nums_mem.mpr ⟨i, by omega, .inr (.inr ⟨j, a, b, c, rfl⟩)⟩)
      have z : Gap s i j < 0 := z
      have h2 : 0 ≤ Gap s i j := h2
      omega
    · have hd := List.mem_range.mp hd
      have h1 : 0 ≤ Away s w d := h (aK d, Away s w d) (nums_mem.mpr ⟨d, hd, .inl rfl⟩)
      have h2 : 0 ≤ Fresh s w d := h (fK d, Fresh s w d) (nums_mem.mpr ⟨d, hd, .inr (.inl rfl)⟩)
      unfold dayC
      rw [if_neg (by omega), if_neg (by omega)]
      rfl

/-! ### bounds -/
/-! ### no greatest one just at width 1 -/
/-! ### the ends as the law finds them -/
end FA.X.Y
set_option Elab.async false
set_option linter.all false
set_option maxRecDepth 100000
set_option maxHeartbeats 1000000
namespace FA.X.Y.V
open PySem PySem.Spec PyProof.Rows L2

/-! ### the first days of a sheet -/
theorem getD_take {s : Sh} {k d : Nat} (h : d < k) : (s.take k).getD d [] = s.getD d [] := by
  rw [List.getD_eq_getElem?_getD, List.getD_eq_getElem?_getD, List.getElem?_take_of_lt h]
theorem take_ok {s : Sh} {w k : Nat} (h : SheetOk s w) (h1 : 1 ≤ k) (h2 : k ≤ s.length) : SheetOk (s.take k) (min k w) := by
  have hl : (s.take k).length = k := by rw [List.length_take]; omega
  have h3 := h.l30
  have h4 := h.w1
  refine ⟨by omega, by omega, by omega, by omega, fun d hd => ?_, fun r hr x hx => h.nn r (List.mem_of_mem_take hr) x hx⟩
  rw [hl] at hd
  rw [getD_take hd, h.row d (by omega)]
  omega
theorem U_take {s : Sh} {k : Nat} {i j : Int} (h : i ≤ j → 0 ≤ j ∧ j < k) : U (s.take k) i j = U s i j := by
  unfold U
  by_cases hij : i ≤ j
  · obtain ⟨h0, h1⟩ := h hij
    rw [if_pos hij, if_pos hij]
    unfold cell
    rw [getD_take (by omega)]
  · rw [if_neg hij, if_neg hij]
theorem gap_take {s : Sh} {k : Nat} {i j : Int} (h0 : 0 ≤ i) (h1 : i < j) (h2 : j < k) : Gap (s.take k) i j = Gap s i j := by
  unfold Gap
  rw [U_take (by omega), U_take (by omega), U_take (by omega), U_take (by omega)]
theorem fresh_take {s : Sh} {w k : Nat} {d : Int} (h0 : 0 ≤ d) (h1 : d < k) : Fresh (s.take k) (min k w) d = Fresh s w d := by
  unfold Fresh
  have e : firstL (min k w) d = firstL w d := by unfold firstL; omega
  have hf : firstL w d = max 0 (d - w + 1) := rfl
  rw [e, U_take (by omega), U_take (by omega)]
theorem Feas.gapI {s : Sh} {w : Nat} (hF : Feas s w) {i j : Int} (h0 : 0 ≤ i) (h1 : i < j) (h2 : j < s.length) (h3 : j - i < w) : 0 ≤ Gap s i j := by
  have := hF.gap i.toNat (by omega) j.toNat (by omega) (by omega) (by omega)
  rw [show ((i.toNat : Nat) : Int) = i by omega, show ((j.toNat : Nat) : Int) = j by omega] at this
  exact this
theorem Feas.awayI {s : Sh} {w : Nat} (hF : Feas s w) {d : Int} (h0 : 0 ≤ d) (h1 : d < s.length) : 0 ≤ Away s w d := by
  have := hF.away d.toNat (by omega)
  rw [show ((d.toNat : Nat) : Int) = d by omega] at this
  exact this
theorem Feas.freshI {s : Sh} {w : Nat} (hF : Feas s w) {d : Int} (h0 : 0 ≤ d) (h1 : d < s.length) : 0 ≤ Fresh s w d := by
  have := hF.fresh d.toNat (by omega)
  rw [show ((d.toNat : Nat) : Int) = d by omega] at this
  exact this
/-- away at a day, looked at up to another one -/
def AwL (s : Sh) (d l : Int) : Int := U s d l - U s (d + 1) l
theorem away_take {s : Sh} {w k : Nat} {d : Int} (hk : k ≤ s.length) (h0 : 0 ≤ d) (h1 : d < k) : Away (s.take k) (min k w) d = AwL s d (min (d + w) k - 1) := by
  unfold Away AwL
  have e : lastL (s.take k) (min k w) d = min (d + w) k - 1 := by
    unfold lastL
    rw [List.length_take]
    omega
  rw [e, U_take (by omega), U_take (by omega)]
theorem away_same {s : Sh} {w k : Nat} {d : Int} (hk : k ≤ s.length) (h0 : 0 ≤ d) (h1 : d < k) (h2 : d + w ≤ k) : Away (s.take k) (min k w) d = Away s w d := by
  rw [away_take hk h0 h1]
  unfold Away AwL lastL
  rw [show min (d + (w : Int)) (k : Int) = min (d + (w : Int)) (s.length : Int) by omega]
theorem AwL_step {s : Sh} {d l : Int} : AwL s d (l - 1) - AwL s d l = Gap s d l := by
  unfold AwL Gap
  omega
theorem AwL_mono {s : Sh} {w : Nat} (hF : Feas s w) {d l : Int} (h0 : 0 ≤ d) (h1 : d ≤ l) : ∀ n : Nat, l + n < s.length → l + n - d < w → AwL s d (l + n) ≤ AwL s d l
  | 0, _, _ => by rw [show l + ((0 : Nat) : Int) = l by omega]; omega
  | n + 1, h2, h3 => by
    have ih := AwL_mono hF h0 h1 n (by omega) (by omega)
    have hg := Feas.gapI hF (i := d) (j := l + ((n + 1 : Nat) : Int)) h0 (by omega) h2 h3
    have hs := AwL_step (s := s) (d := d) (l := l + ((n + 1 : Nat) : Int))
    rw [show l + ((n + 1 : Nat) : Int) - 1 = l + (n : Int) by omega] at hs
    omega
theorem away_more {s : Sh} {w k : Nat} {d : Int} (hF : Feas s w) (hw : 1 ≤ w) (hk : k ≤ s.length) (h0 : 0 ≤ d) (h1 : d < k) : Away s w d ≤ Away (s.take k) (min k w) d := by
  rw [away_take hk h0 h1]
  have e : Away s w d = AwL s d (min (d + w) s.length - 1) := rfl
  rw [e]
  obtain ⟨n, hn⟩ : ∃ n : Nat, min (d + (w : Int)) s.length - 1 = (min (d + (w : Int)) k - 1) + n := ⟨(min (d + (w : Int)) s.length - min (d + (w : Int)) k).toNat, by omega⟩
  rw [hn]
  exact AwL_mono hF h0 (by omega) n (by omega) (by omega)
theorem take_feas {s : Sh} {w k : Nat} (h : SheetOk s w) (hF : Feas s w) (hk : k ≤ s.length) : Feas (s.take k) (min k w) := by
  have hl : (s.take k).length = k := by rw [List.length_take]; omega
  have hw := h.w1
  refine ⟨fun i hi j hj hij hw => ?_, fun d hd => ?_, fun d hd => ?_⟩
  · rw [hl] at hi hj
    rw [gap_take (by omega) (by omega) (by omega)]
    exact Feas.gapI hF (by omega) (by omega) (by omega) (by omega)
  · rw [hl] at hd
    exact Int.le_trans (Feas.awayI hF (d := d) (by omega) (by omega)) (away_more hF hw hk (by omega) (by omega))
  · rw [hl] at hd
    rw [fresh_take (by omega) (by omega)]
    exact Feas.freshI hF (by omega) (by omega)
/-! ### longer stretches -/
def LongE (s : Sh) (w : Nat) (a d lo hi : Int) : Prop := (d - a < w ∧ lo = U s a d ∧ hi = U s a d) ∨ (¬ d - a < w ∧ hi = mostV s w a d ∧ (∃ b, a ≤ b ∧ b ≤ d - w + 1 ∧ lo = mostV s w a d - cov s w a d b) ∧ ∀ b, a ≤ b → b ≤ d - w + 1 → mostV s w a d - cov s w a d b ≤ lo)
theorem LongE.one {s : Sh} {w : Nat} {a d lo hi lo' hi' : Int} (h : LongE s w a d lo hi) (h' : LongE s w a d lo' hi') : lo = lo' ∧ hi = hi' := by
  rcases h with ⟨h1, h2, h3⟩ | ⟨h1, h2, ⟨b, b1, b2, b3⟩, h4⟩ <;> rcases h' with ⟨g1, g2, g3⟩ | ⟨g1, g2, ⟨c, c1, c2, c3⟩, g4⟩
  · exact ⟨by rw [h2, g2], by rw [h3, g3]⟩
  · exact absurd h1 g1
  · exact absurd g1 h1
  · have := h4 c c1 c2
    have := g4 b b1 b2
    exact ⟨by omega, by rw [h2, g2]⟩
theorem sumF_s {g : Int → Int} {lo : Int} {n : Nat} : sumF g lo (n + 1) = sumF g lo n + g (lo + n) := by
  unfold sumF
  rw [List.range_succ, List.map_append, List.sum_append]
  simp
theorem sumF_congr {g g' : Int → Int} {lo : Int} {n : Nat} (h : ∀ k : Nat, k < n → g (lo + k) = g' (lo + k)) : sumF g lo n = sumF g' lo n := by
  unfold sumF
  rw [List.map_congr_left fun k hk => h k (List.mem_range.mp hk)]
theorem long_take {s : Sh} {w k : Nat} {a d lo hi : Int} (hw : 1 ≤ w) (hk : k ≤ s.length) (h0 : 0 ≤ a) (h1 : a ≤ d) (h2 : d < k) : LongE (s.take k) (min k w) a d lo hi ↔ LongE s w a d lo hi := by
  have eU : U (s.take k) a d = U s a d := U_take (by omega)
  by_cases hkw : w ≤ k
  · have ew : min k w = w := by omega
    have eF : ∀ e : Int, 0 ≤ e → e < k → Fresh (s.take k) w e = Fresh s w e := fun e e0 e1 => by
      have := fresh_take (s := s) (w := w) e0 e1
      rw [ew] at this
      exact this
    have eA : ∀ e : Int, 0 ≤ e → e + w ≤ k → Away (s.take k) w e = Away s w e := fun e e0 e1 => by
      have := away_same (s := s) (w := w) hk e0 (by omega) e1
      rw [ew] at this
      exact this
    have eM : ¬ d - a < w → mostV (s.take k) w a d = mostV s w a d := fun z => by
      unfold mostV
      rw [U_take (by omega), sumF_congr fun j hj => eF _ (by omega) (by omega)]
    have eC : ∀ b, ¬ d - a < w → a ≤ b → b ≤ d - w + 1 → cov (s.take k) w a d b = cov s w a d b := fun b z b1 b2 => by
      unfold cov
      rw [sumF_congr fun j hj => eA _ (by omega) (by omega), sumF_congr (g := Fresh (s.take k) w) fun j hj => eF _ (by omega) (by omega)]
    rw [ew]
    unfold LongE
    rw [eU]
    constructor
    · rintro (h | ⟨z, e1, ⟨b, b1, b2, b3⟩, h⟩)
      · exact .inl h
      · rw [eM z] at e1 b3 h
        rw [eC b z b1 b2] at b3
        exact .inr ⟨z, e1, ⟨b, b1, b2, b3⟩, fun c c1 c2 => by rw [← eC c z c1 c2]; exact h c c1 c2⟩
    · rintro (h | ⟨z, e1, ⟨b, b1, b2, b3⟩, h⟩)
      · exact .inl h
      · rw [← eM z] at e1 b3 h
        rw [← eC b z b1 b2] at b3
        exact .inr ⟨z, e1, ⟨b, b1, b2, b3⟩, fun c c1 c2 => by rw [eC c z c1 c2]; exact h c c1 c2⟩
  · have z1 : d - a < ((min k w : Nat) : Int) := by omega
    have z2 : d - a < (w : Int) := by omega
    unfold LongE
    rw [eU]
    constructor
    · rintro (⟨_, h⟩ | ⟨z, _⟩)
      · exact .inl ⟨z2, h⟩
      · exact absurd z1 z
    · rintro (⟨_, h⟩ | ⟨z, _⟩)
      · exact .inl ⟨z1, h⟩
      · exact absurd z2 z
/-! ### new ones -/
def awS (s : Sh) (w : Nat) (d : Int) : Int := sumF (Away s w) 0 (d - w + 1).toNat
theorem awS_take {s : Sh} {w k : Nat} {d : Int} (hk : k ≤ s.length) (h0 : 0 ≤ d) (h1 : d < k) : awS (s.take k) (min k w) d = awS s w d := by
  unfold awS
  by_cases hkw : w ≤ k
  · rw [show min k w = w by omega]
    refine sumF_congr fun j hj => ?_
    have := away_same (s := s) (w := w) (d := 0 + (j : Int)) hk (by omega) (by omega) (by omega)
    rw [show min k w = w by omega] at this
    exact this
  · rw [show (d - ((min k w : Nat) : Int) + 1).toNat = 0 by omega, show (d - (w : Int) + 1).toNat = 0 by omega]
    rfl
theorem feas_confl {s : Sh} {w : Nat} (hF : Feas s w) : conflD s w = .none := by
  rw [confl_iff]
  intro p hp
  obtain ⟨i, hi, h⟩ := nums_mem.mp hp
  rcases h with rfl | rfl | ⟨j, hij, hj, hw, rfl⟩
  · exact hF.away i hi
  · exact hF.fresh i hi
  · exact hF.gap i hi j hj hij (by omega)
end FA.X.Y.V
set_option Elab.async false
set_option linter.all false
set_option maxRecDepth 100000
set_option maxHeartbeats 1000000
namespace FA.X.Y.V
open PySem PySem.Spec PyProof.Rows L2
local macro_rules | `(tactic| walk_at "x") => `(tactic| repeat (first
  | with_reducible refine x_seq ?_ | with_reducible refine x_set ?_ | with_reducible refine x_ret ?_ | with_reducible refine x_Ae ?_ | with_reducible refine x_A0 ?_ | with_reducible refine x_C ?_ | with_reducible refine x_I ?_ | with_reducible refine x_add ?_
  | with_reducible refine x_int ?_ | with_reducible refine x_abs ?_ | with_reducible refine x_bits ?_ | with_reducible refine x_bits' ?_ | with_reducible refine x_setc ?_ | with_reducible refine x_eqI ?_ | with_reducible refine x_fz ?_
  | ((with_reducible refine x_op ?_ ?hn); (case hn => rfl)) | ((with_reducible refine x_call ?_ ?hn); (case hn => rfl))
  | ((with_reducible show mA (Opd.b _ :: _) _ _ _); refine x_Ab rfl rfl ?_) | ((with_reducible show mVar _ _ _ _); refine x_var rfl rfl ?_)
  | ((with_reducible show mRd _ (bIx (bVar _) (mC _)) _ _ _); refine x_rdc rfl rfl rfl rfl rfl ?_)
  | with_reducible refine x_if ?_ | with_reducible refine x_ifS ?_ | with_reducible refine x_val ?_ | with_reducible refine x_bool ?_
  | with_reducible refine x_neg ?_ | with_reducible refine x_min ?_ | with_reducible refine x_max ?_ | with_reducible refine x_next ?_ | with_reducible refine x_kill ?_ | with_reducible refine x_retN ?_ | with_reducible refine x_tand ?_ | with_reducible refine x_tor ?_
  | with_reducible refine x_chain ?_ | with_reducible refine x_two ?_ | with_reducible refine x_tnot ?_ | with_reducible refine x_and ?_ | with_reducible refine x_or ?_ | with_reducible refine x_not ?_ | with_reducible refine x_drop ?_))


def sp_longer_in : Spec := fun ts _ P => ∃ s w a d, ts = [.d (shD s), .d (.int a), .d (.int d)] ∧ SheetOk s w ∧ 0 ≤ a ∧ a ≤ d ∧ d < s.length ∧ ∀ lo hi, LongE s w a d lo hi → P (.d (.tuple [.int lo, .int hi]))
def sp_need_stretch : Spec := fun ts _ P => ∃ s w a d, ts = [.d (shD s), .d (.int a), .d (.int d)] ∧ SheetOk s w ∧ 0 ≤ a ∧ a ≤ d ∧ d < s.length ∧ P (.d .none)
def sp_longer_range : Spec := fun ts _ P => ∃ s w a d, ts = [.d (shD s), .d (.int a), .d (.int d)] ∧ SheetOk s w ∧ Feas s w ∧ 0 ≤ a ∧ a ≤ d ∧ d < s.length ∧ ∀ lo hi, LongE s w a d lo hi → P (.d (.tuple [.int lo, .int hi]))
def sp_new_in : Spec := fun ts _ P => ∃ s w d, ts = [.d (shD s), .d (.int d)] ∧ SheetOk s w ∧ 0 ≤ d ∧ d < s.length ∧ P (.d (.tuple [.int (max 0 (Fresh s w d - awS s w d)), .int (Fresh s w d)]))
def sp_new_range : Spec := fun ts _ P => ∃ s w d, ts = [.d (shD s), .d (.int d)] ∧ SheetOk s w ∧ Feas s w ∧ 0 ≤ d ∧ d < s.length ∧ P (.d (.tuple [.int (max 0 (Fresh s w d - awS s w d)), .int (Fresh s w d)]))
def tp (x : Int × Int) : PyData := .tuple [.int x.1, .int x.2]
theorem tp_lt (x y : Int × Int) : PySem.W.dataLt (tp x) (tp y) = decide ([x.1, x.2] < [y.1, y.2]) := ltT [x.1, x.2] [y.1, y.2]
theorem minD_cons (x z : PyData) (xs : List PyData) : PySem.W.minD x (z :: xs) = PySem.W.minD (if PySem.W.dataLt z x then z else x) xs := rfl
theorem minD_least : ∀ (xs : List (Int × Int)) (x : Int × Int), ∃ m ∈ x :: xs, PySem.W.minD (tp x) (xs.map tp) = tp m ∧ ∀ y ∈ x :: xs, m.1 ≤ y.1
  | [], x => ⟨x, List.mem_cons_self, rfl, fun y hy => by rw [List.mem_singleton.mp hy]; exact Int.le_refl _⟩
  | z :: xs, x => by
    rw [List.map_cons, minD_cons, tp_lt]
    by_cases h : [z.1, z.2] < [x.1, x.2]
    · obtain ⟨m, hm, e, hl⟩ := minD_least xs z
      have hz : z.1 ≤ x.1 := by
        rcases List.cons_lt_cons_iff.mp h with h | ⟨h, _⟩ <;> omega
      refine ⟨m, List.mem_cons_of_mem _ hm, by rw [if_pos (decide_eq_true h)]; exact e, fun y hy => ?_⟩
      rcases List.mem_cons.mp hy with rfl | hy
      · have := hl z List.mem_cons_self
        omega
      · exact hl y hy
    · obtain ⟨m, hm, e, hl⟩ := minD_least xs x
      have hz : x.1 ≤ z.1 := by
        refine Int.not_lt.mp fun q => h (List.cons_lt_cons_iff.mpr (.inl q))
      refine ⟨m, ?_, by rw [if_neg (by simpa using h)]; exact e, fun y hy => ?_⟩
      · rcases List.mem_cons.mp hm with rfl | hm
        · exact List.mem_cons_self
        · exact List.mem_cons_of_mem _ (List.mem_cons_of_mem _ hm)
      · rcases List.mem_cons.mp hy with rfl | hy
        · exact hl _ List.mem_cons_self
        · rcases List.mem_cons.mp hy with rfl | hy
          · have := hl x List.mem_cons_self
            omega
          · exact hl y (List.mem_cons_of_mem _ hy)
theorem min_cov2 {s : Sh} {w : Nat} {a d : Int} {n : Nat} : ∃ b : Nat, b < n + 1 ∧ PySem.W.minD (.tuple [.int (cov s w a d (a + (0 : Nat))), .int (a + (0 : Nat))]) ((List.range n).map fun k : Nat => PyData.tuple [.int (cov s w a d (a + (k.succ : Nat))), .int (a + (k.succ : Nat))]) = .tuple [.int (cov s w a d (a + (b : Int))), .int (a + (b : Int))] ∧ ∀ c : Nat, c < n + 1 → cov s w a d (a + (b : Int)) ≤ cov s w a d (a + (c : Int)) := by
  have e : ((List.range n).map fun k : Nat => PyData.tuple [.int (cov s w a d (a + (k.succ : Nat))), .int (a + (k.succ : Nat))]) = ((List.range n).map fun k : Nat => (cov s w a d (a + (k.succ : Nat)), a + ((k.succ : Nat) : Int))).map tp := by
    rw [List.map_map]
    rfl
  rw [e]
  obtain ⟨m, hm, e2, hl⟩ := minD_least ((List.range n).map fun k : Nat => (cov s w a d (a + (k.succ : Nat)), a + ((k.succ : Nat) : Int))) (cov s w a d (a + (0 : Nat)), a + ((0 : Nat) : Int))
  have all : ∀ c : Nat, c < n + 1 → (cov s w a d (a + (c : Int)), a + (c : Int)) ∈ (cov s w a d (a + (0 : Nat)), a + ((0 : Nat) : Int)) :: (List.range n).map fun k : Nat => (cov s w a d (a + (k.succ : Nat)), a + ((k.succ : Nat) : Int)) := fun c hc => by
    cases c with
    | zero => exact List.mem_cons_self
    | succ c => exact List.mem_cons_of_mem _ (List.mem_map.mpr ⟨c, List.mem_range.mpr (by omega), rfl⟩)
  have key : ∃ b : Nat, b < n + 1 ∧ m = (cov s w a d (a + (b : Int)), a + (b : Int)) := by
    rcases List.mem_cons.mp hm with h | h
    · exact ⟨0, by omega, h⟩
    · obtain ⟨k, hk, e⟩ := List.mem_map.mp h
      have := List.mem_range.mp hk
      exact ⟨k.succ, by omega, e.symm⟩
  obtain ⟨b, hb, rfl⟩ := key
  exact ⟨b, hb, e2, fun c hc => hl _ (all c hc)⟩
def lI (g : Int → Int) : T → T
  | .d (.int k) => .d (.int (g k))
  | c => c
theorem rng_lI {g : Int → Int} {lo : Int} {n : Nat} : (rngT lo n).map (lI g) = tI0 ((List.range n).map fun k : Nat => g (lo + (k : Int))) := by
  unfold rngT tI0
  rw [List.map_map, List.map_map]
  exact List.map_congr_left fun k _ => rfl
/-- longer_in(sheet, first, last): slots sheet, first, last, most -/
def m_longer_in : MS := (mSeq (mIfS (tVal (mOp oLt [.e (mOp oSub [.b 2, .b 1]), .e (mCall sp_width_told [.b 0])]))
    (mSeq (mRet (mTup [.e (mCall sp_unlike_in [.b 0, .b 1, .b 2]), .e (mCall sp_unlike_in [.b 0, .b 1, .b 2])]))
  mNext)
    mNext)
  (mSeq (mSet 3 (mFz (mCall sp_most_in [.b 0, .b 1, .b 2])))
  (mSeq (mRet (mTup [.e (mOp oSub [.b 3, .e (mOp oIxG [.e (mOp oMinD [.e (mCall sp_covers_in [.b 0, .b 1, .b 2])]), .e (mC (.int 0))])]), .e (mVar 3)]))
  mNext)))

/-- need_stretch(sheet, first, last): slots sheet, first, last -/
def m_need_stretch : MS := (mSeq (mDrop (mCall sp_need_sheet [.b 0]))
  (mSeq (mDrop (mCall sp_need_day [.b 1, .e (mOp oLenA [.b 0])]))
  (mSeq (mDrop (mCall sp_need_day [.b 2, .e (mOp oLenA [.b 0])]))
  (mSeq (mIfS (tVal (mOp oLt [.b 2, .b 1]))
    (mSeq (mRaise "InvalidDay")
  mNext)
    mNext)
  mNext))))

/-- longer_range(sheet, first, last): slots sheet, first, last -/
def m_longer_range : MS := (mSeq (mDrop (mCall sp_need_stretch [.b 0, .b 1, .b 2]))
  (mSeq (mDrop (mCall sp_need_possible [.b 0]))
  (mSeq (mRet (mFz (mCall sp_longer_in [.b 0, .b 1, .b 2])))
  mNext)))

/-- new_in(sheet, day): slots sheet, day, fresh, away, earlier -/
def m_new_in : MS := (mSeq (mSet 2 (mFz (mCall sp_fresh_in [.b 0, .b 1])))
  (mSeq (mSet 3 (mOp (oInts fun ns P => P (.int ns.sum)) [.e (mLc (miR1 (.e (mOp oAddA [.e (mOp oSub [.b 1, .e (mCall sp_width_told [.b 0])]), .e (mC (.int 1))]))) (.n 4) tYesM (mCall sp_away_in [.b 0, .b 4]) [4])]))
  (mSeq (mRet (mTup [.e (mOp oMax [.e (mC (.int 0)), .e (mOp oSub [.b 2, .b 3])]), .e (mVar 2)]))
  mNext)))

/-- new_range(sheet, day): slots sheet, day -/
def m_new_range : MS := (mSeq (mDrop (mCall sp_need_sheet [.b 0]))
  (mSeq (mDrop (mCall sp_need_day [.b 1, .e (mOp oLenA [.b 0])]))
  (mSeq (mDrop (mCall sp_need_possible [.b 0]))
  (mSeq (mRet (mFz (mCall sp_new_in [.b 0, .b 1])))
  mNext))))

theorem re_longer_in : Ref sp_longer_in 3 4 m_longer_in := by
  intro ts EX Q _ _ ⟨s, w, a, d, e, h, h1, h2, h3, hQ⟩
  subst e
  have h30 := h.l30
  have hw := h.w1
  unfold m_longer_in
  walk_at "x"
  refine ⟨_, rfl, s, w, rfl, h, rfl, ?_⟩
  walk_at "x"
  refine x_ite (fun z => ?_) fun z => ?_
  · walk_at "x"
    refine x_tup ?_
    walk_at "x"
    refine ⟨_, rfl, s, w, _, _, rfl, h, fun _ => by omega, rfl, ?_⟩
    walk_at "x"
    refine ⟨_, rfl, s, w, _, _, rfl, h, fun _ => by omega, rfl, ?_⟩
    walk_at "x"
    refine x_tup2' ?_
    exact hQ _ _ (.inl ⟨z, rfl, rfl⟩)
  · walk_at "x"
    refine ⟨_, rfl, s, w, _, _, rfl, h, h1, h3, by omega, rfl, _, rfl, ?_⟩
    walk_at "x"
    refine x_tup ?_
    walk_at "x"
    refine ⟨_, rfl, s, w, _, _, rfl, h, h1, h3, by omega, rfl, ?_⟩
    obtain ⟨n, hn⟩ : ∃ n, (d - a - w + 2).toNat = n + 1 := ⟨(d - a - w + 2).toNat - 1, by omega⟩
    rw [hn]
    obtain ⟨b, hb, hmin, hall⟩ := min_cov2 (s := s) (w := w) (a := a) (d := d) (n := n)
    refine ⟨_, .tuple [.int (cov s w a d (a + (0 : Nat))), .int (a + (0 : Nat))], (List.range n).map fun k : Nat => PyData.tuple [.int (cov s w a d (a + (k.succ : Nat))), .int (a + (k.succ : Nat))], rfl, rfl, ?_, ?_, ?_, ?_, ?_⟩
    · rw [range_cons, List.map_cons, List.map_map]
      rfl
    · refine nods_of fun d hd => ?_
      rcases List.mem_cons.mp hd with rfl | hd
      · rfl
      · obtain ⟨k, _, rfl⟩ := List.mem_map.mp hd
        rfl
    · exact cov_alike
    · exact cov_depth
    · rw [hmin]
      walk_at "x"
      refine x_ix (cs := [T.d (.int (cov s w a d (a + (b : Int)))), T.d (.int (a + (b : Int)))]) rfl (u := .d (.int (cov s w a d (a + (b : Int))))) (atI_nat (by decide) rfl) ?_
      walk_at "x"
      refine x_tup2' ?_
      refine hQ _ _ (.inr ⟨z, rfl, ⟨a + (b : Int), by omega, by omega, rfl⟩, fun c c1 c2 => ?_⟩)
      have := hall (c - a).toNat (by omega)
      rw [show a + (((c - a).toNat : Nat) : Int) = c by omega] at this
      omega
theorem re_need_stretch : Ref sp_need_stretch 3 3 m_need_stretch := by
  intro ts EX Q _ _ ⟨s, w, a, d, e, h, h1, h2, h3, hQ⟩
  subst e
  unfold m_need_stretch
  walk_at "x"
  refine ⟨_, rfl, need_sheet_ok h ⟨rfl, ?_⟩⟩
  walk_at "x"
  refine x_len ?_ size_shD
  refine ⟨_, rfl, _, _, rfl, fun z => absurd (by omega) z, fun _ _ => ⟨rfl, ?_⟩⟩
  walk_at "x"
  refine x_len ?_ size_shD
  refine ⟨_, rfl, _, _, rfl, fun z => absurd (by omega) z, fun _ _ => ⟨rfl, ?_⟩⟩
  walk_at "x"
  refine x_ite (fun z => absurd z (by omega)) fun _ => ?_
  exact hQ
theorem need_pos {s : Sh} {w : Nat} {EX : Exc → Prop} {P : T → Prop} (h : SheetOk s w) (hF : Feas s w) (hP : P (.d .none)) : sp_need_possible [.d (shD s)] EX P := ⟨s, w, rfl, h, fun _ => hP, fun z i j e => by rw [feas_confl hF] at e; cases e⟩
theorem re_longer_range : Ref sp_longer_range 3 3 m_longer_range := by
  intro ts EX Q _ _ ⟨s, w, a, d, e, h, hf, h1, h2, h3, hQ⟩
  subst e
  unfold m_longer_range
  walk_at "x"
  refine ⟨_, rfl, s, w, _, _, rfl, h, h1, h2, h3, rfl, ?_⟩
  walk_at "x"
  refine ⟨_, rfl, need_pos h hf ⟨rfl, ?_⟩⟩
  walk_at "x"
  exact ⟨_, rfl, s, w, _, _, rfl, h, h1, h2, h3, fun lo hi hl => ⟨rfl, _, rfl, hQ lo hi hl⟩⟩
theorem re_new_in : Ref sp_new_in 2 5 m_new_in := by
  intro ts EX Q _ _ ⟨s, w, d, e, h, h0, h1, hQ⟩
  subst e
  have h30 := h.l30
  have hw := h.w1
  have hwl := h.wl
  unfold m_new_in
  walk_at "x"
  refine ⟨_, rfl, s, w, _, rfl, h, h0, h1, rfl, _, rfl, ?_⟩
  walk_at "x"
  refine x_lc (x_r1 ?_)
  walk_at "x"
  refine ⟨_, rfl, s, w, rfl, h, rfl, ?_⟩
  walk_at "x"
  refine x_r1' (by omega) (by omega) ?_
  refine lcM_map (lI (Away s w)) (fun c hc Q hQ => ?_) (by rw [rng_len]; omega) ?_
  · obtain ⟨k, hk⟩ := List.mem_iff_getElem?.mp hc
    obtain ⟨hk, rfl⟩ := rng_get hk
    refine x_tn ?_
    walk_at "x"
    exact ⟨_, rfl, s, w, _, rfl, h, by omega, by omega, rfl, hQ _ rfl⟩
  · rw [rng_lI]
    walk_at "x"
    refine x_sum ?_
    walk_at "x"
    refine x_tup ?_
    walk_at "x"
    refine x_tup2' ?_
    exact hQ
theorem re_new_range : Ref sp_new_range 2 2 m_new_range := by
  intro ts EX Q _ _ ⟨s, w, d, e, h, hf, h0, h1, hQ⟩
  subst e
  unfold m_new_range
  walk_at "x"
  refine ⟨_, rfl, need_sheet_ok h ⟨rfl, ?_⟩⟩
  walk_at "x"
  refine x_len ?_ size_shD
  refine ⟨_, rfl, _, _, rfl, fun z => absurd (by omega) z, fun _ _ => ⟨rfl, ?_⟩⟩
  walk_at "x"
  refine ⟨_, rfl, need_pos h hf ⟨rfl, ?_⟩⟩
  walk_at "x"
  exact ⟨_, rfl, s, w, _, rfl, h, h0, h1, rfl, _, rfl, hQ⟩
end FA.X.Y.V
set_option Elab.async false
set_option linter.all false
set_option maxRecDepth 100000
set_option maxHeartbeats 1000000
namespace FA.X.Y.V.J
open PySem PySem.Spec PyProof.Rows L2
local macro_rules | `(tactic| walk_at "x") => `(tactic| repeat (first
  | with_reducible refine x_seq ?_ | with_reducible refine x_set ?_ | with_reducible refine x_ret ?_ | with_reducible refine x_Ae ?_ | with_reducible refine x_A0 ?_ | with_reducible refine x_C ?_ | with_reducible refine x_I ?_ | with_reducible refine x_add ?_
  | with_reducible refine x_int ?_ | with_reducible refine x_abs ?_ | with_reducible refine x_bits ?_ | with_reducible refine x_bits' ?_ | with_reducible refine x_setc ?_ | with_reducible refine x_eqI ?_ | with_reducible refine x_fz ?_
  | ((with_reducible refine x_op ?_ ?hn); (case hn => rfl)) | ((with_reducible refine x_call ?_ ?hn); (case hn => rfl))
  | ((with_reducible show mA (Opd.b _ :: _) _ _ _); refine x_Ab rfl rfl ?_) | ((with_reducible show mVar _ _ _ _); refine x_var rfl rfl ?_)
  | ((with_reducible show mRd _ (bIx (bVar _) (mC _)) _ _ _); refine x_rdc rfl rfl rfl rfl rfl ?_)
  | ((with_reducible show mFld _ _ _ _ _ _); refine x_fld rfl rfl rfl ?_) | ((with_reducible show mA (Opd.o _ :: _) _ _ _); refine x_Ao rfl ?_) | with_reducible refine x_calO ?_ | with_reducible refine x_make ?_ | with_reducible refine x_makeK ?_ | with_reducible refine x_fldP ?_
  | ((with_reducible show mCallI _ _ _ _ _ _); refine x_callI (by rfl) (by rfl) ?_) | with_reducible refine x_if ?_ | with_reducible refine x_ifS ?_ | with_reducible refine x_val ?_ | with_reducible refine x_bool ?_
  | with_reducible refine x_neg ?_ | with_reducible refine x_min ?_ | with_reducible refine x_max ?_ | with_reducible refine x_next ?_ | with_reducible refine x_kill ?_ | with_reducible refine x_retN ?_ | with_reducible refine x_tand ?_ | with_reducible refine x_tor ?_
  | with_reducible refine x_chain ?_ | with_reducible refine x_two ?_ | with_reducible refine x_tnot ?_ | with_reducible refine x_and ?_ | with_reducible refine x_or ?_ | with_reducible refine x_not ?_ | with_reducible refine x_drop ?_))


set_option exponentiation.threshold 2000
/-! ### the jar -/
def jarT (a : Addr) (d m n : Int) : T := .nd (.lsa a) [.d (.int d), .d (.int m), .d (.int n)]
/-- a jar from which B numbers can be drawn -/
def Jar (B : Nat) (a : Addr) (t : T) : Prop := ∃ d m n : Int, t = jarT a d m n ∧ 0 ≤ d ∧ 0 ≤ m ∧ m < 10 ^ 60 ∧ 0 ≤ n ∧ n + B ≤ 1000000000
theorem Jar.adr {B : Nat} {a : Addr} {t : T} (h : Jar B a t) : t.adr = some a := by
  obtain ⟨d, m, n, rfl, _⟩ := h
  rfl
theorem Jar.le {B C : Nat} {a : Addr} {t : T} (h : Jar B a t) (hb : C ≤ B) : Jar C a t := by
  obtain ⟨d, m, n, e, h1, h2, h3, h4, h5⟩ := h
  exact ⟨d, m, n, e, h1, h2, h3, h4, by omega⟩
def sp0_L_jar : Spec := fun ts _ P => ∃ (s : Addr) (ns : List Int) (k : Int), ts = [.scr s ns, .d (.int k)] ∧ 0 ≤ k ∧ k ≤ 100 ∧ ∀ d m : Int, 0 ≤ d → 0 ≤ m → m < 10 ^ 60 → P (.nd .lst [.d (.int d), .d (.int m), .d (.int 0)])
def sp_L_jar : Spec := fun ts _ P => ∃ (s : Addr) (ns : List Int) (k : Int), ts = [.scr s ns, .d (.int k)] ∧ 0 ≤ k ∧ k ≤ 100 ∧ ∀ a t, Jar 900000000 a t → P t
def spI_L_dip : SpecI := fun t ts _ P => ∃ (B : Nat) (a : Addr) (w : Int), Jar (B + 1) a t ∧ ts = [.d (.int w)] ∧ Wd w ∧ ∀ q t', 0 ≤ q → q < w → Jar B a t' → P (.d (.int q)) t'
def spI_L_many : SpecI := fun t ts _ P => ∃ (B : Nat) (a : Addr), Jar (B + 2) a t ∧ ts = [] ∧ ∀ q t', 1 ≤ q → q ≤ 10 ^ 26 → Jar B a t' → P (.d (.int q)) t'
def spI_L_days : SpecI := fun t ts _ P => ∃ (B : Nat) (a : Addr) (n : Int), Jar (B + 40) a t ∧ ts = [.d (.int n)] ∧ 1 ≤ n ∧ n ≤ 30 ∧ ∀ p t', PatOk n p → Jar B a t' → P (.d (.tuple (p.map .int))) t'
def spI_L_family : SpecI := fun t ts _ P => ∃ (B : Nat) (a : Addr) (n size : Int), Jar (B + 2000) a t ∧ ts = [.d (.int n), .d (.int size)] ∧ 1 ≤ n ∧ n ≤ 30 ∧ 0 ≤ size ∧ size ≤ 40 ∧ ∀ f t', FamOk n f → FamSt f → (1 ≤ size → f ≠ []) → (f.length : Int) ≤ size → Jar B a t' → P (.d (famD f)) t'
def sp_L_sheet : Spec := fun ts _ P => ∃ (f : Fam) (many wide : Nat), ts = [.d (famD f), .d (.int many), .d (.int wide)] ∧ FamOk many f ∧ many ≤ 30 ∧ wide ≤ 1000 ∧ P (.d (shD (rowsOf f many wide)))
theorem lab_L_jar : ∀ ts EX P, sp_L_jar ts EX P → sp0_L_jar ts EX fun t => ∀ u, LabT t u → P u := fun ts EX P ⟨s, ns, k, e, h0, h1, hP⟩ => ⟨s, ns, k, e, h0, h1, fun d m d0 m0 m1 u lu => by
  rcases lu with ⟨cs, l, e1, rfl⟩ | ⟨e1, _⟩
  · cases e1
    exact hP l _ ⟨d, m, 0, rfl, d0, m0, m1, Int.le_refl _, by decide⟩
  · cases e1⟩
/-- a number is drawn -/
theorem x_dip {ρ : Env} {i : Nat} {w : Int} {B : Nat} {a : Addr} {t : T} {EX : Exc → T → Prop} {P : T → T → Prop} (e : ρ[i]? = some (some t)) (hj : Jar (B + 1) a t) (hw : 0 < w) (hw2 : w < 10 ^ 100) (h : ∀ q t', 0 ≤ q → q < w → Jar B a t' → P (.d (.int q)) t') :
    ∃ t, ρ[i]? = some (some t) ∧ leafys [T.d (.int w)] = true ∧ spI_L_dip t [.d (.int w)] EX P :=
  ⟨t, e, rfl, B, a, w, hj, rfl, wd_small hw hw2, h⟩
/-- a comprehension, by its places -/
theorem lcM_ix {g : Tg} {me : ME} {cond : MT} {vs : List Nat} {P : T → Env → Prop} (Inv : Nat → List T → Env → Prop) : ∀ {cs : List T} {k0 : Nat} {ys : List T} {ρ : Env},
    (∀ k c, cs[k]? = some c → ∀ ys ρ, Inv (k0 + k) ys ρ → ∀ N : List T → Env → Prop, (∀ ys' ρ', Inv (k0 + k + 1) ys' ρ' → N ys' ρ') → tgA g c ρ fun ρ1 => cond ρ1 EX0 fun b ρ2 => if b = true then me ρ2 EX0 fun y ρ3 => ys.length < sizeLine ∧ N (ys ++ [y]) (killv vs ρ3) else N ys (killv vs ρ2)) →
    Inv k0 ys ρ → (∀ ys' ρ', Inv (k0 + cs.length) ys' ρ' → P (.nd .lst ys') ρ') → lcM g cond me vs cs ys ρ P
  | [], k0, ys, ρ, _, h0, hP => lcM_nil (hP ys ρ h0)
  | c :: cs, k0, ys, ρ, h, h0, hP => by
    have step := h 0 c rfl ys ρ h0 (fun ys' ρ' => lcM g cond me vs cs ys' ρ' P) fun ys' ρ' h1 => lcM_ix Inv (cs := cs) (k0 := k0 + 1) (fun k d hk ys2 ρ2 h2 N hN2 => by
      have e : k0 + 1 + k = k0 + (k + 1) := by omega
      rw [e] at h2 hN2
      exact h (k + 1) d hk ys2 ρ2 h2 N hN2) h1 fun ys2 ρ2 h2 => hP ys2 ρ2 (by rw [List.length_cons, ← Nat.add_assoc, Nat.add_right_comm]; exact h2)
    exact lcM_cons step
/-- L_jar(script, k): slots script, k, cell_here -/
def m_L_jar : MS := (mSeq (mSet 2 (mIf (tVal (mOp oLt [.b 1, .e (mOp oLenA [.b 0])])) (mOp oAbs [.e (mOp oIxG [.b 0, .b 1])]) (mC (.int 0))))
  (mSeq (mRet (mLst [.e (mOp oMax [.e (mC (.int 0)), .e (mOp oSub [.b 2, .e (mOp oPow [.e (mC (.int 10)), .e (mC (.int 18))])])]), .e (mOp oAddA [.e (mOp oMulA [.e (mOp oMod [.e (mOp oInt [.b 2]), .e (mOp oAddA [.e (mOp oPow [.e (mC (.int 10)), .e (mC (.int 43))]), .e (mC (.int 57))])]), .e (mC (.int 101))]), .e (mOp oMulA [.e (mC (.int 70001)), .b 1])]), .e (mC (.int 0))]))
  mNext))

/-- L_dip(jar, many): slots jar, many, digit, mixed -/
def m_L_dip : MS := (mSeq (mIfS (tVal (mOp oGt [.e (mRd 0 (bIx (bVar 0) (mC (.int 0)))), .e (mC (.int 0))]))
    (mSeq (mSet 2 (mOp oMod [.e (mOp oInt [.e (mRd 0 (bIx (bVar 0) (mC (.int 0))))]), .b 1]))
  (mSeq (mSetP 0 (bVar 0) (mC (.int 0)) (mOp oDiv [.e (mRd 0 (bIx (bVar 0) (mC (.int 0)))), .b 1]))
  (mSeq (mRet (mVar 2))
  mNext)))
    mNext)
  (mKill [2] (mSeq (mSetP 0 (bVar 0) (mC (.int 2)) (mOp oAddA [.e (mRd 0 (bIx (bVar 0) (mC (.int 2)))), .e (mC (.int 1))]))
  (mSeq (mSet 3 (mOp oMod [.e (mOp oInt [.e (mOp oPow [.e (mOp oAddA [.e (mRd 0 (bIx (bVar 0) (mC (.int 1)))), .e (mOp oMulA [.e (mC (.int 60000049)), .e (mRd 0 (bIx (bVar 0) (mC (.int 2))))])]), .e (mC (.int 3))])]), .e (mOp oAddA [.e (mOp oPow [.e (mC (.int 10)), .e (mC (.int 47))]), .e (mC (.int 91))])]))
  (mSeq (mSet 3 (mOp oMod [.e (mOp oInt [.e (mOp oPow [.e (mOp oAddA [.b 3, .e (mOp oMulA [.e (mC (.int 35000021)), .e (mRd 0 (bIx (bVar 0) (mC (.int 2))))])]), .e (mC (.int 3))])]), .e (mOp oAddA [.e (mOp oPow [.e (mC (.int 10)), .e (mC (.int 46))]), .e (mC (.int 79))])]))
  (mSeq (mRet (mOp oMod [.e (mOp oInt [.e (mOp oDiv [.b 3, .e (mC (.int 1073741827))])]), .b 1]))
  mNext))))))

/-- L_many(jar): slots jar -/
def m_L_many : MS := (mSeq (mRet (mOp oAddA [.e (mC (.int 1)), .e (mCallI spI_L_dip 0 [.e (mOp oIxG [.e (mLst [.e (mC (.int 3)), .e (mC (.int 50)), .e (mOp oPow [.e (mC (.int 10)), .e (mC (.int 26))])]), .e (mCallI spI_L_dip 0 [.e (mC (.int 3))])])])]))
  mNext)


theorem abs_nn {i : Int} : 0 ≤ (if i < 0 then -i else i) := by split <;> omega
theorem re_L_jar : Ref sp0_L_jar 2 3 m_L_jar := by
  intro ts EX Q _ _ ⟨s, ns, k, e, h0, h1, hQ⟩
  subst e
  unfold m_L_jar
  have fin : ∀ c : Int, 0 ≤ c → (mSeq (mRet (mLst [.e (mOp oMax [.e (mC (.int 0)), .e (mOp oSub [.b 2, .e (mOp oPow [.e (mC (.int 10)), .e (mC (.int 18))])])]), .e (mOp oAddA [.e (mOp oMulA [.e (mOp oMod [.e (mOp oInt [.b 2]), .e (mOp oAddA [.e (mOp oPow [.e (mC (.int 10)), .e (mC (.int 43))]), .e (mC (.int 57))])]), .e (mC (.int 101))]), .e (mOp oMulA [.e (mC (.int 70001)), .b 1])]), .e (mC (.int 0))]))
  mNext) [some (.scr s ns), some (.d (.int k)), some (.d (.int c))] (fun x _ => EX x) { nx := fun _ => Q (.d .none), rt := fun u _ => Q u } := by
    intro c hc
    walk_at "x"
    refine x_lst ?_
    walk_at "x"
    refine x_IC (.inl ⟨by decide +kernel, by decide +kernel, by decide +kernel⟩) ?_
    walk_at "x"
    refine x_IC (.inl ⟨by decide +kernel, by decide +kernel, by decide +kernel⟩) ?_
    walk_at "x"
    refine x_IC (by decide +kernel) ?_
    walk_at "x"
    have p43 : (10 : Int) ^ Int.toNat 43 + 57 = 10000000000000000000000000000000000000000057 := by decide +kernel
    rw [p43]
    have hm0 : 0 ≤ c % 10000000000000000000000000000000000000000057 := Int.emod_nonneg _ (by decide)
    have hm1 : c % 10000000000000000000000000000000000000000057 < 10000000000000000000000000000000000000000057 := Int.emod_lt_of_pos _ (by decide)
    refine x_mul (CMulV.small' (by decide) (by decide)) ?_
    walk_at "x"
    refine x_mul (CMulV.small (by decide) (by decide)) ?_
    walk_at "x"
    refine ⟨x_small (by show 3 ≤ _; decide), hQ _ _ (Int.le_max_left _ _) (by omega) ?_⟩
    have p60 : (10 : Int) ^ 60 = 1000000000000000000000000000000000000000000000000000000000000 := by decide +kernel
    rw [p60]
    omega
  walk_at "x"
  refine x_len ?_ (show (T.scr s ns).size = some ns.length from rfl)
  walk_at "x"
  refine x_ite (fun hk => ?_) fun hk => ?_
  · walk_at "x"
    have hi : k.toNat < ns.length := by omega
    refine x_ix (ns.map fun n => T.d (.int n)) rfl (u := .d (.int ns[k.toNat])) (atI_nat h0 (by rw [List.getElem?_map, List.getElem?_eq_getElem hi]; rfl)) ?_
    walk_at "x"
    exact fin _ abs_nn
  · walk_at "x"
    exact fin 0 (Int.le_refl _)
theorem bits_le {i : Int} {b : Nat} (h : i.natAbs < 2 ^ b) (h0 : 0 < i) : Builtin.Int.intBits i ≤ b := PyProof.Rows.intBits_le h
theorem cpow3 {i : Int} (h0 : 2 ≤ i) (h1 : i < 10 ^ 70) : CPowV i 3 := by
  refine .inl ⟨h0, by decide, ?_⟩
  have hb : Builtin.Int.intBits i ≤ 300 := bits_le (by
    have h2 : (10 : Int) ^ 70 < 2 ^ 300 := by decide +kernel
    have h3 : i < 2 ^ 300 := Int.lt_trans h1 h2
    have e : ((2 ^ 300 : Nat) : Int) = 2 ^ 300 := by norm_cast
    omega) (by omega)
  omega
theorem re_L_dip : RefI spI_L_dip 2 4 m_L_dip := by
  intro t ts EX Q _ _ ⟨B, a, w, hj, e2, hw, hQ⟩
  subst e2
  obtain ⟨d, m, n, rfl, hd, hm0, hm1, hn0, hn1⟩ := hj
  refine ⟨a, rfl, ?_⟩
  have e0 : startE 4 [jarT a d m n, .d (.int w)] = [some (jarT a d m n), some (.d (.int w)), none, none] := rfl
  rw [e0]
  unfold m_L_dip
  walk_at "x"
  refine x_ite (fun hr => ?_) fun hr => ?_
  · walk_at "x"
    refine x_IC hw.1 ?_
    walk_at "x"
    refine x_IC (divw hw) ?_
    refine x_setc' 0 rfl rfl rfl ?_
    walk_at "x"
    exact ⟨_, rfl, rfl, hQ _ _ (Int.emod_nonneg _ (by have := hw.1; omega)) (Int.emod_lt_of_pos _ hw.1) ⟨_, m, n, rfl, Int.ediv_nonneg hd (by have := hw.1; omega), hm0, hm1, hn0, by omega⟩⟩
  · walk_at "x"
    refine x_setc' 2 rfl rfl rfl ?_
    walk_at "x"
    have p60 : (10 : Int) ^ 60 = 1000000000000000000000000000000000000000000000000000000000000 := by decide +kernel
    have p70 : (10 : Int) ^ 70 = 10000000000000000000000000000000000000000000000000000000000000000000000 := by decide +kernel
    have p47 : (10 : Int) ^ Int.toNat 47 + 91 = 100000000000000000000000000000000000000000000091 := by decide +kernel
    rw [p60] at hm1
    refine x_mul (CMulV.small (by decide) (by decide)) ?_
    walk_at "x"
    refine x_IC (cpow3 (by omega) (by rw [p70]; omega)) ?_
    walk_at "x"
    refine x_IC (.inl ⟨by decide +kernel, by decide +kernel, by decide +kernel⟩) ?_
    walk_at "x"
    rw [p47]
    refine x_IC (by decide +kernel) ?_
    walk_at "x"
    generalize hy : (m + 60000049 * (n + 1)) ^ Int.toNat 3 % 100000000000000000000000000000000000000000000091 = y
    have y0 : 0 ≤ y := hy ▸ Int.emod_nonneg _ (by decide)
    have y1 : y < 100000000000000000000000000000000000000000000091 := hy ▸ Int.emod_lt_of_pos _ (by decide)
    refine x_mul (CMulV.small (by decide) (by decide)) ?_
    walk_at "x"
    refine x_IC (cpow3 (by omega) (by rw [p70]; omega)) ?_
    walk_at "x"
    refine x_IC (.inl ⟨by decide +kernel, by decide +kernel, by decide +kernel⟩) ?_
    walk_at "x"
    refine x_IC (by decide +kernel) ?_
    walk_at "x"
    refine x_IC ⟨by decide, by decide +kernel⟩ ?_
    walk_at "x"
    refine x_IC hw.1 ?_
    exact ⟨_, rfl, rfl, hQ _ _ (Int.emod_nonneg _ (by have := hw.1; omega)) (Int.emod_lt_of_pos _ hw.1) ⟨d, m, n + 1, rfl, hd, hm0, by rw [p60]; exact hm1, by omega, by omega⟩⟩
theorem x_pick3 {R : T → Prop} {a b c : PyData} {q : Int} (h0 : 0 ≤ q) (h1 : q < 3) (h : ∀ d, d = a ∨ d = b ∨ d = c → R (.d d)) : oIxG [.nd .lst [.d a, .d b, .d c], .d (.int q)] R := by
  have e : q = 0 ∨ q = 1 ∨ q = 2 := by omega
  rcases e with rfl | rfl | rfl
  · exact x_ix _ rfl (u := .d a) (atI_nat (by decide) rfl) (h a (.inl rfl))
  · exact x_ix _ rfl (u := .d b) (atI_nat (by decide) rfl) (h b (.inr (.inl rfl)))
  · exact x_ix _ rfl (u := .d c) (atI_nat (by decide) rfl) (h c (.inr (.inr rfl)))
theorem re_L_many : RefI spI_L_many 1 1 m_L_many := by
  intro t ts EX Q _ _ ⟨B, a, hj, e2, hQ⟩
  subst e2
  refine ⟨a, hj.adr, ?_⟩
  have e0 : startE 1 [t] = [some t] := rfl
  rw [e0]
  unfold m_L_many
  walk_at "x"
  refine x_lst ?_
  walk_at "x"
  refine x_IC (.inl ⟨by decide +kernel, by decide +kernel, by decide +kernel⟩) ?_
  walk_at "x"
  refine ⟨x_small (by show 3 ≤ _; decide), ?_⟩
  walk_at "x"
  refine x_dip rfl hj (by decide) (by decide +kernel) fun q t1 q0 q1 hj1 => ?_
  refine x_pick3 q0 q1 fun x hx => ?_
  have hx2 : ∃ v : Int, x = .int v ∧ 1 ≤ v ∧ v ≤ 10 ^ 26 := by
    rcases hx with rfl | rfl | rfl
    · exact ⟨_, rfl, by decide, by decide +kernel⟩
    · exact ⟨_, rfl, by decide, by decide +kernel⟩
    · exact ⟨_, rfl, by decide +kernel, by decide +kernel⟩
  obtain ⟨v, rfl, v1, v2⟩ := hx2
  walk_at "x"
  refine x_dip rfl hj1 (by omega) (Int.lt_of_le_of_lt v2 (by decide +kernel)) fun r t2 r0 r1 hj2 => ?_
  walk_at "x"
  exact ⟨t2, rfl, hj2.adr, hQ _ _ (by omega) (by omega) hj2⟩

end FA.X.Y.V.J
set_option Elab.async false
set_option linter.all false
set_option maxRecDepth 100000
set_option maxHeartbeats 1000000
namespace FA.X.Y.V.J
open PySem PySem.Spec PyProof.Rows L2
local macro_rules | `(tactic| walk_at "x") => `(tactic| repeat (first
  | with_reducible refine x_seq ?_ | with_reducible refine x_set ?_ | with_reducible refine x_ret ?_ | with_reducible refine x_Ae ?_ | with_reducible refine x_A0 ?_ | with_reducible refine x_C ?_ | with_reducible refine x_I ?_ | with_reducible refine x_add ?_
  | with_reducible refine x_int ?_ | with_reducible refine x_abs ?_ | with_reducible refine x_bits ?_ | with_reducible refine x_bits' ?_ | with_reducible refine x_setc ?_ | with_reducible refine x_eqI ?_ | with_reducible refine x_fz ?_
  | ((with_reducible refine x_op ?_ ?hn); (case hn => rfl)) | ((with_reducible refine x_call ?_ ?hn); (case hn => rfl))
  | ((with_reducible show mA (Opd.b _ :: _) _ _ _); refine x_Ab rfl rfl ?_) | ((with_reducible show mVar _ _ _ _); refine x_var rfl rfl ?_)
  | ((with_reducible show mRd _ (bIx (bVar _) (mC _)) _ _ _); refine x_rdc rfl rfl rfl rfl rfl ?_)
  | ((with_reducible show mFld _ _ _ _ _ _); refine x_fld rfl rfl rfl ?_) | ((with_reducible show mA (Opd.o _ :: _) _ _ _); refine x_Ao rfl ?_) | with_reducible refine x_calO ?_ | with_reducible refine x_make ?_ | with_reducible refine x_makeK ?_ | with_reducible refine x_fldP ?_
  | ((with_reducible show mCallI _ _ _ _ _ _); refine x_callI (by rfl) (by rfl) ?_) | with_reducible refine x_if ?_ | with_reducible refine x_ifS ?_ | with_reducible refine x_val ?_ | with_reducible refine x_bool ?_
  | with_reducible refine x_neg ?_ | with_reducible refine x_min ?_ | with_reducible refine x_max ?_ | with_reducible refine x_next ?_ | with_reducible refine x_kill ?_ | with_reducible refine x_retN ?_ | with_reducible refine x_tand ?_ | with_reducible refine x_tor ?_
  | with_reducible refine x_chain ?_ | with_reducible refine x_two ?_ | with_reducible refine x_tnot ?_ | with_reducible refine x_and ?_ | with_reducible refine x_or ?_ | with_reducible refine x_not ?_ | with_reducible refine x_drop ?_))


/-- L_days(jar, count_here): slots jar, count_here, way_here, begin, wide, found, spot -/
def m_L_days : MS := (mSeq (mSet 2 (mCallI spI_L_dip 0 [.e (mC (.int 3))]))
  (mSeq (mIfS (tVal (mOp oEq [.b 2, .e (mC (.int 0))]))
    (mSeq (mSet 3 (mCallI spI_L_dip 0 [.b 1]))
  (mSeq (mRet (mOp oTupR [.b 3, .e (mOp oAddA [.e (mOp oAddA [.b 3, .e (mC (.int 1))]), .e (mCallI spI_L_dip 0 [.e (mOp oSub [.b 1, .b 3])])])]))
  mNext))
    mNext)
  (mKill [3] (mSeq (mSet 4 (mFz (mOp oIxG [.e (mLst [.e (mC (.int 5)), .e (mC (.int 2))]), .e (mOp oSub [.b 2, .e (mC (.int 1))])])))
  (mSeq (mSet 5 (mFz (mLc (miR1 (.b 1)) (.n 6) (tVal (mOp oEq [.e (mCallI spI_L_dip 0 [.b 4]), .e (mC (.int 0))])) (mVar 6) [6])))
  (mSeq (mRet (mIf (tVal (mOp oNe [.b 5, .e (mLst [])])) (mOp oTuple [.b 5]) (mTup [.e (mCallI spI_L_dip 0 [.b 1])])))
  mNext))))))


theorem pat_range {n b r : Int} (h0 : 0 ≤ b) (h1 : 0 ≤ r) (h2 : b + r < n) : ∃ p : List Int, rgD b (b + 1 + r) = p.map .int ∧ PatOk n p := by
  refine ⟨(List.range (b + 1 + r - b).toNat).map fun k : Nat => b + (k : Int), ?_, ?_, ?_, ?_⟩
  · unfold rgD
    rw [List.map_map]
    rfl
  · intro z
    have := congrArg List.length z
    rw [List.length_map, List.length_range] at this
    simp at this
    omega
  · rw [List.pairwise_map]
    exact List.pairwise_lt_range.imp fun h => by omega
  · intro x hx
    obtain ⟨k, hk, rfl⟩ := List.mem_map.mp hx
    have := List.mem_range.mp hk
    omega
theorem re_L_days : RefI spI_L_days 2 7 m_L_days := by
  intro t ts EX Q _ _ ⟨B, a, n, hj, e2, h1, h2, hQ⟩
  subst e2
  refine ⟨a, hj.adr, ?_⟩
  have e0 : startE 7 [t, .d (.int n)] = [some t, some (.d (.int n)), none, none, none, none, none] := rfl
  rw [e0]
  unfold m_L_days
  have n100 : n < 10 ^ 100 := Int.lt_of_le_of_lt h2 (by decide +kernel)
  walk_at "x"
  refine x_dip rfl hj (by decide) (by decide +kernel) fun way t1 q0 q1 hj1 => ?_
  walk_at "x"
  refine x_ite (fun hr => ?_) fun hr => ?_
  · walk_at "x"
    refine x_dip rfl hj1 (by omega) n100 fun b t2 b0 b1 hj2 => ?_
    walk_at "x"
    refine x_dip rfl hj2 (by omega) (by omega) fun r t3 r0 r1 hj3 => ?_
    walk_at "x"
    obtain ⟨p, ep, hp⟩ := pat_range (n := n) b0 r0 (by omega)
    refine ⟨_, _, rfl, ⟨by omega, by omega, by omega, by omega⟩, ?_⟩
    rw [ep]
    exact ⟨t3, rfl, hj3.adr, hQ p _ hp (hj3.le (by omega))⟩
  · walk_at "x"
    refine x_lst ?_
    walk_at "x"
    refine ⟨x_small (by show 2 ≤ _; decide), ?_⟩
    walk_at "x"
    refine x_pick' (by omega) (by omega) fun x hx => ?_
    have hx2 : ∃ v : Int, x = .int v ∧ 1 ≤ v ∧ v ≤ 5 := by
      rcases hx with rfl | rfl
      · exact ⟨_, rfl, by decide, by decide⟩
      · exact ⟨_, rfl, by decide, by decide⟩
    obtain ⟨wide, rfl, w1, w2⟩ := hx2
    refine ⟨_, rfl, ?_⟩
    walk_at "x"
    refine x_lc (x_r1 ?_)
    walk_at "x"
    refine x_r1' (by omega) (by omega) ?_
    refine lcM_ix (fun k ys ρ => ∃ (p : List Int) (t' : T), k ≤ 30 ∧ ys = p.map (fun x => T.d (.int x)) ∧ p.Pairwise (· < ·) ∧ (∀ x ∈ p, 0 ≤ x ∧ x < k ∧ x < n) ∧ p.length ≤ k ∧ Jar (B + 38 - k) a t' ∧
      ρ = [some t', some (.d (.int n)), some (.d (.int way)), none, some (.d (.int wide)), none, none]) (k0 := 0) (fun k c hk ys ρ hI N hN => ?_)
      ⟨[], t1, by omega, rfl, List.Pairwise.nil, (fun _ z => by cases z), Nat.le_refl _, hj1.le (by omega), rfl⟩ fun ys ρ hI => ?_
    · obtain ⟨p, t', hk30, rfl, hp, hx, hl, hjk, rfl⟩ := hI
      obtain ⟨hk, rfl⟩ := rng_get hk
      refine x_tn ?_
      walk_at "x"
      refine x_dip rfl (hjk.le (C := B + 38 - (0 + k + 1) + 1) (by omega)) (by omega) (by omega) fun q t2 _ _ hj2 => ?_
      walk_at "x"
      by_cases e : q = 0
      · rw [decide_eq_true e, if_pos rfl]
        walk_at "x"
        refine ⟨x_lt (by rw [List.length_map]; omega), hN _ _ ⟨p ++ [0 + (k : Int)], t2, by omega, by rw [List.map_append]; rfl, ?_, fun x hx' => ?_, by rw [List.length_append, List.length_singleton]; omega, hj2, rfl⟩⟩
        · rw [List.pairwise_append]
          refine ⟨hp, List.pairwise_singleton _ _, fun x hx1 y hy => ?_⟩
          rw [List.mem_singleton.mp hy]
          have := hx x hx1
          omega
        · rcases List.mem_append.mp hx' with hx' | hx'
          · have := hx x hx'
            omega
          · rw [List.mem_singleton.mp hx']
            omega
      · rw [decide_eq_false e, if_neg Bool.false_ne_true]
        refine hN _ _ ⟨p, t2, by omega, rfl, hp, fun x hx' => ?_, by omega, hj2, rfl⟩
        have := hx x hx'
        omega
    · obtain ⟨p, t2, hk30, rfl, hp, hx, hl, hj2, rfl⟩ := hI
      refine ⟨.d (.list (p.map .int)), ?_, ?_⟩
      · have := fz_list (ds := p.map PyData.int)
        rw [List.map_map] at this
        exact this
      walk_at "x"
      refine x_lst ?_
      walk_at "x"
      refine ⟨x_small (by decide), ?_⟩
      cases p with
      | nil =>
        refine ⟨.list [], .list [], rfl, rfl, rfl, ?_⟩
        rw [show PyData.eqv (.list []) (.list []) = true by decide +kernel]
        refine ⟨false, rfl, x_iteF ?_⟩
        refine x_tup ?_
        walk_at "x"
        rw [rng_len] at hj2 hk30
        refine x_dip rfl (hj2.le (C := B + 1) (by omega)) (by omega) n100 fun q t3 r0 r1 hj3 => ?_
        walk_at "x"
        refine x_tup1' ?_
        exact ⟨t3, rfl, hj3.adr, hQ [q] _ ⟨by simp, List.pairwise_singleton _ _, fun x hx => by rw [List.mem_singleton.mp hx]; exact ⟨r0, r1⟩⟩ hj3⟩
      | cons x0 p =>
        refine ⟨.list (x0 :: p |>.map .int), .list [], rfl, ?_, rfl, ?_⟩
        · exact okA_shaped (okA_ints (n := 0) (by omega)) (by decide)
        · rw [show PyData.eqv (.list ((x0 :: p).map .int)) (.list []) = false by simp [PyData.eqv, PyData.eqvAll]]
          refine ⟨true, rfl, x_iteT ?_⟩
          walk_at "x"
          rw [rng_len] at hj2 hk30
          refine ⟨(x0 :: p).map .int, rfl, t2, rfl, hj2.adr, hQ (x0 :: p) _ ⟨by simp, hp, fun x hx' => ?_⟩ (hj2.le (by omega))⟩
          have := hx x hx'
          omega

end FA.X.Y.V.J
set_option Elab.async false
set_option linter.all false
set_option maxRecDepth 100000
set_option maxHeartbeats 1000000
namespace FA.X.Y.V.J
open PySem PySem.Spec PyProof.Rows L2
local macro_rules | `(tactic| walk_at "x") => `(tactic| repeat (first
  | with_reducible refine x_seq ?_ | with_reducible refine x_set ?_ | with_reducible refine x_ret ?_ | with_reducible refine x_Ae ?_ | with_reducible refine x_A0 ?_ | with_reducible refine x_C ?_ | with_reducible refine x_I ?_ | with_reducible refine x_add ?_
  | with_reducible refine x_int ?_ | with_reducible refine x_abs ?_ | with_reducible refine x_bits ?_ | with_reducible refine x_bits' ?_ | with_reducible refine x_setc ?_ | with_reducible refine x_eqI ?_ | with_reducible refine x_fz ?_
  | ((with_reducible refine x_op ?_ ?hn); (case hn => rfl)) | ((with_reducible refine x_call ?_ ?hn); (case hn => rfl))
  | ((with_reducible show mA (Opd.b _ :: _) _ _ _); refine x_Ab rfl rfl ?_) | ((with_reducible show mVar _ _ _ _); refine x_var rfl rfl ?_)
  | ((with_reducible show mRd _ (bIx (bVar _) (mC _)) _ _ _); refine x_rdc rfl rfl rfl rfl rfl ?_)
  | ((with_reducible show mFld _ _ _ _ _ _); refine x_fld rfl rfl rfl ?_) | ((with_reducible show mA (Opd.o _ :: _) _ _ _); refine x_Ao rfl ?_) | with_reducible refine x_calO ?_ | with_reducible refine x_make ?_ | with_reducible refine x_makeK ?_ | with_reducible refine x_fldP ?_
  | ((with_reducible show mCallI _ _ _ _ _ _); refine x_callI (by rfl) (by rfl) ?_) | with_reducible refine x_if ?_ | with_reducible refine x_ifS ?_ | with_reducible refine x_val ?_ | with_reducible refine x_bool ?_
  | with_reducible refine x_neg ?_ | with_reducible refine x_min ?_ | with_reducible refine x_max ?_ | with_reducible refine x_next ?_ | with_reducible refine x_kill ?_ | with_reducible refine x_retN ?_ | with_reducible refine x_tand ?_ | with_reducible refine x_tor ?_
  | with_reducible refine x_chain ?_ | with_reducible refine x_two ?_ | with_reducible refine x_tnot ?_ | with_reducible refine x_and ?_ | with_reducible refine x_or ?_ | with_reducible refine x_not ?_ | with_reducible refine x_drop ?_))


/-- L_family(jar, count_here, size): slots jar, count_here, size, found, turn, one -/
def m_L_family : MS := (mSeq (mSet 3 mDNew)
  (mSeq (mFor (miR1 (.b 2)) (.n 4)
    (mSeq (mSet 5 (mFz (mCallI spI_L_days 0 [.b 1])))
  (mSeq (mDPut 3 (mVar 5) (mOp oAddA [.e (mGetO 3 (mVar 5) (mC (.int 0))), .e (mCallI spI_L_many 0 [])]))
  (mKill [4, 5] mNext))))
  (mKill [4, 5] (mLock 3 (mSeq (mRet (mFz (mOp oSorted [.e (mLc (miK (mVar 3)) (.n 5) tYesM (mTup [.e (mVar 5), .e (mOp oDGet [.b 3, .b 5])]) [5])])))
  mNext)))))


theorem getT_int {q : List L2.Key} : ∀ {ks : List (List L2.Key)} {cs : List Int}, (∀ c ∈ cs, 1 ≤ c) → ∃ v : Int, getT ks (cs.map .int) q (.int 0) = .int v ∧ 0 ≤ v
  | [], cs, _ => ⟨0, rfl, Int.le_refl _⟩
  | k :: ks, [], _ => ⟨0, rfl, Int.le_refl _⟩
  | k :: ks, c :: cs, h => by
    rw [List.map_cons, getT]
    by_cases e : k = q
    · have := h c List.mem_cons_self
      rw [if_pos e]
      exact ⟨c, rfl, by omega⟩
    · rw [if_neg e]
      exact getT_int fun d hd => h d (List.mem_cons_of_mem _ hd)
theorem dGet_zip {q : List L2.Key} {x : PyData} : ∀ {ks : List (List L2.Key)} {xs : List PyData} {i : Nat}, ks.Nodup → ks[i]? = some q → xs[i]? = some x → dGet (List.zipWith (fun k x => (.tuple (k.map keyP), x)) ks xs) q = some x
  | [], _, _, _, h, _ => by cases h
  | _ :: _, [], _, _, _, h => by cases h
  | k :: ks, y :: xs, 0, _, h1, h2 => by
    cases h1; cases h2
    rw [List.zipWith_cons_cons]
    exact dGet_pos rfl
  | k :: ks, y :: xs, i + 1, hn, h1, h2 => by
    rw [List.nodup_cons] at hn
    have h1' : ks[i]? = some q := h1
    have hne : k ≠ q := fun z => hn.1 (by rw [z]; exact List.mem_of_getElem? h1')
    rw [List.zipWith_cons_cons, dGet_neg hne]
    exact dGet_zip hn.2 h1' h2
def keyPair (kvs : List (PyData × PyData)) : T → T
  | .d d => .d (.tuple [d, ((keyD d).bind (dGet kvs)).getD .none])
  | c => c
theorem keyPair_tup {kvs : List (PyData × PyData)} {q : List L2.Key} {x : PyData} (h : dGet kvs q = some x) : keyPair kvs (.d (.tuple (q.map keyP))) = .d (.tuple [.tuple (q.map keyP), x]) := by
  show T.d (.tuple [.tuple (q.map keyP), ((keyD (.tuple (q.map keyP))).bind (dGet kvs)).getD .none]) = _
  rw [keyD_keyP, Option.bind_some, h]
  rfl
theorem key_pairs {ks : List (List L2.Key)} {xs : List PyData} (hl : ks.length = xs.length) (hn : ks.Nodup) : ((List.zipWith (fun k x => (PyData.tuple (k.map keyP), x)) ks xs).map fun p => T.d p.1).map (keyPair (List.zipWith (fun k x => (.tuple (k.map keyP), x)) ks xs)) = (itemsT ks xs).map T.d := by
  refine List.ext_getElem? fun i => ?_
  rw [List.getElem?_map, List.getElem?_map, List.getElem?_map]
  unfold itemsT
  rw [List.getElem?_zipWith, List.getElem?_zipWith]
  by_cases h : i < ks.length
  · have h2 : i < xs.length := by omega
    rw [List.getElem?_eq_getElem h, List.getElem?_eq_getElem h2]
    show some (keyPair _ (T.d (.tuple (ks[i].map keyP)))) = some (T.d (.tuple [.tuple (ks[i].map keyP), xs[i]]))
    rw [keyPair_tup (dGet_zip hn (List.getElem?_eq_getElem h) (List.getElem?_eq_getElem h2))]
  · rw [List.getElem?_eq_none (by omega), List.getElem?_eq_none (by omega)]
    rfl
theorem re_L_family : RefI spI_L_family 3 6 m_L_family := by
  intro t ts EX Q _ _ ⟨B, a, n, size, hj, e2, h1, h2, h3, h4, hQ⟩
  subst e2
  refine ⟨a, hj.adr, ?_⟩
  have e0 : startE 6 [t, .d (.int n), .d (.int size)] = [some t, some (.d (.int n)), some (.d (.int size)), none, none, none] := rfl
  rw [e0]
  unfold m_L_family
  walk_at "x"
  refine x_dnew ?_
  refine x_for (x_r1 ?_)
  walk_at "x"
  refine x_r1' (by omega) (by omega) ?_
  refine forM_ix (fun k ρ => ∃ (ks : List (List L2.Key)) (cs : List Int) (t' : T), k ≤ 40 ∧ ks.length = cs.length ∧ (∀ q ∈ ks, ∃ p : List Int, q = p.map Sum.inl ∧ PatOk n p) ∧ (∀ c ∈ cs, 1 ≤ c) ∧ ks.length ≤ k ∧ (1 ≤ k → ks ≠ []) ∧ ks.Nodup ∧ Jar (B + 2000 - 42 * k) a t' ∧
    ρ = [some t', some (.d (.int n)), some (.d (.int size)), some (.nd (.dT ks) ((cs.map PyData.int).map T.d)), none, none]) (k0 := 0) (fun k c hk ρ hI N hN => ?_)
    ⟨[], [], t, by omega, rfl, (fun _ z => by cases z), (fun _ z => by cases z), Nat.le_refl _, (fun z => absurd z (by decide)), List.nodup_nil, hj.le (by omega), rfl⟩ fun ρ hI => ?_
  · obtain ⟨ks, cs, t', hk40, l, hks, hcs, hl, hne, hnd, hjk, rfl⟩ := hI
    obtain ⟨hk, rfl⟩ := rng_get hk
    refine x_tn ?_
    walk_at "x"
    refine ⟨t', rfl, rfl, B + 2000 - 42 * (0 + k + 1) + 2, a, n, hjk.le (by omega), rfl, h1, h2, fun p t2 hp hj2 => ?_⟩
    walk_at "x"
    refine ⟨_, rfl, ?_⟩
    walk_at "x"
    refine x_dput ?_
    walk_at "x"
    refine ⟨⟨_, _, rfl⟩, ?_⟩
    walk_at "x"
    refine ⟨_, _, ks, cs.map .int, _, rfl, keysOf_ints, rfl, rfl, ?_⟩
    obtain ⟨v, ev, hv⟩ := getT_int (q := p.map Sum.inl) (ks := ks) hcs
    rw [ev]
    walk_at "x"
    refine ⟨t2, rfl, rfl, B + 2000 - 42 * (0 + k + 1), a, hj2, rfl, fun q t3 q0 q1 hj3 => ?_⟩
    walk_at "x"
    refine ⟨⟨_, rfl⟩, ?_⟩
    walk_at "x"
    refine ⟨_, _, _, _, rfl, keysOf_ints, rfl, rfl, x_lt (by omega), ?_⟩
    rw [dVs_map]
    walk_at "x"
    refine hN _ ⟨dKs ks (p.map Sum.inl), dVs ks cs (p.map Sum.inl) (v + q), t3, by omega, dVs_len l, fun r hr => ?_, fun c hc => ?_, ?_, fun _ z => ?_, dKs_nodup hnd, hj3, rfl⟩
    · rcases dKs_mem hr with hr | rfl
      · exact hks r hr
      · exact ⟨p, rfl, hp⟩
    · rcases dVs_mem hc with hc | rfl
      · exact hcs c hc
      · omega
    · have := dKs_len (ks := ks) (k := p.map Sum.inl)
      omega
    · unfold dKs at z
      split at z
      · rename_i hh
        rw [z] at hh
        cases hh
      · simp at z
  · obtain ⟨ks, cs, t', hk40, l, hks, hcs, hl, hne, hnd, hjk, rfl⟩ := hI
    rw [rng_len] at hl hk40 hne hjk
    obtain ⟨f, ef, lf, hf, hf1, ek⟩ := items_fam l hks hcs
    have hnf : (f.map fun x => x.1).Nodup := by
      have h2 : ((f.map fun x => x.1).map fun p : List Int => p.map (Sum.inl (β := Str))).Nodup := by
        rw [List.map_map]
        exact ek ▸ hnd
      exact nodup_of_map h2
    walk_at "x"
    refine ⟨ks, cs.map .int, rfl, ?_⟩
    walk_at "x"
    refine x_lc ?_
    show miK _ _ _ _
    unfold miK
    walk_at "x"
    refine ⟨_, rfl, ?_⟩
    refine lcM_map (keyPair (List.zipWith (fun k x => (.tuple (k.map keyP), x)) ks (cs.map .int))) (fun c hc Q hQ => ?_) ?_ ?_
    · obtain ⟨i, hi⟩ := List.mem_iff_getElem?.mp hc
      rw [List.getElem?_map, List.getElem?_zipWith] at hi
      cases ei : ks[i]? with
      | none => rw [ei] at hi; cases hi
      | some q =>
        cases ei2 : (cs.map PyData.int)[i]? with
        | none => rw [ei, ei2] at hi; cases hi
        | some x =>
          rw [ei, ei2] at hi
          cases hi
          refine x_tn ?_
          walk_at "x"
          refine x_tup ?_
          walk_at "x"
          have eg := dGet_zip hnd ei ei2
          refine ⟨_, _, q, x, rfl, keyD_keyP q, eg, ?_⟩
          walk_at "x"
          refine x_tup2' ?_
          have := hQ [some t', some (.d (.int n)), some (.d (.int size)), some (.d (dictD ks (cs.map .int))), none, some (.d (.tuple (q.map keyP)))] rfl
          have e3 := keyPair_tup eg
          exact e3 ▸ this
    · rw [List.length_map, List.length_zipWith, List.length_map]
      omega
    · rw [key_pairs (by rw [List.length_map]; exact l) hnd]
      walk_at "x"
      rw [ef]
      refine ⟨_, f.map pairD, rfl, rfl, kids_ds, nods_pairs, PySem.W.AllAlike.of fun a b => ?_, PySem.W.Sortable.tuples fun a => ⟨_, _, rfl⟩, fun d hd => ?_, ?_⟩
      · show PySem.W.alike (.tuple [.tuple (a.1.map .int), .int a.2]) (.tuple [.tuple (b.1.map .int), .int b.2]) = true
        simp [PySem.W.alike, PySem.W.alikeAll, PySem.W.alike_ints]
      · obtain ⟨a, _, rfl⟩ := List.mem_map.mp hd
        show PyData.depth (.tuple [.tuple (a.1.map .int), .int a.2]) < 40
        simp [PyData.depth, PyData.depthAll, PySem.W.depth_ints]
      · have em := List.map_mergeSort (r := fun a b => PySem.W.dataLe false id (pairD a) (pairD b)) (s := PySem.W.dataLe false id) (f := pairD) (l := f) (fun a _ b _ => rfl)
        rw [← em]
        refine ⟨_, fz_list, t', rfl, hjk.adr, hQ _ _ ⟨by rw [List.length_mergeSort, lf]; omega, fun x hx => hf x ((List.mergeSort_perm _ _).mem_iff.mp hx)⟩ ⟨fam_sorted hnf, fun x hx => hf1 x ((List.mergeSort_perm _ _).mem_iff.mp hx)⟩ (fun hs z => ?_) ?_ (hjk.le (by omega))⟩
        · have := congrArg List.length z
          rw [List.length_mergeSort, lf] at this
          exact hne (by omega) (List.length_eq_zero_iff.mp this)
        · rw [List.length_mergeSort, lf]
          omega

end FA.X.Y.V.J
set_option Elab.async false
set_option linter.all false
set_option maxRecDepth 100000
set_option maxHeartbeats 1000000
namespace FA.X.Y.V.J
open PySem PySem.Spec PyProof.Rows L2
local macro_rules | `(tactic| walk_at "x") => `(tactic| repeat (first
  | with_reducible refine x_seq ?_ | with_reducible refine x_set ?_ | with_reducible refine x_ret ?_ | with_reducible refine x_Ae ?_ | with_reducible refine x_A0 ?_ | with_reducible refine x_C ?_ | with_reducible refine x_I ?_ | with_reducible refine x_add ?_
  | with_reducible refine x_int ?_ | with_reducible refine x_abs ?_ | with_reducible refine x_bits ?_ | with_reducible refine x_bits' ?_ | with_reducible refine x_setc ?_ | with_reducible refine x_eqI ?_ | with_reducible refine x_fz ?_
  | ((with_reducible refine x_op ?_ ?hn); (case hn => rfl)) | ((with_reducible refine x_call ?_ ?hn); (case hn => rfl))
  | ((with_reducible show mA (Opd.b _ :: _) _ _ _); refine x_Ab rfl rfl ?_) | ((with_reducible show mVar _ _ _ _); refine x_var rfl rfl ?_)
  | ((with_reducible show mRd _ (bIx (bVar _) (mC _)) _ _ _); refine x_rdc rfl rfl rfl rfl rfl ?_)
  | ((with_reducible show mFld _ _ _ _ _ _); refine x_fld rfl rfl rfl ?_) | ((with_reducible show mA (Opd.o _ :: _) _ _ _); refine x_Ao rfl ?_) | with_reducible refine x_calO ?_ | with_reducible refine x_make ?_ | with_reducible refine x_makeK ?_ | with_reducible refine x_fldP ?_
  | ((with_reducible show mCallI _ _ _ _ _ _); refine x_callI (by rfl) (by rfl) ?_) | with_reducible refine x_if ?_ | with_reducible refine x_ifS ?_ | with_reducible refine x_val ?_ | with_reducible refine x_bool ?_
  | with_reducible refine x_neg ?_ | with_reducible refine x_min ?_ | with_reducible refine x_max ?_ | with_reducible refine x_next ?_ | with_reducible refine x_kill ?_ | with_reducible refine x_retN ?_ | with_reducible refine x_tand ?_ | with_reducible refine x_tor ?_
  | with_reducible refine x_chain ?_ | with_reducible refine x_two ?_ | with_reducible refine x_tnot ?_ | with_reducible refine x_and ?_ | with_reducible refine x_or ?_ | with_reducible refine x_not ?_ | with_reducible refine x_drop ?_))


/-- L_sheet(some, count_here, wide): slots some, count_here, wide, spot, found, one, number_here, day_here, later_day, row_here, back_here -/
def m_L_sheet : MS := (mSeq (mSet 4 (mLc (miR1 (.b 1)) (.n 3) tYesM (mOp oMulA [.e (mLst [.e (mC (.int 0))]), .e (mOp oAddA [.b 3, .e (mC (.int 1))])]) [3]))
  (mSeq (mFor (miS (mVar 0)) (.t [(.n 5), (.n 6)])
    (mSeq (mFor (miZ (mVar 5) (mOp oAddA [.e (mOp oSlLo [.b 5, .e (mC (.int 1))]), .e (mTup [.e (mVar 1)])])) (.t [(.n 7), (.n 8)])
    (mSeq (mFor (miR2 (.b 7) (.b 8)) (.n 3)
    (mSeq (mSet 9 (mLend 4 (bIx (bVar 4) (mVar 3))))
  (mSeq (mSetP 9 (bVar 9) (mOp oSub [.b 3, .b 7]) (mOp oAddA [.e (mRd 9 (bIx (bVar 9) (mOp oSub [.b 3, .b 7]))), .b 6]))
  (mBack 4 9 (mKill [3, 9] mNext)))))
  (mKill [3, 7, 8, 9] mNext)))
  (mKill [3, 5, 6, 7, 8, 9] mNext)))
  (mKill [3, 5, 6, 7, 8, 9] (mSeq (mForO 4 9
    (mSeq (mFor (miR2 (.e (mC (.int 1))) (.e (mOp oLenA [.o 9]))) (.n 10)
    (mSeq (mSetP 9 (bVar 9) (mVar 10) (mOp oAddA [.e (mRd 9 (bIx (bVar 9) (mVar 10))), .e (mRd 9 (bIx (bVar 9) (mOp oSub [.b 10, .e (mC (.int 1))])))]))
  (mKill [10] mNext)))
  (mKill [10] mNext)))
  (mKill [9, 10] (mSeq (mRet (mFz (mLc (miS (mFrz 4)) (.n 9) tYesM (mOp oSlHi [.b 9, .b 2]) [9])))
  mNext))))))


theorem x_lend {i : Nat} {mb : MB} {ρ : Env} {EX : EXk} {P : T → Env → Prop} (h : mb ρ EX fun t p ρ' => ∃ ds, atP p t = some (.nd .lst ds) ∧ ∀ a, P (.nd (.lsa a) ds) (ρ'.set i (some (updP p t (.tok .hole a))))) : mLend i mb ρ EX P := h
def shEnv (f : Fam) (many wide : Nat) (m : Nat → Nat → Int) (o n d l : Option T) : Env := [some (.d (famD f)), some (.d (.int many)), some (.d (.int wide)), none, some (matT many m), o, n, d, l, none, none]
theorem atP_upd {many d : Nat} {m : Nat → Nat → Int} {u : T} (h : d < many) : atP [d] (updP [d] (matT many m) u) = some u := by
  unfold matT
  rw [upd_one (mat_get h)]
  exact at_one (by rw [List.getElem?_set_self (by rw [List.length_map, List.length_range]; exact h)])
theorem upd_upd2 {many d : Nat} {m : Nat → Nat → Int} {u v : T} (h : d < many) : updP [d] (updP [d] (matT many m) u) v = updP [d] (matT many m) v := by
  unfold matT
  rw [upd_one (mat_get h), upd_one (mat_get h), upd_one (c := u) (by rw [List.getElem?_set_self (by rw [List.length_map, List.length_range]; exact h)]), List.set_set]
/-- the days of a pattern, and the last one's end -/
theorem ends_at {p : List Int} {many : Int} (hpw : p.Pairwise (· < ·)) (hlim : ∀ x ∈ p, 0 ≤ x ∧ x < many) {j : Nat} {s y : Int} (h1 : p[j]? = some s) (h2 : (p.drop 1 ++ [many])[j]? = some y) :
    s ∈ p ∧ s < y ∧ y ≤ many ∧ (∀ d, d < y → met p (s + 1) d = false) ∧ (p ++ [many])[j + 1]? = some y := by
  have hs : s ∈ p := List.mem_of_getElem? h1
  have hj : j < p.length := (List.getElem?_eq_some_iff.mp h1).1
  have hL : (p ++ [many])[j + 1]? = some y := by
    cases p with
    | nil => cases h1
    | cons a p' => exact h2
  have hpL : (p ++ [many]).Pairwise (· < ·) := List.pairwise_append.mpr ⟨hpw, List.pairwise_singleton _ _, fun x hx z hz => by rw [List.mem_singleton.mp hz]; exact (hlim x hx).2⟩
  have hLs : (p ++ [many])[j]? = some s := by rw [List.getElem?_append_left hj]; exact h1
  have lt := List.pairwise_iff_getElem.mp hpL
  have gj := List.getElem?_eq_some_iff.mp hLs
  have gy := List.getElem?_eq_some_iff.mp hL
  have hsy : s < y := by
    have := lt j (j + 1) gj.1 gy.1 (by omega)
    rw [gj.2, gy.2] at this
    exact this
  have hym : y ≤ many := by
    rcases List.mem_append.mp (List.mem_of_getElem? hL) with h | h
    · have := hlim y h
      omega
    · rw [List.mem_singleton.mp h]
      exact Int.le_refl _
  refine ⟨hs, hsy, hym, fun d hd => Bool.eq_false_iff.mpr fun z => ?_, hL⟩
  obtain ⟨x, hx, q1, q2⟩ := met_iff.mp z
  obtain ⟨i, hi⟩ := List.mem_iff_getElem?.mp hx
  have hi2 : i < p.length := (List.getElem?_eq_some_iff.mp hi).1
  have hiL : (p ++ [many])[i]? = some x := by rw [List.getElem?_append_left hi2]; exact hi
  have gi := List.getElem?_eq_some_iff.mp hiL
  by_cases c : i ≤ j
  · by_cases c2 : i = j
    · subst c2
      rw [h1] at hi
      cases hi
      omega
    · have := lt i j gi.1 gj.1 (by omega)
      rw [gi.2, gj.2] at this
      omega
  · by_cases c2 : i = j + 1
    · subst c2
      rw [hL] at hiL
      cases hiL
      omega
    · have := lt (j + 1) i gy.1 gi.1 (by omega)
      rw [gi.2, gy.2] at this
      omega
theorem re_L_sheet : Ref sp_L_sheet 3 11 m_L_sheet := by
  intro ts EX Q _ _ ⟨f, many, wide, e, hf, hm, hw, hQ⟩
  subst e
  unfold m_L_sheet
  walk_at "x"
  refine x_lc (x_r1 ?_)
  walk_at "x"
  refine x_r1' (by omega) (by omega) ?_
  refine lcM_map (fun c => match c with | .d (.int k) => .nd .lst (rowT (k.toNat + 1) fun _ => 0) | _ => c) (fun c hc Q hQ => ?_) (by rw [rng_len]; omega) ?_
  · obtain ⟨k, hk⟩ := List.mem_iff_getElem?.mp hc
    obtain ⟨hk, rfl⟩ := rng_get hk
    refine x_tn ?_
    walk_at "x"
    refine x_lst ?_
    walk_at "x"
    refine ⟨x_small (by decide), ?_⟩
    walk_at "x"
    have e : 0 + (k : Int) + 1 = ((k + 1 : Nat) : Int) := by omega
    rw [e]
    refine x_rep (by omega) ?_
    have := hQ [some (.d (famD f)), some (.d (.int many)), some (.d (.int wide)), some (.d (.int (0 + (k : Int)))), none, none, none, none, none, none, none] rfl
    have e2 : (0 + (k : Int)).toNat + 1 = k + 1 := by omega
    dsimp only at this
    rw [e2] at this
    exact this
  · -- the matrix of noughts
    have e0 : (T.nd .lst ((rngT 0 (many : Int).toNat).map fun c => match c with | .d (.int k) => .nd .lst (rowT (k.toNat + 1) fun _ => 0) | _ => c)) = matT many (mF (f.take 0)) := by
      unfold matT rngT
      rw [List.map_map, Int.toNat_natCast]
      congr 1
      refine List.map_congr_left fun d _ => ?_
      show T.nd .lst (rowT ((0 + (d : Int)).toNat + 1) fun _ => 0) = _
      rw [show (0 + (d : Int)).toNat = d by omega]
      rfl
    rw [e0]
    walk_at "x"
    refine x_for (x_miS ?_)
    walk_at "x"
    refine ⟨_, kids_famD, ?_⟩
    refine forM_ix (fun i ρ => ρ = shEnv f many wide (mF (f.take i)) none none none none) (k0 := 0) (fun i c hc ρ hI N hN => ?_) rfl fun ρ hI => ?_
    · obtain ⟨x, hx, rfl⟩ := famList hc
      rw [Nat.zero_add] at hI
      rw [Nat.zero_add] at hN
      subst hI
      have hxf := hf.2 x (List.mem_of_getElem? hx)
      obtain ⟨⟨hne, hpw, hlim⟩, _⟩ := hxf
      have hpl : x.1.length ≤ 1000 := pat_small ⟨hne, hpw, hlim⟩ (by omega)
      obtain ⟨a, p', hap⟩ : ∃ a p', x.1 = a :: p' := by
        cases hp : x.1 with
        | nil => exact absurd hp hne
        | cons a p' => exact ⟨a, p', rfl⟩
      have haIn : a ∈ x.1 := by rw [hap]; exact List.mem_cons_self
      have hale : ∀ y ∈ x.1, a ≤ y := fun y hy => by
        rw [hap] at hy hpw
        rcases List.mem_cons.mp hy with rfl | hy
        · exact Int.le_refl _
        · have := (List.pairwise_cons.mp hpw).1 y hy
          omega
      have hab := hlim a haIn
      unfold shEnv
      refine x_tt2 (x_tn (x_tn ?_))
      walk_at "x"
      refine x_for (x_zp ?_)
      walk_at "x"
      refine x_slT ?_
      walk_at "x"
      refine x_tup ?_
      walk_at "x"
      refine x_tup1' ?_
      rw [FA.cut1]
      refine ⟨x_small (by rw [List.length_drop, List.length_map, List.length_singleton]; omega), ?_⟩
      walk_at "x"
      refine ⟨_, _, x.1.map .int, (x.1.drop 1 ++ [(many : Int)]).map .int, rfl, rfl, rfl, ?_, ?_⟩
      · show some ((List.drop 1 (x.1.map PyData.int) ++ [PyData.int many]).map T.d) = _
        rw [List.map_append, ← List.map_drop, List.map_append, List.map_append]
        rfl
      have hzl : (zpT (x.1.map .int) ((x.1.drop 1 ++ [(many : Int)]).map .int)).length = x.1.length := by
        rw [zpT_length, List.length_map, List.length_map, List.length_append, List.length_drop, List.length_singleton, hap, List.length_cons]
        omega
      refine forM_ix (fun j ρ => ∃ s, (x.1 ++ [(many : Int)])[j]? = some s ∧ a ≤ s ∧ ρ = shEnv f many wide (mIn f i x a (s - a).toNat) (some (.d (.tuple (x.1.map .int)))) (some (.d (.int x.2))) none none) (k0 := 0) (fun j c hc ρ hI N2 hN2 => ?_) ⟨a, by rw [hap]; rfl, Int.le_refl _, by rw [Int.sub_self, show (0 : Int).toNat = 0 from rfl, mIn_zero]; rfl⟩ fun ρ hI => ?_
      · obtain ⟨s, hs, has, rfl⟩ := hI
        rw [Nat.zero_add] at hs hN2
        obtain ⟨x1, y1, ex, ey, rfl⟩ := zpT_get _ _ _ _ hc
        rw [List.getElem?_map] at ex ey
        obtain ⟨s1, hs1, rfl⟩ := Option.map_eq_some_iff.mp ex
        obtain ⟨y, hy, rfl⟩ := Option.map_eq_some_iff.mp ey
        have hj : j < x.1.length := (List.getElem?_eq_some_iff.mp hs1).1
        rw [List.getElem?_append_left hj, hs1] at hs
        cases hs
        obtain ⟨hsm, hsy, hym, hmet, hL⟩ := ends_at hpw hlim hs1 hy
        have hs0 := hlim s hsm
        unfold shEnv
        refine x_tt2 (x_tn (x_tn ?_))
        walk_at "x"
        refine x_for (x_r2 ?_)
        walk_at "x"
        refine x_r2' (by omega) ?_
        refine forM_ix (fun l ρ => ρ = shEnv f many wide (mIn f i x a ((s - a).toNat + l)) (some (.d (.tuple (x.1.map .int)))) (some (.d (.int x.2))) (some (.d (.int s))) (some (.d (.int y)))) (k0 := 0) (fun l c hc ρ hI N3 hN3 => ?_) rfl fun ρ hI => ?_
        · rw [Nat.zero_add] at hI hN3
          subst hI
          obtain ⟨hl, rfl⟩ := rng_get hc
          obtain ⟨d0, hd0⟩ : ∃ d0 : Nat, (d0 : Int) = s + l := ⟨(s + l).toNat, by omega⟩
          have hdm : d0 < many := by omega
          have hkd : l < d0 + 1 := by omega
          unfold shEnv
          refine x_tn ?_
          rw [← hd0]
          walk_at "x"
          refine x_lend (x_bIx (x_bVar rfl ?_))
          walk_at "x"
          refine x_key (kd := .lst) rfl rfl (ixN_nat (by rw [List.length_map, List.length_range]; exact hdm)) ?_
          refine ⟨_, mat_at1 hdm, fun aa => ?_⟩
          walk_at "x"
          refine x_setP ?_
          have ek : (d0 : Int) - s = (l : Int) := by omega
          walk_at "x"
          refine x_mRd (x_bIx (x_bVar rfl ?_))
          walk_at "x"
          rw [ek]
          refine ⟨(l : Int), .lsa aa, _, l, rfl, rfl, rfl, ixN_nat (by rw [rowT_len]; exact hkd), ?_⟩
          refine ⟨_, atP_snoc (kd := .lsa aa) rfl (rowT_get hkd) (p := []) rfl, rfl, ?_⟩
          walk_at "x"
          refine x_bVar rfl ?_
          walk_at "x"
          rw [ek]
          refine ⟨(l : Int), .lsa aa, _, l, rfl, rfl, rfl, ixN_nat (by rw [rowT_len]; exact hkd), ?_⟩
          refine ⟨_, [d0], aa, _, rfl, atP_upd hdm, rfl, ?_⟩
          have eu : updP [d0] (updP ([] ++ [d0]) (matT many (mIn f i x a ((s - a).toNat + l))) (.tok .hole aa)) (.nd .lst ((rowT (d0 + 1) (mIn f i x a ((s - a).toNat + l) d0)).set l (.d (.int (mIn f i x a ((s - a).toNat + l) d0 l + x.2))))) = matT many (mIn f i x a ((s - a).toNat + l + 1)) := by
            show updP [d0] (updP [d0] _ _) _ = _
            rw [upd_upd2 hdm, mat_upd hdm hkd]
            exact mIn_step (s := s) (by omega) hsm (by omega) (hmet _ (by omega)) (by omega)
          have eu2 : updP [] (T.nd (.lsa aa) (rowT (d0 + 1) (mIn f i x a ((s - a).toNat + l) d0))) (T.nd (.lsa aa) ((rowT (d0 + 1) (mIn f i x a ((s - a).toNat + l) d0)).set l (.d (.int (mIn f i x a ((s - a).toNat + l) d0 l + x.2))))) = T.nd (.lsa aa) ((rowT (d0 + 1) (mIn f i x a ((s - a).toNat + l) d0)).set l (.d (.int (mIn f i x a ((s - a).toNat + l) d0 l + x.2)))) := rfl
          refine x_kill ?_
          refine hN3 _ ?_
          have := congrArg (fun t => [some (T.d (famD f)), some (T.d (.int many)), some (T.d (.int wide)), none, some t, some (.d (.tuple (x.1.map .int))), some (.d (.int x.2)), some (.d (.int s)), some (.d (.int y)), none, none]) eu
          exact this
        · rw [rng_len, Nat.zero_add] at hI
          subst hI
          unfold shEnv
          walk_at "x"
          refine hN2 _ ⟨y, hL, by omega, ?_⟩
          rw [show (s - a).toNat + (y - s).toNat = (y - a).toNat by omega]
          rfl
      · obtain ⟨s, hs, has, rfl⟩ := hI
        rw [hzl, Nat.zero_add, List.getElem?_append_right (Nat.le_refl _), Nat.sub_self] at hs
        cases hs
        unfold shEnv
        rw [mIn_all hx hale (by omega)]
        walk_at "x"
        exact hN _ rfl
    · -- the sums along the rows
      have hlen : (f.map fun x => T.d (pairD x)).length = f.length := List.length_map _
      rw [hlen, Nat.zero_add, List.take_length] at hI
      subst hI
      unfold shEnv
      walk_at "x"
      refine x_forO ((List.range many).map fun d => rowT (d + 1) (mF f d)) (by unfold matT; rw [List.map_map]; rfl) fun l => ?_
      refine forO_rows (m := mF f) (m' := fun d => psum (mF f d)) (fun d hd a N hN => ?_) ?_
      · have hdm := List.mem_range.mp hd
        refine x_for (x_r2 ?_)
        walk_at "x"
        refine x_opO ?_
        refine x_Ao rfl ?_
        walk_at "x"
        refine x_len ?_ (n := d + 1) (by show some (rowT (d + 1) (mF f d)).length = _; rw [rowT_len])
        refine x_r2' (by omega) ?_
        refine forM_ix (fun j ρ => ρ = [some (.d (famD f)), some (.d (.int many)), some (.d (.int wide)), none, some (.tok .hole l), none, none, none, none, some (.nd (.lsa a) (rowT (d + 1) fun k => if k < j + 1 then psum (mF f d) k else mF f d k)), none]) (k0 := 0) (fun j c hc ρ hI N2 hN2 => ?_) ?_ fun ρ hI => ?_
        · obtain ⟨hj, rfl⟩ := rng_get hc
          rw [Nat.zero_add] at hI hN2
          subst hI
          have hj2 : j + 1 < d + 1 := by omega
          refine x_tn ?_
          walk_at "x"
          refine x_setP ?_
          walk_at "x"
          refine x_mRd (x_bIx (x_bVar rfl ?_))
          walk_at "x"
          rw [show (1 : Int) + (j : Int) = ((j + 1 : Nat) : Int) by omega]
          refine ⟨((j + 1 : Nat) : Int), .lsa a, _, j + 1, rfl, rfl, rfl, ixN_nat (by rw [rowT_len]; exact hj2), ?_⟩
          refine ⟨_, atP_snoc (kd := .lsa a) rfl (rowT_get hj2) (p := []) rfl, rfl, ?_⟩
          walk_at "x"
          refine x_mRd (x_bIx (x_bVar rfl ?_))
          walk_at "x"
          rw [show ((j + 1 : Nat) : Int) - 1 = ((j : Nat) : Int) by omega]
          refine ⟨((j : Nat) : Int), .lsa a, _, j, rfl, rfl, rfl, ixN_nat (by rw [rowT_len]; omega), ?_⟩
          refine ⟨_, atP_snoc (kd := .lsa a) rfl (rowT_get (by omega)) (p := []) rfl, rfl, ?_⟩
          walk_at "x"
          refine x_bVar rfl ?_
          walk_at "x"
          refine ⟨((j + 1 : Nat) : Int), .lsa a, _, j + 1, rfl, rfl, rfl, ixN_nat (by rw [rowT_len]; exact hj2), ?_⟩
          rw [if_neg (Nat.lt_irrefl _), if_pos (Nat.lt_succ_self _)]
          have er : (rowT (d + 1) fun k => if k < j + 1 then psum (mF f d) k else mF f d k).set (j + 1) (T.d (.int (mF f d (j + 1) + psum (mF f d) j))) = rowT (d + 1) fun k => if k < j + 1 + 1 then psum (mF f d) k else mF f d k := by
            rw [rowT_set hj2]
            congr 1
            funext k
            by_cases e : k = j + 1
            · subst e
              rw [if_pos rfl, if_pos (Nat.lt_succ_self _)]
              show _ = psum (mF f d) j + mF f d (j + 1)
              omega
            · rw [if_neg e]
              by_cases q : k < j + 1
              · rw [if_pos q, if_pos (by omega)]
              · rw [if_neg q, if_neg (by omega)]
          walk_at "x"
          refine hN2 _ ?_
          rw [← er]
          rfl
        · have e1 : (rowT (d + 1) fun k => if k < 0 + 1 then psum (mF f d) k else mF f d k) = rowT (d + 1) (mF f d) := by
            congr 1
            funext k
            by_cases q : k < 0 + 1
            · rw [if_pos q, show k = 0 by omega]
              rfl
            · rw [if_neg q]
          rw [e1]
          rfl
        · rw [rng_len, Nat.zero_add] at hI
          subst hI
          have e1 : (rowT (d + 1) fun k => if k < (((d + 1 : Nat) : Int) - 1).toNat + 1 then psum (mF f d) k else mF f d k) = rowT (d + 1) (psum (mF f d)) := by
            unfold rowT
            refine List.map_congr_left fun k hk => ?_
            have := List.mem_range.mp hk
            dsimp only
            rw [if_pos (by omega)]
          rw [e1]
          walk_at "x"
          exact hN _ rfl rfl
      · refine ⟨rfl, ?_⟩
        rw [List.nil_append]
        walk_at "x"
        refine x_lc (x_miS ?_)
        refine x_frz rfl (fz_rows (l := List.range many) (n := fun d => d + 1) (r := fun d => psum (mF f d))) ?_
        refine ⟨_, kids_shD, ?_⟩
        refine lcM_map (fun c => match c.kids with | some cs => .nd .lst (cutL cs none (some (wide : Int))) | none => c) (fun c hc Q hQ => ?_) (by rw [List.length_map, List.length_map, List.length_range]; omega) ?_
        · obtain ⟨r, hr, rfl⟩ := List.mem_map.mp hc
          refine x_tn ?_
          walk_at "x"
          refine ⟨rfl, _, kids_rowD, ?_⟩
          have := hQ [some (.d (famD f)), some (.d (.int many)), some (.d (.int wide)), none, some (.d (shD ((List.range many).map fun d => (List.range (d + 1)).map (psum (mF f d))))), none, none, none, none, some (.d (rowD r)), none] rfl
          rw [kids_rowD] at this
          exact this
        · refine ⟨_, ?_, hQ⟩
          rw [List.map_map, List.map_map]
          have e1 : (List.range many).map ((fun c => match T.kids c with | some cs => T.nd .lst (cutL cs none (some (wide : Int))) | none => c) ∘ (fun r => T.d (rowD r)) ∘ fun d => (List.range (d + 1)).map (psum (mF f d))) = (List.range many).map fun d => T.nd .lst (rowT (min (d + 1) wide) fun k => cnt f ((d : Int) - (k : Int)) d) := by
            refine List.map_congr_left fun d _ => ?_
            show (match T.kids (T.d (rowD ((List.range (d + 1)).map (psum (mF f d))))) with | some cs => T.nd .lst (cutL cs none (some (wide : Int))) | none => T.d (rowD ((List.range (d + 1)).map (psum (mF f d))))) = _
            rw [kids_rowD]
            show T.nd .lst (cutL (((List.range (d + 1)).map (psum (mF f d))).map fun x => T.d (.int x)) none (some (wide : Int))) = _
            congr 1
            unfold cutL
            rw [List.map_map, List.length_map, List.length_range, HT_none, HT_nat, List.drop_zero, Nat.sub_zero, ← List.map_take, List.take_range]
            unfold rowT
            rw [show min (min wide (d + 1)) (d + 1) = min (d + 1) wide by omega]
            refine List.map_congr_left fun k _ => ?_
            show T.d (.int (psum (mF f d) k)) = _
            rw [psum_cnt]
          exact (congrArg (fun l => (T.nd .lst l).fz) e1).trans fz_rows

end FA.X.Y.V.J
set_option Elab.async false
set_option linter.all false
set_option maxRecDepth 100000
set_option maxHeartbeats 1000000
namespace FA.X.Y.V.J
open PySem PySem.Spec PyProof.Rows L2
local macro_rules | `(tactic| walk_at "x") => `(tactic| repeat (first
  | with_reducible refine x_seq ?_ | with_reducible refine x_set ?_ | with_reducible refine x_ret ?_ | with_reducible refine x_Ae ?_ | with_reducible refine x_A0 ?_ | with_reducible refine x_C ?_ | with_reducible refine x_I ?_ | with_reducible refine x_add ?_
  | with_reducible refine x_int ?_ | with_reducible refine x_abs ?_ | with_reducible refine x_bits ?_ | with_reducible refine x_bits' ?_ | with_reducible refine x_setc ?_ | with_reducible refine x_eqI ?_ | with_reducible refine x_fz ?_
  | ((with_reducible refine x_op ?_ ?hn); (case hn => rfl)) | ((with_reducible refine x_call ?_ ?hn); (case hn => rfl))
  | ((with_reducible show mA (Opd.b _ :: _) _ _ _); refine x_Ab rfl rfl ?_) | ((with_reducible show mVar _ _ _ _); refine x_var rfl rfl ?_)
  | ((with_reducible show mRd _ (bIx (bVar _) (mC _)) _ _ _); refine x_rdc rfl rfl rfl rfl rfl ?_)
  | ((with_reducible show mFld _ _ _ _ _ _); refine x_fld rfl rfl rfl ?_) | ((with_reducible show mA (Opd.o _ :: _) _ _ _); refine x_Ao rfl ?_) | with_reducible refine x_calO ?_ | with_reducible refine x_make ?_ | with_reducible refine x_makeK ?_ | with_reducible refine x_fldP ?_
  | ((with_reducible show mCallI _ _ _ _ _ _); refine x_callI (by rfl) (by rfl) ?_) | with_reducible refine x_if ?_ | with_reducible refine x_ifS ?_ | with_reducible refine x_val ?_ | with_reducible refine x_bool ?_
  | with_reducible refine x_neg ?_ | with_reducible refine x_min ?_ | with_reducible refine x_max ?_ | with_reducible refine x_next ?_ | with_reducible refine x_kill ?_ | with_reducible refine x_retN ?_ | with_reducible refine x_tand ?_ | with_reducible refine x_tor ?_
  | with_reducible refine x_chain ?_ | with_reducible refine x_two ?_ | with_reducible refine x_tnot ?_ | with_reducible refine x_and ?_ | with_reducible refine x_or ?_ | with_reducible refine x_not ?_ | with_reducible refine x_drop ?_))


/-! ### the program's functions on sheets, exactly -/
def sp_width_in : Spec := fun ts _ P => ∃ s w, ts = [.d (shD s)] ∧ SheetOk s w ∧ P (.d (.int w))
def sp_away_of : Spec := fun ts _ P => ∃ s w d, ts = [.d (shD s), .d (.int d)] ∧ SheetOk s w ∧ 0 ≤ d ∧ d < s.length ∧ P (.d (.int (Away s w d)))
def sp_fresh_of : Spec := fun ts _ P => ∃ s w d, ts = [.d (shD s), .d (.int d)] ∧ SheetOk s w ∧ 0 ≤ d ∧ d < s.length ∧ P (.d (.int (Fresh s w d)))
abbrev G3 := Int × Int × Int
def gapsL (s : Sh) (w : Nat) : List G3 := (gapsN s w s.length).filter fun x => !decide (x.2.2 = 0)
def sp_all_gaps : Spec := fun ts _ P => ∃ s w, ts = [.d (shD s)] ∧ SheetOk s w ∧ P (.d (.list ((gapsL s w).map tup3)))
def fwS (s : Sh) (w : Nat) (d : Int) : Int := sumF (Fresh s w) (d + w) (s.length - (d + w)).toNat
def newV (s : Sh) (w : Nat) (d : Int) : Int × Int := (max 0 (Fresh s w d - awS s w d), Fresh s w d)
def goneV (s : Sh) (w : Nat) (d : Int) : Int × Int := (max 0 (Away s w d - fwS s w d), Away s w d)
def nextV (s : Sh) (w : Nat) (i j : Int) : Int × Int := if j - i < w then (Gap s i j, Gap s i j) else (0, min (Away s w i) (Fresh s w j))
def sp_gone_in : Spec := fun ts _ P => ∃ s w d, ts = [.d (shD s), .d (.int d)] ∧ SheetOk s w ∧ 0 ≤ d ∧ d < s.length ∧ P (.d (tp (goneV s w d)))
def sp_gone_range : Spec := fun ts _ P => ∃ s w d, ts = [.d (shD s), .d (.int d)] ∧ SheetOk s w ∧ Feas s w ∧ 0 ≤ d ∧ d < s.length ∧ P (.d (tp (goneV s w d)))
def sp_next_in : Spec := fun ts _ P => ∃ s w i j, ts = [.d (shD s), .d (.int i), .d (.int j)] ∧ SheetOk s w ∧ 0 ≤ i ∧ i < j ∧ j < s.length ∧ P (.d (tp (nextV s w i j)))
def sp_next_range : Spec := fun ts _ P => ∃ s w i j, ts = [.d (shD s), .d (.int i), .d (.int j)] ∧ SheetOk s w ∧ Feas s w ∧ 0 ≤ i ∧ i < j ∧ j < s.length ∧ P (.d (tp (nextV s w i j)))
/-- width_in(sheet): slots sheet -/
def m_width_in : MS := (mSeq (mDrop (mCall sp_need_sheet [.b 0]))
  (mSeq (mRet (mFz (mCall sp_width_told [.b 0])))
  mNext))

/-- away_of(sheet, day): slots sheet, day -/
def m_away_of : MS := (mSeq (mDrop (mCall sp_need_sheet [.b 0]))
  (mSeq (mDrop (mCall sp_need_day [.b 1, .e (mOp oLenA [.b 0])]))
  (mSeq (mRet (mFz (mCall sp_away_in [.b 0, .b 1])))
  mNext)))

/-- fresh_of(sheet, day): slots sheet, day -/
def m_fresh_of : MS := (mSeq (mDrop (mCall sp_need_sheet [.b 0]))
  (mSeq (mDrop (mCall sp_need_day [.b 1, .e (mOp oLenA [.b 0])]))
  (mSeq (mRet (mFz (mCall sp_fresh_in [.b 0, .b 1])))
  mNext)))

/-- all_gaps(sheet): slots sheet, gap -/
def m_all_gaps : MS := (mSeq (mDrop (mCall sp_need_sheet [.b 0]))
  (mSeq (mRet (mFz (mLc (miS (mCall sp_gaps_in [.b 0])) (.n 1) (tVal (mOp oNe [.e (mOp oIxG [.b 1, .e (mC (.int 2))]), .e (mC (.int 0))])) (mVar 1) [1])))
  mNext))

/-- gone_in(sheet, day): slots sheet, day, away, fresh, later -/
def m_gone_in : MS := (mSeq (mSet 2 (mFz (mCall sp_away_in [.b 0, .b 1])))
  (mSeq (mSet 3 (mOp (oInts fun ns P => P (.int ns.sum)) [.e (mLc (miR2 (.e (mOp oAddA [.b 1, .e (mCall sp_width_told [.b 0])])) (.e (mOp oLenA [.b 0]))) (.n 4) tYesM (mCall sp_fresh_in [.b 0, .b 4]) [4])]))
  (mSeq (mRet (mTup [.e (mOp oMax [.e (mC (.int 0)), .e (mOp oSub [.b 2, .b 3])]), .e (mVar 2)]))
  mNext)))

/-- gone_range(sheet, day): slots sheet, day -/
def m_gone_range : MS := (mSeq (mDrop (mCall sp_need_sheet [.b 0]))
  (mSeq (mDrop (mCall sp_need_day [.b 1, .e (mOp oLenA [.b 0])]))
  (mSeq (mDrop (mCall sp_need_possible [.b 0]))
  (mSeq (mRet (mFz (mCall sp_gone_in [.b 0, .b 1])))
  mNext))))

/-- next_in(sheet, first, second): slots sheet, first, second -/
def m_next_in : MS := (mSeq (mIfS (tVal (mOp oLt [.e (mOp oSub [.b 2, .b 1]), .e (mCall sp_width_told [.b 0])]))
    (mSeq (mRet (mTup [.e (mCall sp_gap_in [.b 0, .b 1, .b 2]), .e (mCall sp_gap_in [.b 0, .b 1, .b 2])]))
  mNext)
    mNext)
  (mSeq (mRet (mTup [.e (mC (.int 0)), .e (mOp oMin [.e (mCall sp_away_in [.b 0, .b 1]), .e (mCall sp_fresh_in [.b 0, .b 2])])]))
  mNext))

/-- next_range(sheet, first, second): slots sheet, first, second -/
def m_next_range : MS := (mSeq (mDrop (mCall sp_need_sheet [.b 0]))
  (mSeq (mDrop (mCall sp_need_day [.b 1, .e (mOp oLenA [.b 0])]))
  (mSeq (mDrop (mCall sp_need_day [.b 2, .e (mOp oLenA [.b 0])]))
  (mSeq (mIfS (tVal (mOp oLe [.b 2, .b 1]))
    (mSeq (mRaise "InvalidDay")
  mNext)
    mNext)
  (mSeq (mDrop (mCall sp_need_possible [.b 0]))
  (mSeq (mRet (mFz (mCall sp_next_in [.b 0, .b 1, .b 2])))
  mNext))))))
theorem re_width_in : Ref sp_width_in 1 1 m_width_in := by
  intro ts EX Q _ _ ⟨s, w, e, h, hQ⟩
  subst e
  unfold m_width_in
  walk_at "x"
  refine ⟨_, rfl, need_sheet_ok h ⟨rfl, ?_⟩⟩
  walk_at "x"
  exact ⟨_, rfl, s, w, rfl, h, rfl, _, rfl, hQ⟩
theorem re_away_of : Ref sp_away_of 2 2 m_away_of := by
  intro ts EX Q _ _ ⟨s, w, d, e, h, h1, h2, hQ⟩
  subst e
  unfold m_away_of
  walk_at "x"
  refine ⟨_, rfl, need_sheet_ok h ⟨rfl, ?_⟩⟩
  walk_at "x"
  refine x_len ?_ size_shD
  refine ⟨_, rfl, _, _, rfl, fun z => absurd ⟨h1, h2⟩ z, fun _ _ => ⟨rfl, ?_⟩⟩
  walk_at "x"
  exact ⟨_, rfl, s, w, _, rfl, h, h1, h2, rfl, _, rfl, hQ⟩
theorem re_fresh_of : Ref sp_fresh_of 2 2 m_fresh_of := by
  intro ts EX Q _ _ ⟨s, w, d, e, h, h1, h2, hQ⟩
  subst e
  unfold m_fresh_of
  walk_at "x"
  refine ⟨_, rfl, need_sheet_ok h ⟨rfl, ?_⟩⟩
  walk_at "x"
  refine x_len ?_ size_shD
  refine ⟨_, rfl, _, _, rfl, fun z => absurd ⟨h1, h2⟩ z, fun _ _ => ⟨rfl, ?_⟩⟩
  walk_at "x"
  exact ⟨_, rfl, s, w, _, rfl, h, h1, h2, rfl, _, rfl, hQ⟩
theorem re_all_gaps : Ref sp_all_gaps 1 2 m_all_gaps := by
  intro ts EX Q _ _ ⟨s, w, e, h, hQ⟩
  subst e
  unfold m_all_gaps
  walk_at "x"
  refine ⟨_, rfl, need_sheet_ok h ⟨rfl, ?_⟩⟩
  walk_at "x"
  refine x_lc (x_miS ?_)
  walk_at "x"
  refine ⟨_, rfl, s, w, rfl, h, rfl, ?_⟩
  refine ⟨((gapsN s w s.length).map tup3).map T.d, rfl, ?_⟩
  rw [List.map_map]
  have hl := gapsN_len (s := s) (w := w) h.l30 s.length
  have h30 := h.l30
  refine lcM_fm (fun c => !decide ((unG c).2.2 = 0)) id (fun c hc Q Z hq hz => ?_) (by rw [List.length_map]; show 0 + _ ≤ _; omega) ?_
  · obtain ⟨x, hx, rfl⟩ := List.mem_map.mp hc
    refine x_tn ?_
    walk_at "x"
    refine x_ix (cs := [T.d (.int x.1), T.d (.int x.2.1), T.d (.int x.2.2)]) rfl (u := .d (.int x.2.2)) (atI_nat (by decide) rfl) ?_
    walk_at "x"
    refine x_neI ?_
    refine ⟨_, rfl, ?_⟩
    by_cases e : x.2.2 = 0
    · rw [decide_eq_true e]
      refine x_iteF ?_
      exact hz (by show (!decide (x.2.2 = 0)) = false; rw [decide_eq_true e]; rfl) _ rfl
    · rw [decide_eq_false e]
      refine x_iteT ?_
      walk_at "x"
      exact hq (by show (!decide (x.2.2 = 0)) = true; rw [decide_eq_false e]; rfl) _ rfl
  · rw [List.map_id, List.nil_append]
    have e : ((gapsN s w s.length).map (T.d ∘ tup3)).filter (fun c => !decide ((unG c).2.2 = 0)) = ((gapsL s w).map tup3).map T.d := by
      rw [List.filter_map, List.map_map]
      rfl
    rw [e]
    exact ⟨_, fz_list, hQ⟩
theorem re_gone_in : Ref sp_gone_in 2 5 m_gone_in := by
  intro ts EX Q _ _ ⟨s, w, d, e, h, h0, h1, hQ⟩
  subst e
  have h30 := h.l30
  have hw := h.w1
  have hwl := h.wl
  unfold m_gone_in
  walk_at "x"
  refine ⟨_, rfl, s, w, _, rfl, h, h0, h1, rfl, _, rfl, ?_⟩
  walk_at "x"
  refine x_lc (x_r2 ?_)
  walk_at "x"
  refine ⟨_, rfl, s, w, rfl, h, rfl, ?_⟩
  walk_at "x"
  refine x_len ?_ size_shD
  refine x_r2' (by omega) ?_
  refine lcM_map (lI (Fresh s w)) (fun c hc Q hQ => ?_) (by rw [rng_len]; omega) ?_
  · obtain ⟨k, hk⟩ := List.mem_iff_getElem?.mp hc
    obtain ⟨hk, rfl⟩ := rng_get hk
    refine x_tn ?_
    walk_at "x"
    exact ⟨_, rfl, s, w, _, rfl, h, by omega, by omega, rfl, hQ _ rfl⟩
  · rw [rng_lI]
    walk_at "x"
    refine x_sum ?_
    walk_at "x"
    refine x_tup ?_
    walk_at "x"
    refine x_tup2' ?_
    exact hQ
theorem re_gone_range : Ref sp_gone_range 2 2 m_gone_range := by
  intro ts EX Q _ _ ⟨s, w, d, e, h, hf, h0, h1, hQ⟩
  subst e
  unfold m_gone_range
  walk_at "x"
  refine ⟨_, rfl, need_sheet_ok h ⟨rfl, ?_⟩⟩
  walk_at "x"
  refine x_len ?_ size_shD
  refine ⟨_, rfl, _, _, rfl, fun z => absurd (by omega) z, fun _ _ => ⟨rfl, ?_⟩⟩
  walk_at "x"
  refine ⟨_, rfl, need_pos h hf ⟨rfl, ?_⟩⟩
  walk_at "x"
  exact ⟨_, rfl, s, w, _, rfl, h, h0, h1, rfl, _, rfl, hQ⟩
theorem re_next_in : Ref sp_next_in 3 3 m_next_in := by
  intro ts EX Q _ _ ⟨s, w, i, j, e, h, h0, h1, h2, hQ⟩
  subst e
  unfold m_next_in
  unfold nextV at hQ
  walk_at "x"
  refine ⟨_, rfl, s, w, rfl, h, rfl, ?_⟩
  walk_at "x"
  refine x_ite (fun z => ?_) fun z => ?_
  · rw [if_pos z] at hQ
    walk_at "x"
    refine x_tup ?_
    walk_at "x"
    refine ⟨_, rfl, s, w, _, _, rfl, h, h0, h1, h2, z, rfl, ?_⟩
    walk_at "x"
    refine ⟨_, rfl, s, w, _, _, rfl, h, h0, h1, h2, z, rfl, ?_⟩
    walk_at "x"
    refine x_tup2' ?_
    exact hQ
  · rw [if_neg z] at hQ
    walk_at "x"
    refine x_tup ?_
    walk_at "x"
    refine ⟨_, rfl, s, w, _, rfl, h, h0, by omega, rfl, ?_⟩
    walk_at "x"
    refine ⟨_, rfl, s, w, _, rfl, h, by omega, h2, rfl, ?_⟩
    walk_at "x"
    refine x_tup2' ?_
    exact hQ
theorem re_next_range : Ref sp_next_range 3 3 m_next_range := by
  intro ts EX Q _ _ ⟨s, w, i, j, e, h, hf, h0, h1, h2, hQ⟩
  subst e
  unfold m_next_range
  walk_at "x"
  refine ⟨_, rfl, need_sheet_ok h ⟨rfl, ?_⟩⟩
  walk_at "x"
  refine x_len ?_ size_shD
  refine ⟨_, rfl, _, _, rfl, fun z => absurd (by omega) z, fun _ _ => ⟨rfl, ?_⟩⟩
  walk_at "x"
  refine x_len ?_ size_shD
  refine ⟨_, rfl, _, _, rfl, fun z => absurd (by omega) z, fun _ _ => ⟨rfl, ?_⟩⟩
  walk_at "x"
  refine x_ite (fun z => absurd z (by omega)) fun _ => ?_
  walk_at "x"
  refine ⟨_, rfl, need_pos h hf ⟨rfl, ?_⟩⟩
  walk_at "x"
  exact ⟨_, rfl, s, w, _, _, rfl, h, h0, h1, h2, rfl, _, rfl, hQ⟩
end FA.X.Y.V.J
set_option Elab.async false
set_option linter.all false
set_option maxRecDepth 100000
set_option maxHeartbeats 1000000
namespace FA.X.Y.V.J
open PySem PySem.Spec PyProof.Rows L2
theorem gsum_z : ∀ {L : List G3} {p : G3 → Bool}, (((L.filter fun x => !decide (x.2.2 = 0)).filter p).map fun x => x.2.2).sum = ((L.filter p).map fun x => x.2.2).sum
  | [], _ => rfl
  | x :: L, p => by
    have ih := gsum_z (L := L) (p := p)
    by_cases z : x.2.2 = 0
    · rw [List.filter_cons_of_neg (by simp [z]), ih]
      by_cases q : p x = true
      · rw [List.filter_cons_of_pos q, List.map_cons, List.sum_cons, z, Int.zero_add]
      · rw [List.filter_cons_of_neg q]
    · rw [List.filter_cons_of_pos (by simp [z])]
      by_cases q : p x = true
      · rw [List.filter_cons_of_pos q, List.filter_cons_of_pos q, List.map_cons, List.map_cons, List.sum_cons, List.sum_cons, ih]
      · rw [List.filter_cons_of_neg q, List.filter_cons_of_neg q, ih]
theorem sum_none {L : List G3} {p : G3 → Bool} (h : ∀ x ∈ L, p x = false) : ((L.filter p).map fun x => x.2.2).sum = 0 := by
  rw [List.filter_eq_nil_iff.mpr fun x hx => by rw [h x hx]; exact Bool.false_ne_true]
  rfl
def lostP (d k : Int) (x : G3) : Bool := decide (x.1 = d) && decide (k ≤ x.2.1)
theorem lost_row {s : Sh} {d k : Int} (hdk : d < k) : ∀ n : Nat, (((gapsR s d n).filter (lostP d k)).map fun x => x.2.2).sum = AwL s d (min (d + n) (k - 1)) - AwL s d (d + n)
  | 0 => by
    rw [show min (d + ((0 : Nat) : Int)) (k - 1) = d + ((0 : Nat) : Int) by omega, Int.sub_self]
    rfl
  | n + 1 => by
    have ih := lost_row (s := s) (d := d) (k := k) hdk n
    have e : gapsR s d (n + 1) = gapsR s d n ++ [(d, d + 1 + (n : Int), Gap s d (d + 1 + (n : Int)))] := by
      unfold gapsR
      rw [List.range_succ, List.map_append]
      rfl
    have st := AwL_step (s := s) (d := d) (l := d + 1 + (n : Int))
    rw [e, List.filter_append, List.map_append, List.sum_append, ih]
    by_cases c : k ≤ d + 1 + (n : Int)
    · rw [List.filter_cons_of_pos (by simp [lostP, c])]
      show _ + (Gap s d (d + 1 + (n : Int)) + 0) = _
      rw [← st, show min (d + (n : Int)) (k - 1) = k - 1 by omega, show min (d + ((n + 1 : Nat) : Int)) (k - 1) = k - 1 by omega, show d + 1 + (n : Int) - 1 = d + n by omega, show d + ((n + 1 : Nat) : Int) = d + 1 + n by omega]
      omega
    · rw [List.filter_cons_of_neg (by simp [lostP, c])]
      show _ + 0 = _
      rw [show min (d + (n : Int)) (k - 1) = d + n by omega, show min (d + ((n + 1 : Nat) : Int)) (k - 1) = d + ((n + 1 : Nat) : Int) by omega]
      omega
theorem lost_all {s : Sh} {w : Nat} {d : Nat} {k : Int} : ∀ n : Nat, (((gapsN s w n).filter (lostP d k)).map fun x => x.2.2).sum = if d < n then (((gapsR s d (lastL s w d - d).toNat).filter (lostP d k)).map fun x => x.2.2).sum else 0
  | 0 => rfl
  | n + 1 => by
    have ih := lost_all (s := s) (w := w) (d := d) (k := k) n
    rw [gapsN_succ, List.filter_append, List.map_append, List.sum_append, ih]
    by_cases c : d = n
    · subst c
      rw [if_neg (Nat.lt_irrefl _), if_pos (Nat.lt_succ_self _), Int.zero_add]
    · have z : (((gapsR s n (lastL s w n - n).toNat).filter (lostP d k)).map fun x => x.2.2).sum = 0 := sum_none fun x hx => by
        unfold gapsR at hx
        obtain ⟨j, _, rfl⟩ := List.mem_map.mp hx
        have : ¬ (n : Int) = d := by omega
        simp [lostP, this]
      rw [z, Int.add_zero]
      by_cases q : d < n
      · rw [if_pos q, if_pos (by omega)]
      · rw [if_neg q, if_neg (by omega)]
/-- the gaps out of a day that are cut off -/
theorem lost_sum {s : Sh} {w : Nat} {d k : Nat} (hw : 1 ≤ w) (hdk : d < k) (hk : k ≤ s.length) : (((gapsL s w).filter (lostP d k)).map fun x => x.2.2).sum = Away (s.take k) (min k w) d - Away s w d := by
  unfold gapsL
  rw [gsum_z, lost_all, if_pos (by omega), lost_row (by omega), away_take hk (by omega) (by omega)]
  have e1 : lastL s w d = min ((d : Int) + w) s.length - 1 := rfl
  have e2 : ((lastL s w d - d).toNat : Int) = lastL s w d - d := by omega
  rw [e2, show (d : Int) + (lastL s w d - d) = lastL s w d by omega, show min (lastL s w d) ((k : Int) - 1) = min ((d : Int) + w) k - 1 by omega]
  rfl
theorem filter_row {s : Sh} {i k : Int} : ∀ n : Nat, (gapsR s i n).filter (fun x => decide (x.2.1 < k)) = gapsR s i (min n (k - i - 1).toNat)
  | 0 => by rw [Nat.zero_min]; rfl
  | n + 1 => by
    have e : ∀ m, gapsR s i (m + 1) = gapsR s i m ++ [(i, i + 1 + (m : Int), Gap s i (i + 1 + (m : Int)))] := fun m => by
      unfold gapsR
      rw [List.range_succ, List.map_append]
      rfl
    rw [e, List.filter_append, filter_row n]
    by_cases c : i + 1 + (n : Int) < k
    · rw [List.filter_cons_of_pos (by simpa using c), show min (n + 1) (k - i - 1).toNat = n + 1 by omega, show min n (k - i - 1).toNat = n by omega, e]
      rfl
    · rw [List.filter_cons_of_neg (by simpa using c), show min (n + 1) (k - i - 1).toNat = min n (k - i - 1).toNat by omega]
      exact List.append_nil _
theorem gapsR_take {s : Sh} {k i : Nat} {n : Nat} (h : i + 1 + n ≤ k) : gapsR (s.take k) i n = gapsR s i n := by
  unfold gapsR
  refine List.map_congr_left fun j hj => ?_
  have := List.mem_range.mp hj
  rw [gap_take (by omega) (by omega) (by omega)]
theorem gapsN_take {s : Sh} {w k : Nat} (hw : 1 ≤ w) (hk : k ≤ s.length) : ∀ n : Nat, n ≤ k → gapsN (s.take k) (min k w) n = (gapsN s w n).filter (fun x => decide (x.2.1 < (k : Int)))
  | 0, _ => rfl
  | n + 1, h => by
    rw [gapsN_succ, gapsN_succ, List.filter_append, gapsN_take hw hk n (by omega), filter_row]
    congr 1
    have e1 : lastL s w n = min ((n : Int) + w) s.length - 1 := rfl
    have e2 : lastL (s.take k) (min k w) n = min ((n : Int) + ((min k w : Nat) : Int)) k - 1 := by
      unfold lastL
      rw [List.length_take]
      omega
    rw [show (lastL (s.take k) (min k w) n - n).toNat = min (lastL s w n - n).toNat ((k : Int) - n - 1).toNat by omega]
    exact gapsR_take (by omega)
theorem gapsN_more {s : Sh} {w : Nat} {k : Nat} : ∀ n : Nat, k ≤ n → (gapsN s w n).filter (fun x => decide (x.2.1 < (k : Int))) = (gapsN s w k).filter (fun x => decide (x.2.1 < (k : Int)))
  | 0, h => by rw [show k = 0 by omega]
  | n + 1, h => by
    by_cases c : k = n + 1
    · rw [c]
    · rw [gapsN_succ, List.filter_append, gapsN_more n (by omega), filter_row, show min (lastL s w n - n).toNat ((k : Int) - n - 1).toNat = 0 by omega]
      exact List.append_nil _
theorem gapsL_take {s : Sh} {w k : Nat} (hw : 1 ≤ w) (hk : k ≤ s.length) : gapsL (s.take k) (min k w) = (gapsL s w).filter (fun x => decide (x.2.1 < (k : Int))) := by
  unfold gapsL
  rw [List.filter_filter, show (s.take k).length = k by rw [List.length_take]; omega, gapsN_take hw hk k (Nat.le_refl _), ← gapsN_more s.length hk, List.filter_filter]
  refine List.filter_congr fun x _ => Bool.and_comm _ _
theorem newV_told {s : Sh} {w : Nat} {d : Int} (hF : Feas s w) (h0 : 0 ≤ d) (h1 : d < s.length) (h2 : d < w) : newV s w d = (Fresh s w d, Fresh s w d) := by
  have e : awS s w d = 0 := by
    unfold awS
    rw [show (d - w + 1).toNat = 0 by omega]
    rfl
  have := Int.not_lt.mp (hF.freshI h0 h1)
  unfold newV
  rw [e, Int.sub_zero, Int.max_eq_right this]
theorem sumF_nn {g : Int → Int} {lo : Int} : ∀ n : Nat, (∀ k : Nat, k < n → 0 ≤ g (lo + k)) → 0 ≤ sumF g lo n
  | 0, _ => Int.le_refl _
  | n + 1, h => by
    have := sumF_nn n fun k hk => h k (by omega)
    have := h n (Nat.lt_succ_self n)
    rw [sumF_s]
    omega
theorem sumF_more {g : Int → Int} {lo : Int} {n : Nat} : ∀ m : Nat, (∀ k : Nat, k < n + m → 0 ≤ g (lo + k)) → sumF g lo n ≤ sumF g lo (n + m)
  | 0, _ => Int.le_refl _
  | m + 1, h => by
    have := sumF_more (g := g) (lo := lo) (n := n) m fun k hk => h k (by omega)
    have := h (n + m) (by omega)
    rw [← Nat.add_assoc, sumF_s]
    omega
theorem goneV_take {s : Sh} {w k : Nat} {d : Int} (hF : Feas s w) (hw : 1 ≤ w) (hwk : w ≤ k) (hk : k ≤ s.length) (h0 : 0 ≤ d) (h1 : d < k) : (goneV s w d).1 ≤ (goneV (s.take k) (min k w) d).1 := by
  have hA := away_more hF hw hk h0 h1
  have hS : fwS (s.take k) (min k w) d ≤ fwS s w d := by
    unfold fwS
    have ew : min k w = w := by omega
    rw [ew, List.length_take, show min k s.length = k by omega]
    by_cases c : d + w < k
    · rw [sumF_congr (g' := Fresh s w) fun j hj => by
        have := fresh_take (s := s) (w := w) (k := k) (d := d + w + j) (by omega) (by omega)
        rw [ew] at this
        exact this]
      have := sumF_more (g := Fresh s w) (lo := d + w) (n := ((k : Int) - (d + w)).toNat) ((s.length : Int) - k).toNat fun j hj => Int.not_lt.mp (hF.freshI (by omega) (by omega))
      rw [show ((k : Int) - (d + w)).toNat + ((s.length : Int) - k).toNat = ((s.length : Int) - (d + w)).toNat by omega] at this
      exact this
    · rw [show ((k : Int) - (d + w)).toNat = 0 by omega]
      exact sumF_nn _ fun j hj => Int.not_lt.mp (hF.freshI (by omega) (by omega))
  show max 0 (Away s w d - fwS s w d) ≤ max 0 (Away (s.take k) (min k w) d - fwS (s.take k) (min k w) d)
  omega
theorem nextV_take {s : Sh} {w k : Nat} {i j : Int} (hwk : w ≤ k) (hk : k ≤ s.length) (h0 : 0 ≤ i) (h1 : i < j) (h2 : j < k) : nextV (s.take k) (min k w) i j = nextV s w i j := by
  unfold nextV
  rw [gap_take h0 h1 h2, fresh_take (by omega) h2, show min k w = w by omega]
  by_cases c : j - i < w
  · rw [if_pos c, if_pos c]
  · have := away_same (s := s) (w := w) hk h0 (by omega) (show i + w ≤ k by omega)
    rw [show min k w = w by omega] at this
    rw [if_neg c, if_neg c, this]
end FA.X.Y.V.J
set_option Elab.async false
set_option linter.all false
set_option maxRecDepth 100000
set_option maxHeartbeats 1000000
namespace FA.X.Y.V.J.K
open PySem PySem.Spec PyProof.Rows L2
local macro_rules | `(tactic| walk_at "x") => `(tactic| repeat (first
  | with_reducible refine x_seq ?_ | with_reducible refine x_set ?_ | with_reducible refine x_ret ?_ | with_reducible refine x_Ae ?_ | with_reducible refine x_A0 ?_ | with_reducible refine x_C ?_ | with_reducible refine x_I ?_ | with_reducible refine x_add ?_
  | with_reducible refine x_int ?_ | with_reducible refine x_abs ?_ | with_reducible refine x_bits ?_ | with_reducible refine x_bits' ?_ | with_reducible refine x_setc ?_ | with_reducible refine x_eqI ?_ | with_reducible refine x_fz ?_
  | ((with_reducible refine x_op ?_ ?hn); (case hn => rfl)) | ((with_reducible refine x_call ?_ ?hn); (case hn => rfl))
  | ((with_reducible show mA (Opd.b _ :: _) _ _ _); refine x_Ab rfl rfl ?_) | ((with_reducible show mVar _ _ _ _); refine x_var rfl rfl ?_)
  | ((with_reducible show mRd _ (bIx (bVar _) (mC _)) _ _ _); refine x_rdc rfl rfl rfl rfl rfl ?_)
  | ((with_reducible show mFld _ _ _ _ _ _); refine x_fld rfl rfl rfl ?_) | ((with_reducible show mA (Opd.o _ :: _) _ _ _); refine x_Ao rfl ?_) | with_reducible refine x_calO ?_ | with_reducible refine x_make ?_ | with_reducible refine x_makeK ?_ | with_reducible refine x_fldP ?_
  | ((with_reducible show mCallI _ _ _ _ _ _); refine x_callI (by rfl) (by rfl) ?_) | with_reducible refine x_if ?_ | with_reducible refine x_ifS ?_ | with_reducible refine x_val ?_ | with_reducible refine x_bool ?_
  | with_reducible refine x_neg ?_ | with_reducible refine x_min ?_ | with_reducible refine x_max ?_ | with_reducible refine x_next ?_ | with_reducible refine x_kill ?_ | with_reducible refine x_retN ?_ | with_reducible refine x_tand ?_ | with_reducible refine x_tor ?_
  | with_reducible refine x_chain ?_ | with_reducible refine x_two ?_ | with_reducible refine x_tnot ?_ | with_reducible refine x_and ?_ | with_reducible refine x_or ?_ | with_reducible refine x_not ?_ | with_reducible refine x_drop ?_))


def spI_L_right : SpecI := fun t ts _ P => ∃ (B : Nat) (a : Addr) (s : Sh) (w k : Nat), Jar (B + 10) a t ∧ ts = [.d (shD s), .d (.int k)] ∧ SheetOk s w ∧ Feas s w ∧ 1 ≤ k ∧ k ≤ s.length ∧ ∀ t', Jar B a t' → P (.d (.bool true)) t'
/-- L_right(jar, sheet_here, fewer): slots jar, sheet_here, fewer, head, wide, one, near, spot, two, lost, turn, part -/
def m_L_right : MS := (mSeq (mPar 3 4 [.e (mFz (mOp oSlHi [.b 1, .b 2])), .e (mCall sp_width_in [.b 1])])
  (mSeq (mIfS (tVal (mOp (oIsN true) [.e (mCall sp_conflict_of [.b 3]), .e (mC .none)]))
    (mSeq (mRet (mC (.bool false)))
  mNext)
    mNext)
  (mSeq (mSet 6 (mFz (mLc (miS (mCall sp_all_gaps [.b 1])) (.n 5) (tVal (mOp oLt [.e (mOp oIxG [.b 5, .e (mC (.int 1))]), .b 2])) (mVar 5) [5])))
  (mSeq (mIfS (tVal (mOp oNe [.e (mCall sp_all_gaps [.b 3]), .b 6]))
    (mSeq (mRet (mC (.bool false)))
  mNext)
    mNext)
  (mSeq (mIfS (tVal (mOp oLt [.b 2, .b 4]))
    (mSeq (mRet (mOp oEq [.e (mCall sp_new_range [.b 3, .e (mOp oSub [.b 2, .e (mC (.int 1))])]), .e (mTup [.e (mCall sp_fresh_of [.b 3, .e (mOp oSub [.b 2, .e (mC (.int 1))])]), .e (mCall sp_fresh_of [.b 3, .e (mOp oSub [.b 2, .e (mC (.int 1))])])])]))
  mNext)
    mNext)
  (mSeq (mFor (miR1 (.b 2)) (.n 7)
    (mSeq (mIfS (tVal (mOp oNe [.e (mCall sp_fresh_of [.b 3, .b 7]), .e (mCall sp_fresh_of [.b 1, .b 7])]))
    (mSeq (mRet (mC (.bool false)))
  mNext)
    mNext)
  (mSeq (mIfS (tVal (mOp oNe [.e (mCall sp_new_range [.b 3, .b 7]), .e (mCall sp_new_range [.b 1, .b 7])]))
    (mSeq (mRet (mC (.bool false)))
  mNext)
    mNext)
  (mSeq (mSet 9 (mOp (oInts fun ns P => P (.int ns.sum)) [.e (mLc (miS (mCall sp_all_gaps [.b 1])) (.t [(.n 5), (.n 8), (.n 11)]) (tAndM (tVal (mOp oEq [.b 5, .b 7])) (tVal (mOp oGe [.b 8, .b 2]))) (mVar 11) [5, 8, 11])]))
  (mSeq (mIfS (tVal (mOp oNe [.e (mCall sp_away_of [.b 3, .b 7]), .e (mOp oAddA [.e (mCall sp_away_of [.b 1, .b 7]), .b 9])]))
    (mSeq (mRet (mC (.bool false)))
  mNext)
    mNext)
  (mSeq (mIfS (tVal (mOp oLt [.e (mOp oIxG [.e (mCall sp_gone_range [.b 3, .b 7]), .e (mC (.int 0))]), .e (mOp oIxG [.e (mCall sp_gone_range [.b 1, .b 7]), .e (mC (.int 0))])]))
    (mSeq (mRet (mC (.bool false)))
  mNext)
    mNext)
  (mKill [7, 9] mNext)))))))
  (mKill [7, 9] (mSeq (mFor (miR1 (.e (mC (.int 3)))) (.n 10)
    (mSeq (mSet 5 (mCallI spI_L_dip 0 [.b 2]))
  (mSeq (mSet 8 (mOp oAddA [.b 5, .e (mCallI spI_L_dip 0 [.e (mOp oSub [.b 2, .b 5])])]))
  (mSeq (mIfS (tVal (mOp oNe [.e (mCall sp_longer_range [.b 3, .b 5, .b 8]), .e (mCall sp_longer_range [.b 1, .b 5, .b 8])]))
    (mSeq (mRet (mC (.bool false)))
  mNext)
    mNext)
  (mSeq (mIfS (tAndM (tVal (mOp oLt [.b 5, .b 8])) (tVal (mOp oNe [.e (mCall sp_next_range [.b 3, .b 5, .b 8]), .e (mCall sp_next_range [.b 1, .b 5, .b 8])])))
    (mSeq (mRet (mC (.bool false)))
  mNext)
    mNext)
  (mKill [5, 8, 10] mNext))))))
  (mKill [5, 8, 10] (mSeq (mRet (mC (.bool true)))
  mNext))))))))))


theorem fz_take {s : Sh} {k : Nat} {R : T → Prop} (h : R (.nd .lst (((s.take k).map rowD).map T.d))) : oSlHi [.d (shD s), .d (.int k)] R := by
  refine ⟨rfl, _, kids_shD, ?_⟩
  have e : cutL (s.map fun r => T.d (rowD r)) none (some (k : Int)) = ((s.take k).map rowD).map T.d := by
    unfold cutL
    rw [List.length_map, HT_none, HT_nat, List.drop_zero, Nat.sub_zero, List.map_map]
    show List.take (min k s.length) (s.map (T.d ∘ rowD)) = _
    rw [← List.map_take]
    congr 1
    rw [List.take_eq_take_iff]
    omega
  rw [e]
  exact h
theorem okA_gaps {L : List G3} (h : L.length ≤ 1000000) : okA 3 (.list (L.map tup3)) := by
  refine ⟨by rw [List.length_map]; exact h, fun y hy => ?_⟩
  obtain ⟨x, _, rfl⟩ := List.mem_map.mp hy
  refine ⟨by show 3 ≤ _; decide, fun z hz => ?_⟩
  rcases List.mem_cons.mp hz with rfl | hz
  · trivial
  rcases List.mem_cons.mp hz with rfl | hz
  · trivial
  rcases List.mem_cons.mp hz with rfl | hz
  · trivial
  · cases hz
theorem okA_tp {x : Int × Int} : okA 2 (tp x) := by
  refine ⟨by show 2 ≤ _; decide, fun z hz => ?_⟩
  rcases List.mem_cons.mp hz with rfl | hz
  · trivial
  rcases List.mem_cons.mp hz with rfl | hz
  · trivial
  · cases hz
theorem gapsL_len {s : Sh} {w : Nat} (h : s.length ≤ 30) : (gapsL s w).length ≤ 900 := by
  have h1 := gapsN_len (s := s) (w := w) h s.length
  have h2 := List.length_filter_le (fun x : G3 => !decide (x.2.2 = 0)) (gapsN s w s.length)
  unfold gapsL
  omega
theorem near_data {L : List G3} {p : G3 → Bool} : (((L.map tup3).map T.d).filter fun c => p (unG c)).map id = ((L.filter p).map tup3).map T.d := by
  rw [List.map_id, List.map_map, List.filter_map, List.map_map]
  rfl
theorem re_L_right : RefI spI_L_right 3 12 m_L_right := by
  intro t ts EX Q _ _ ⟨B, a, s, w, k, hj, e2, h, hF, h1, h2, hQ⟩
  subst e2
  refine ⟨a, hj.adr, ?_⟩
  have e0 : startE 12 [t, .d (shD s), .d (.int k)] = [some t, some (.d (shD s)), some (.d (.int k)), none, none, none, none, none, none, none, none, none] := rfl
  rw [e0]
  have h30 := h.l30
  have hw := h.w1
  have hwl := h.wl
  have ht := take_ok h h1 h2
  have hFt := take_feas h hF h2
  have htl : (s.take k).length = k := by rw [List.length_take]; omega
  unfold m_L_right
  refine x_seq ?_
  refine x_par ?_
  walk_at "x"
  refine fz_take ⟨_, fz_list, ?_⟩
  walk_at "x"
  refine ⟨_, rfl, s, w, rfl, h, rfl, ?_⟩
  refine ⟨_, _, rfl, ?_⟩
  walk_at "x"
  refine ⟨_, rfl, s.take k, min k w, rfl, ht, rfl, ?_⟩
  rw [feas_confl hFt]
  walk_at "x"
  refine ⟨_, rfl, x_iteF ?_⟩
  walk_at "x"
  refine x_lc (x_miS ?_)
  walk_at "x"
  refine ⟨_, rfl, s, w, rfl, h, rfl, ?_⟩
  refine ⟨((gapsL s w).map tup3).map T.d, rfl, ?_⟩
  have hgl := gapsL_len (s := s) (w := w) h30
  refine lcM_fm (fun c => decide ((unG c).2.1 < (k : Int))) id (fun c hc Q Z hq hz => ?_) (by rw [List.length_map, List.length_map]; show 0 + _ ≤ _; omega) ?_
  · obtain ⟨x0, hx0, rfl⟩ := List.mem_map.mp hc
    obtain ⟨x, hx, rfl⟩ := List.mem_map.mp hx0
    refine x_tn ?_
    walk_at "x"
    refine x_ix (cs := [T.d (.int x.1), T.d (.int x.2.1), T.d (.int x.2.2)]) rfl (u := .d (.int x.2.1)) (atI_nat (by decide) rfl) ?_
    walk_at "x"
    by_cases c : x.2.1 < (k : Int)
    · rw [decide_eq_true c, if_pos rfl]
      walk_at "x"
      exact hq (decide_eq_true c) _ rfl
    · rw [decide_eq_false c, if_neg Bool.false_ne_true]
      exact hz (decide_eq_false c) _ rfl
  rw [List.nil_append, near_data (L := gapsL s w) (p := fun x => decide (x.2.1 < (k : Int))), ← gapsL_take hw h2]
  refine ⟨_, fz_list, ?_⟩
  walk_at "x"
  refine ⟨_, rfl, s.take k, min k w, rfl, ht, rfl, ?_⟩
  walk_at "x"
  refine x_neSame rfl rfl (okA_gaps (by have := gapsL_len (s := s.take k) (w := min k w) (by omega); omega)) (by decide) ?_
  refine ⟨_, rfl, x_iteF ?_⟩
  walk_at "x"
  refine x_ite (fun hkw => ?_) fun hkw => ?_
  · -- all days are told
    have hn : newV (s.take k) (min k w) ((k : Int) - 1) = (Fresh (s.take k) (min k w) ((k : Int) - 1), Fresh (s.take k) (min k w) ((k : Int) - 1)) := newV_told hFt (by omega) (by omega) (by omega)
    walk_at "x"
    refine ⟨_, rfl, s.take k, min k w, _, rfl, ht, hFt, by omega, by omega, rfl, ?_⟩
    walk_at "x"
    refine x_tup ?_
    walk_at "x"
    refine ⟨_, rfl, s.take k, min k w, _, rfl, ht, by omega, by omega, rfl, ?_⟩
    walk_at "x"
    refine ⟨_, rfl, s.take k, min k w, _, rfl, ht, by omega, by omega, rfl, ?_⟩
    walk_at "x"
    refine x_tup2' ?_
    walk_at "x"
    refine ⟨_, _, rfl, okA_shaped (n := 2) (okA_tp (x := newV (s.take k) (min k w) ((k : Int) - 1))) (by decide), okA_shaped (n := 2) (okA_tp (x := (Fresh (s.take k) (min k w) ((k : Int) - 1), Fresh (s.take k) (min k w) ((k : Int) - 1)))) (by decide), ?_⟩
    have e : PyData.eqv (tp (newV (s.take k) (min k w) ((k : Int) - 1))) (tp (Fresh (s.take k) (min k w) ((k : Int) - 1), Fresh (s.take k) (min k w) ((k : Int) - 1))) = true := by
      rw [hn]
      exact eqv_refl (n := 2) okA_tp
    have e' : PyData.eqv (.tuple [.int (max 0 (Fresh (s.take k) (min k w) ((k : Int) - 1) - awS (s.take k) (min k w) ((k : Int) - 1))), .int (Fresh (s.take k) (min k w) ((k : Int) - 1))]) (.tuple [.int (Fresh (s.take k) (min k w) ((k : Int) - 1)), .int (Fresh (s.take k) (min k w) ((k : Int) - 1))]) = true := e
    rw [e']
    exact ⟨t, rfl, hj.adr, hQ _ (hj.le (by omega))⟩
  · walk_at "x"
    have hwk : w ≤ k := by omega
    refine x_for (x_r1 ?_)
    walk_at "x"
    refine x_r1' (by omega) (by omega) ?_
    refine forM_all (fun ρ => ρ = [some t, some (.d (shD s)), some (.d (.int k)), some (.d (shD (s.take k))), some (.d (.int w)), none, some (.d (.list ((gapsL (s.take k) (min k w)).map tup3))), none, none, none, none, none]) (fun c hc ρ hI N hN => ?_) rfl fun ρ hI => ?_
    · subst hI
      obtain ⟨d, hd⟩ := List.mem_iff_getElem?.mp hc
      obtain ⟨hd, rfl⟩ := rng_get hd
      have hdk : d < k := by omega
      rw [show (0 : Int) + (d : Int) = (d : Int) by omega]
      refine x_tn ?_
      walk_at "x"
      refine ⟨_, rfl, s.take k, min k w, _, rfl, ht, by omega, by omega, rfl, ?_⟩
      walk_at "x"
      refine ⟨_, rfl, s, w, _, rfl, h, by omega, by omega, rfl, ?_⟩
      walk_at "x"
      rw [fresh_take (by omega) (by omega)]
      refine x_neI ?_
      rw [decide_eq_true (rfl : Fresh s w d = Fresh s w d)]
      refine ⟨_, rfl, x_iteF ?_⟩
      walk_at "x"
      refine ⟨_, rfl, s.take k, min k w, _, rfl, ht, hFt, by omega, by omega, rfl, ?_⟩
      walk_at "x"
      refine ⟨_, rfl, s, w, _, rfl, h, hF, by omega, by omega, rfl, ?_⟩
      walk_at "x"
      rw [fresh_take (by omega) (by omega), awS_take h2 (by omega) (by omega)]
      refine x_neSame rfl rfl (n := 2) (okA_tp (x := newV s w d)) (by decide) ?_
      refine ⟨_, rfl, x_iteF ?_⟩
      walk_at "x"
      -- the gaps that are cut off
      refine x_lc (x_miS ?_)
      walk_at "x"
      refine ⟨_, rfl, s, w, rfl, h, rfl, ?_⟩
      refine ⟨((gapsL s w).map tup3).map T.d, rfl, ?_⟩
      refine lcM_fm (fun c => lostP d k (unG c)) (fun c => .d (.int (unG c).2.2)) (fun c hc Q Z hq hz => ?_) (by rw [List.length_map, List.length_map]; show 0 + _ ≤ _; omega) ?_
      · obtain ⟨x0, hx0, rfl⟩ := List.mem_map.mp hc
        obtain ⟨x, hx, rfl⟩ := List.mem_map.mp hx0
        refine x_tt3 (x_tn (x_tn (x_tn ?_)))
        walk_at "x"
        refine x_bT (fun q1 => ?_) fun q1 => ?_
        · have q1 := of_decide_eq_true q1
          walk_at "x"
          by_cases q2 : (k : Int) ≤ x.2.1
          · rw [decide_eq_true q2, if_pos rfl]
            walk_at "x"
            exact hq (by show lostP d k x = true; simp [lostP, q1, q2]) _ rfl
          · rw [decide_eq_false q2, if_neg Bool.false_ne_true]
            exact hz (by show lostP d k x = false; simp [lostP, q2]) _ rfl
        · rw [if_neg Bool.false_ne_true]
          exact hz (by show lostP d k x = false; simp [lostP]; intro z; exact absurd z (by simpa using q1)) _ rfl
      rw [List.nil_append]
      have el : ((((gapsL s w).map tup3).map T.d).filter (fun c => lostP d k (unG c))).map (fun c => T.d (.int (unG c).2.2)) = tI0 (((gapsL s w).filter (lostP d k)).map fun x => x.2.2) := by
        unfold tI0
        rw [List.map_map, List.filter_map, List.map_map, List.map_map]
        rfl
      rw [el]
      walk_at "x"
      refine x_sum ?_
      rw [lost_sum hw hdk h2]
      walk_at "x"
      refine ⟨_, rfl, s.take k, min k w, _, rfl, ht, by omega, by omega, rfl, ?_⟩
      walk_at "x"
      refine ⟨_, rfl, s, w, _, rfl, h, by omega, by omega, rfl, ?_⟩
      walk_at "x"
      rw [show Away s w d + (Away (s.take k) (min k w) d - Away s w d) = Away (s.take k) (min k w) d by omega]
      refine x_neI ?_
      rw [decide_eq_true (rfl : Away (s.take k) (min k w) d = Away (s.take k) (min k w) d)]
      refine ⟨_, rfl, x_iteF ?_⟩
      walk_at "x"
      refine ⟨_, rfl, s.take k, min k w, _, rfl, ht, hFt, by omega, by omega, rfl, ?_⟩
      walk_at "x"
      refine x_ix (cs := [T.d (.int (goneV (s.take k) (min k w) d).1), T.d (.int (goneV (s.take k) (min k w) d).2)]) rfl (u := .d (.int (goneV (s.take k) (min k w) d).1)) (atI_nat (by decide) rfl) ?_
      walk_at "x"
      refine ⟨_, rfl, s, w, _, rfl, h, hF, by omega, by omega, rfl, ?_⟩
      walk_at "x"
      refine x_ix (cs := [T.d (.int (goneV s w d).1), T.d (.int (goneV s w d).2)]) rfl (u := .d (.int (goneV s w d).1)) (atI_nat (by decide) rfl) ?_
      walk_at "x"
      have hg := goneV_take hF hw hwk h2 (d := d) (by omega) (by omega)
      refine x_ite (fun z => absurd z (by omega)) fun _ => ?_
      walk_at "x"
      exact hN _ rfl
    · subst hI
      walk_at "x"
      refine x_for (x_r1 ?_)
      walk_at "x"
      refine x_r1' (by omega) (by omega) ?_
      refine forM_ix (fun i ρ => ∃ t', i ≤ 3 ∧ Jar (B + 10 - 2 * i) a t' ∧ ρ = [some t', some (.d (shD s)), some (.d (.int k)), some (.d (shD (s.take k))), some (.d (.int w)), none, some (.d (.list ((gapsL (s.take k) (min k w)).map tup3))), none, none, none, none, none]) (k0 := 0) (fun i c hc ρ hI N hN => ?_) ⟨t, by omega, hj.le (by omega), rfl⟩ fun ρ hI => ?_
      · obtain ⟨t', hi3, hj', rfl⟩ := hI
        obtain ⟨hi, rfl⟩ := rng_get hc
        refine x_tn ?_
        walk_at "x"
        refine x_dip rfl (hj'.le (C := B + 10 - 2 * (0 + i + 1) + 1 + 1) (by omega)) (by omega) (by omega) fun p t1 p0 p1 hj1 => ?_
        walk_at "x"
        refine x_dip rfl hj1 (by omega) (by omega) fun q t2 q0 q1 hj2 => ?_
        walk_at "x"
        refine ⟨_, rfl, s.take k, min k w, _, _, rfl, ht, hFt, p0, by omega, by omega, fun lo hi hl => ⟨rfl, ?_⟩⟩
        walk_at "x"
        refine ⟨_, rfl, s, w, _, _, rfl, h, hF, p0, by omega, by omega, fun lo2 hi2 hl2 => ⟨rfl, ?_⟩⟩
        walk_at "x"
        obtain ⟨rfl, rfl⟩ := ((long_take hw h2 p0 (by omega) (by omega)).mp hl).one hl2
        refine x_neSame rfl rfl (n := 2) (okA_tp (x := (lo, hi))) (by decide) ?_
        refine ⟨_, rfl, x_iteF ?_⟩
        walk_at "x"
        refine x_bT (fun z => ?_) fun z => ?_
        · have z := of_decide_eq_true z
          walk_at "x"
          refine ⟨_, rfl, s.take k, min k w, _, _, rfl, ht, hFt, p0, z, by omega, rfl, ?_⟩
          walk_at "x"
          refine ⟨_, rfl, s, w, _, _, rfl, h, hF, p0, z, by omega, rfl, ?_⟩
          walk_at "x"
          rw [nextV_take hwk h2 p0 z (by omega)]
          refine x_neSame rfl rfl (n := 2) okA_tp (by decide) ?_
          refine ⟨_, rfl, x_iteF ?_⟩
          walk_at "x"
          exact hN _ ⟨t2, by omega, hj2, rfl⟩
        · rw [if_neg Bool.false_ne_true]
          walk_at "x"
          exact hN _ ⟨t2, by omega, hj2, rfl⟩
      · obtain ⟨t', hi3, hj', rfl⟩ := hI
        rw [rng_len] at hi3 hj'
        walk_at "x"
        exact ⟨t', rfl, hj'.adr, hQ _ (hj'.le (by omega))⟩

end FA.X.Y.V.J.K
set_option Elab.async false
set_option linter.all false
set_option maxRecDepth 100000
set_option maxHeartbeats 1000000
namespace FA.X.Y.V.J.K
open PySem PySem.Spec PyProof.Rows L2
local macro_rules | `(tactic| walk_at "x") => `(tactic| repeat (first
  | with_reducible refine x_seq ?_ | with_reducible refine x_set ?_ | with_reducible refine x_ret ?_ | with_reducible refine x_Ae ?_ | with_reducible refine x_A0 ?_ | with_reducible refine x_C ?_ | with_reducible refine x_I ?_ | with_reducible refine x_add ?_
  | with_reducible refine x_int ?_ | with_reducible refine x_abs ?_ | with_reducible refine x_bits ?_ | with_reducible refine x_bits' ?_ | with_reducible refine x_setc ?_ | with_reducible refine x_eqI ?_ | with_reducible refine x_fz ?_
  | ((with_reducible refine x_op ?_ ?hn); (case hn => rfl)) | ((with_reducible refine x_call ?_ ?hn); (case hn => rfl))
  | ((with_reducible show mA (Opd.b _ :: _) _ _ _); refine x_Ab rfl rfl ?_) | ((with_reducible show mVar _ _ _ _); refine x_var rfl rfl ?_)
  | ((with_reducible show mRd _ (bIx (bVar _) (mC _)) _ _ _); refine x_rdc rfl rfl rfl rfl rfl ?_)
  | ((with_reducible show mFld _ _ _ _ _ _); refine x_fld rfl rfl rfl ?_) | ((with_reducible show mA (Opd.o _ :: _) _ _ _); refine x_Ao rfl ?_) | with_reducible refine x_calO ?_ | with_reducible refine x_make ?_ | with_reducible refine x_makeK ?_ | with_reducible refine x_fldP ?_
  | ((with_reducible show mCallI _ _ _ _ _ _); refine x_callI (by rfl) (by rfl) ?_) | with_reducible refine x_if ?_ | with_reducible refine x_ifS ?_ | with_reducible refine x_val ?_ | with_reducible refine x_bool ?_
  | with_reducible refine x_neg ?_ | with_reducible refine x_min ?_ | with_reducible refine x_max ?_ | with_reducible refine x_next ?_ | with_reducible refine x_kill ?_ | with_reducible refine x_retN ?_ | with_reducible refine x_tand ?_ | with_reducible refine x_tor ?_
  | with_reducible refine x_chain ?_ | with_reducible refine x_two ?_ | with_reducible refine x_tnot ?_ | with_reducible refine x_and ?_ | with_reducible refine x_or ?_ | with_reducible refine x_not ?_ | with_reducible refine x_drop ?_))


/-- law(script): slots script, k, jar, count_here, some, sheet_here, fewer -/
def m_law : MS := (mSeq (mFor (miR1 (.e (mOp oMax [.e (mC (.int 1)), .e (mOp oMin [.e (mC (.int 5)), .e (mOp oLenA [.b 0])])]))) (.n 1)
    (mSeq (mSet 2 (mCall sp_L_jar [.b 0, .b 1]))
  (mSeq (mSet 3 (mOp oAddA [.e (mC (.int 2)), .e (mCallI spI_L_dip 2 [.e (mC (.int 8))])]))
  (mSeq (mSet 4 (mFz (mCallI spI_L_family 2 [.b 3, .e (mCallI spI_L_dip 2 [.e (mC (.int 12))])])))
  (mSeq (mSet 5 (mFz (mCall sp_L_sheet [.b 4, .b 3, .e (mOp oAddA [.e (mC (.int 1)), .e (mCallI spI_L_dip 2 [.b 3])])])))
  (mSeq (mFor (miR2 (.e (mC (.int 1))) (.b 3)) (.n 6)
    (mSeq (mIfS (tNotM (tVal (mCallI spI_L_right 2 [.b 5, .b 6])))
    (mSeq (mRet (mC (.bool false)))
  mNext)
    mNext)
  (mKill [6] mNext)))
  (mKill [1, 2, 3, 4, 5, 6] mNext)))))))
  (mKill [1, 2, 3, 4, 5, 6] (mSeq (mSet 2 (mCall sp_L_jar [.b 0, .e (mC (.int 0))]))
  (mSeq (mRet (mFz (mCallI spI_L_right 2 [.e (mCall sp_L_sheet [.e (mCallI spI_L_family 2 [.e (mC (.int 30)), .e (mC (.int 9))]), .e (mC (.int 30)), .e (mC (.int 7))]), .e (mOp oAddA [.e (mC (.int 10)), .e (mCallI spI_L_dip 2 [.e (mC (.int 20))])])])))
  mNext))))

theorem x_sheetOf {f : Fam} {c v : Nat} {EX : Exc → Prop} {P : T → Prop} (hf : FamOk c f) (h1 : 1 ≤ c) (h3 : c ≤ 30) (h4 : v ≤ 1000) (hP : P (.d (shD (rowsOf f c v)))) : sp_L_sheet [.d (famD f), .d (.int c), .d (.int v)] EX P := ⟨f, c, v, rfl, hf, h3, h4, hP⟩
theorem re_law : Ref sp_law 1 7 m_law := by
  intro ts EX Q _ _ ⟨s, ns, e, hQ⟩
  subst e
  have lens : (T.scr s ns).size = some ns.length := rfl
  unfold m_law
  refine x_seq ?_
  refine x_for (x_r1 ?_)
  walk_at "x"
  refine x_len ?_ lens
  walk_at "x"
  refine x_r1' (by omega) (by omega) ?_
  refine forM_all (fun ρ => ρ = [some (.scr s ns), none, none, none, none, none, none]) (fun c hc ρ hI N hN => ?_) rfl fun ρ hI => ?_
  · subst hI
    obtain ⟨k, hk⟩ := List.mem_iff_getElem?.mp hc
    obtain ⟨hk, rfl⟩ := rng_get hk
    refine x_tn ?_
    walk_at "x"
    refine ⟨_, rfl, s, ns, _, rfl, by omega, by omega, fun a t hj => ⟨rfl, ?_⟩⟩
    walk_at "x"
    refine x_dip (B := 899999999) rfl (hj.le (by omega)) (by decide) (by decide +kernel) fun q t1 q0 q1 hj1 => ?_
    walk_at "x"
    obtain ⟨c, hc⟩ : ∃ c : Nat, 2 + q = (c : Int) := ⟨(2 + q).toNat, by omega⟩
    rw [hc]
    refine x_dip rfl hj1 (by decide) (by decide +kernel) fun z t2 z0 z1 hj2 => ?_
    walk_at "x"
    refine ⟨t2, rfl, rfl, 800000000, a, c, z, hj2.le (by omega), rfl, by omega, by omega, z0, by omega, fun f t3 hf hs _ _ hj3 => ?_⟩
    refine ⟨_, rfl, ?_⟩
    walk_at "x"
    refine x_dip rfl (hj3.le (C := 700000000 + 1) (by omega)) (by omega) (Int.lt_of_lt_of_le (show (c : Int) < 100 by omega) (by decide +kernel)) fun v t4 v0 v1 hj4 => ?_
    walk_at "x"
    obtain ⟨wd, hwd⟩ : ∃ wd : Nat, 1 + v = (wd : Int) := ⟨(1 + v).toNat, by omega⟩
    rw [hwd]
    refine ⟨_, rfl, x_sheetOf hf (by omega) (by omega) (by omega) ⟨rfl, ?_⟩⟩
    refine ⟨_, rfl, ?_⟩
    have ok := rows_ok hf (wide := wd) (by omega) (by omega) (by omega)
    have fe := rows_feas hf (wide := wd) (by omega) (by omega)
    have rl := rows_len (f := f) (many := c) (wide := wd)
    walk_at "x"
    refine x_for (x_r2 ?_)
    walk_at "x"
    refine x_r2' (by omega) ?_
    refine forM_ix (fun i ρ => ∃ t', i ≤ 30 ∧ Jar (700000000 - 10 * i) a t' ∧ ρ = [some (.scr s ns), some (.d (.int (0 + (k : Int)))), some t', some (.d (.int (c : Int))), some (.d (famD f)), some (.d (shD (rowsOf f c wd))), none]) (k0 := 0) (fun i cc hi ρ hI N2 hN2 => ?_) ⟨t4, by omega, hj4, rfl⟩ fun ρ hI => ?_
    · obtain ⟨t', hi30, hj', rfl⟩ := hI
      obtain ⟨hi, rfl⟩ := rng_get hi
      refine x_tn ?_
      walk_at "x"
      rw [show (1 : Int) + (i : Int) = ((i + 1 : Nat) : Int) by omega]
      refine ⟨t', rfl, rfl, 700000000 - 10 * (0 + i + 1), a, rowsOf f c wd, wd, i + 1, hj'.le (by omega), rfl, ok, fe, by omega, by omega, fun t5 hj5 => ?_⟩
      refine ⟨true, rfl, x_iteF ?_⟩
      walk_at "x"
      exact hN2 _ ⟨t5, by omega, hj5, rfl⟩
    · obtain ⟨t', hi30, hj', rfl⟩ := hI
      walk_at "x"
      exact hN _ rfl
  · subst hI
    walk_at "x"
    refine ⟨_, rfl, s, ns, _, rfl, by decide, by decide, fun a t hj => ⟨rfl, ?_⟩⟩
    walk_at "x"
    refine ⟨t, rfl, rfl, 800000000, a, 30, 9, hj.le (by omega), rfl, by decide, by decide, by decide, by decide, fun f t3 hf hs _ _ hj3 => ?_⟩
    walk_at "x"
    refine ⟨_, rfl, x_sheetOf (c := 30) (v := 7) hf (by omega) (by omega) (by omega) ⟨rfl, ?_⟩⟩
    have ok := rows_ok (many := 30) hf (wide := 7) (by omega) (by omega) (by omega)
    have fe := rows_feas (many := 30) hf (wide := 7) (by omega) (by omega)
    have rl := rows_len (f := f) (many := 30) (wide := 7)
    walk_at "x"
    refine x_dip rfl (hj3.le (C := 700000000 + 1) (by omega)) (by decide) (by decide +kernel) fun v t4 v0 v1 hj4 => ?_
    walk_at "x"
    obtain ⟨k, hk⟩ : ∃ k : Nat, 10 + v = (k : Int) := ⟨(10 + v).toNat, by omega⟩
    rw [hk]
    refine ⟨t4, rfl, rfl, 600000000, a, rowsOf f 30 7, 7, k, hj4.le (by omega), rfl, ok, fe, by omega, by omega, fun t5 hj5 => ?_⟩
    exact ⟨_, rfl, hQ⟩

end FA.X.Y.V.J.K
set_option Elab.async false
set_option linter.all false
set_option maxRecDepth 100000
set_option maxHeartbeats 4000000
namespace FA.X.Y.V.J.K
open PySem PySem.Spec PyProof.Rows L2
def topS (i : Nat) : Stmt := PySem.Challenge.pw_facesagain_k32_whole_one_more_day.main.body.getD i (.Pass ⟨0, 0, 0, 0⟩)
abbrev s_is_integer : Stmt := topS 7
theorem sc_is_integer : FnScope ["thing"] ["thing"] (defScope s_is_integer) := ⟨rfl, rfl, rfl, by decide +kernel, rfl, by decide +kernel, by decide +kernel⟩
abbrev s_are_integers : Stmt := topS 8
theorem sc_are_integers : FnScope ["thing", "number"] ["thing"] (defScope s_are_integers) := ⟨rfl, rfl, rfl, by decide +kernel, rfl, by decide +kernel, by decide +kernel⟩
abbrev s_is_row : Stmt := topS 9
theorem sc_is_row : FnScope ["thing", "length", "number"] ["thing", "length"] (defScope s_is_row) := ⟨rfl, rfl, rfl, by decide +kernel, rfl, by decide +kernel, by decide +kernel⟩
abbrev s_is_sheet : Stmt := topS 10
theorem sc_is_sheet : FnScope ["thing", "width", "day", "row"] ["thing"] (defScope s_is_sheet) := ⟨rfl, rfl, rfl, by decide +kernel, rfl, by decide +kernel, by decide +kernel⟩
abbrev s_need_sheet : Stmt := topS 11
theorem sc_need_sheet : FnScope ["sheet"] ["sheet"] (defScope s_need_sheet) := ⟨rfl, rfl, rfl, by decide +kernel, rfl, by decide +kernel, by decide +kernel⟩
abbrev s_need_day : Stmt := topS 12
theorem sc_need_day : FnScope ["day", "count"] ["day", "count"] (defScope s_need_day) := ⟨rfl, rfl, rfl, by decide +kernel, rfl, by decide +kernel, by decide +kernel⟩
abbrev s_width_told : Stmt := topS 13
theorem sc_width_told : FnScope ["sheet"] ["sheet"] (defScope s_width_told) := ⟨rfl, rfl, rfl, by decide +kernel, rfl, by decide +kernel, by decide +kernel⟩
abbrev s_unlike_in : Stmt := topS 14
theorem sc_unlike_in : FnScope ["sheet", "first", "last"] ["sheet", "first", "last"] (defScope s_unlike_in) := ⟨rfl, rfl, rfl, by decide +kernel, rfl, by decide +kernel, by decide +kernel⟩
abbrev s_width_in : Stmt := topS 15
theorem sc_width_in : FnScope ["sheet"] ["sheet"] (defScope s_width_in) := ⟨rfl, rfl, rfl, by decide +kernel, rfl, by decide +kernel, by decide +kernel⟩
abbrev s_gap_in : Stmt := topS 17
theorem sc_gap_in : FnScope ["sheet", "first", "second", "found"] ["sheet", "first", "second"] (defScope s_gap_in) := ⟨rfl, rfl, rfl, by decide +kernel, rfl, by decide +kernel, by decide +kernel⟩
abbrev s_last_looked : Stmt := topS 18
theorem sc_last_looked : FnScope ["sheet", "day"] ["sheet", "day"] (defScope s_last_looked) := ⟨rfl, rfl, rfl, by decide +kernel, rfl, by decide +kernel, by decide +kernel⟩
abbrev s_first_looked : Stmt := topS 19
theorem sc_first_looked : FnScope ["sheet", "day"] ["sheet", "day"] (defScope s_first_looked) := ⟨rfl, rfl, rfl, by decide +kernel, rfl, by decide +kernel, by decide +kernel⟩
abbrev s_away_in : Stmt := topS 20
theorem sc_away_in : FnScope ["sheet", "day", "last"] ["sheet", "day"] (defScope s_away_in) := ⟨rfl, rfl, rfl, by decide +kernel, rfl, by decide +kernel, by decide +kernel⟩
abbrev s_fresh_in : Stmt := topS 21
theorem sc_fresh_in : FnScope ["sheet", "day", "first"] ["sheet", "day"] (defScope s_fresh_in) := ⟨rfl, rfl, rfl, by decide +kernel, rfl, by decide +kernel, by decide +kernel⟩
abbrev s_gaps_in : Stmt := topS 22
theorem sc_gaps_in : FnScope ["sheet", "found", "first", "second"] ["sheet"] (defScope s_gaps_in) := ⟨rfl, rfl, rfl, by decide +kernel, rfl, by decide +kernel, by decide +kernel⟩
abbrev s_conflicts_in : Stmt := topS 23
theorem sc_conflicts_in : FnScope ["sheet", "found", "day", "first", "second", "number"] ["sheet"] (defScope s_conflicts_in) := ⟨rfl, rfl, rfl, by decide +kernel, rfl, by decide +kernel, by decide +kernel⟩
abbrev s_conflict_in : Stmt := topS 24
theorem sc_conflict_in : FnScope ["sheet", "found", "conflict"] ["sheet"] (defScope s_conflict_in) := ⟨rfl, rfl, rfl, by decide +kernel, rfl, by decide +kernel, by decide +kernel⟩
abbrev s_need_possible : Stmt := topS 25
theorem sc_need_possible : FnScope ["sheet", "conflict"] ["sheet"] (defScope s_need_possible) := ⟨rfl, rfl, rfl, by decide +kernel, rfl, by decide +kernel, by decide +kernel⟩
abbrev s_away_of : Stmt := topS 26
theorem sc_away_of : FnScope ["sheet", "day"] ["sheet", "day"] (defScope s_away_of) := ⟨rfl, rfl, rfl, by decide +kernel, rfl, by decide +kernel, by decide +kernel⟩
abbrev s_fresh_of : Stmt := topS 27
theorem sc_fresh_of : FnScope ["sheet", "day"] ["sheet", "day"] (defScope s_fresh_of) := ⟨rfl, rfl, rfl, by decide +kernel, rfl, by decide +kernel, by decide +kernel⟩
abbrev s_all_gaps : Stmt := topS 28
theorem sc_all_gaps : FnScope ["sheet", "gap"] ["sheet"] (defScope s_all_gaps) := ⟨rfl, rfl, rfl, by decide +kernel, rfl, by decide +kernel, by decide +kernel⟩
abbrev s_conflict_of : Stmt := topS 29
theorem sc_conflict_of : FnScope ["sheet"] ["sheet"] (defScope s_conflict_of) := ⟨rfl, rfl, rfl, by decide +kernel, rfl, by decide +kernel, by decide +kernel⟩
abbrev s_most_in : Stmt := topS 31
theorem sc_most_in : FnScope ["sheet", "first", "last", "beyond", "day"] ["sheet", "first", "last"] (defScope s_most_in) := ⟨rfl, rfl, rfl, by decide +kernel, rfl, by decide +kernel, by decide +kernel⟩
abbrev s_covers_in : Stmt := topS 32
theorem sc_covers_in : FnScope ["sheet", "first", "last", "width", "found", "begin", "leaving", "coming", "day"] ["sheet", "first", "last"] (defScope s_covers_in) := ⟨rfl, rfl, rfl, by decide +kernel, rfl, by decide +kernel, by decide +kernel⟩
abbrev s_longer_in : Stmt := topS 33
theorem sc_longer_in : FnScope ["sheet", "first", "last", "most"] ["sheet", "first", "last"] (defScope s_longer_in) := ⟨rfl, rfl, rfl, by decide +kernel, rfl, by decide +kernel, by decide +kernel⟩
abbrev s_need_stretch : Stmt := topS 34
theorem sc_need_stretch : FnScope ["sheet", "first", "last"] ["sheet", "first", "last"] (defScope s_need_stretch) := ⟨rfl, rfl, rfl, by decide +kernel, rfl, by decide +kernel, by decide +kernel⟩
abbrev s_longer_range : Stmt := topS 35
theorem sc_longer_range : FnScope ["sheet", "first", "last"] ["sheet", "first", "last"] (defScope s_longer_range) := ⟨rfl, rfl, rfl, by decide +kernel, rfl, by decide +kernel, by decide +kernel⟩
abbrev s_new_in : Stmt := topS 37
theorem sc_new_in : FnScope ["sheet", "day", "fresh", "away", "earlier"] ["sheet", "day"] (defScope s_new_in) := ⟨rfl, rfl, rfl, by decide +kernel, rfl, by decide +kernel, by decide +kernel⟩
abbrev s_gone_in : Stmt := topS 38
theorem sc_gone_in : FnScope ["sheet", "day", "away", "fresh", "later"] ["sheet", "day"] (defScope s_gone_in) := ⟨rfl, rfl, rfl, by decide +kernel, rfl, by decide +kernel, by decide +kernel⟩
abbrev s_next_in : Stmt := topS 39
theorem sc_next_in : FnScope ["sheet", "first", "second"] ["sheet", "first", "second"] (defScope s_next_in) := ⟨rfl, rfl, rfl, by decide +kernel, rfl, by decide +kernel, by decide +kernel⟩
abbrev s_new_range : Stmt := topS 40
theorem sc_new_range : FnScope ["sheet", "day"] ["sheet", "day"] (defScope s_new_range) := ⟨rfl, rfl, rfl, by decide +kernel, rfl, by decide +kernel, by decide +kernel⟩
abbrev s_gone_range : Stmt := topS 41
theorem sc_gone_range : FnScope ["sheet", "day"] ["sheet", "day"] (defScope s_gone_range) := ⟨rfl, rfl, rfl, by decide +kernel, rfl, by decide +kernel, by decide +kernel⟩
abbrev s_next_range : Stmt := topS 42
theorem sc_next_range : FnScope ["sheet", "first", "second"] ["sheet", "first", "second"] (defScope s_next_range) := ⟨rfl, rfl, rfl, by decide +kernel, rfl, by decide +kernel, by decide +kernel⟩
abbrev s_L_jar : Stmt := topS 44
theorem sc_L_jar : FnScope ["script", "k", "cell_here"] ["script", "k"] (defScope s_L_jar) := ⟨rfl, rfl, rfl, by decide +kernel, rfl, by decide +kernel, by decide +kernel⟩
abbrev s_L_dip : Stmt := topS 45
theorem sc_L_dip : FnScope ["jar", "many", "digit", "mixed"] ["jar", "many"] (defScope s_L_dip) := ⟨rfl, rfl, rfl, by decide +kernel, rfl, by decide +kernel, by decide +kernel⟩
abbrev s_L_many : Stmt := topS 46
theorem sc_L_many : FnScope ["jar"] ["jar"] (defScope s_L_many) := ⟨rfl, rfl, rfl, by decide +kernel, rfl, by decide +kernel, by decide +kernel⟩
abbrev s_L_days : Stmt := topS 47
theorem sc_L_days : FnScope ["jar", "count_here", "way_here", "begin", "wide", "found", "spot"] ["jar", "count_here"] (defScope s_L_days) := ⟨rfl, rfl, rfl, by decide +kernel, rfl, by decide +kernel, by decide +kernel⟩
abbrev s_L_family : Stmt := topS 48
theorem sc_L_family : FnScope ["jar", "count_here", "size", "found", "turn", "one"] ["jar", "count_here", "size"] (defScope s_L_family) := ⟨rfl, rfl, rfl, by decide +kernel, rfl, by decide +kernel, by decide +kernel⟩
abbrev s_L_sheet : Stmt := topS 50
theorem sc_L_sheet : FnScope ["some", "count_here", "wide", "spot", "found", "one", "number_here", "day_here", "later_day", "row_here", "back_here"] ["some", "count_here", "wide"] (defScope s_L_sheet) := ⟨rfl, rfl, rfl, by decide +kernel, rfl, by decide +kernel, by decide +kernel⟩
abbrev s_L_right : Stmt := topS 51
theorem sc_L_right : FnScope ["jar", "sheet_here", "fewer", "head", "wide", "one", "near", "spot", "two", "lost", "turn", "part"] ["jar", "sheet_here", "fewer"] (defScope s_L_right) := ⟨rfl, rfl, rfl, by decide +kernel, rfl, by decide +kernel, by decide +kernel⟩
abbrev s_law : Stmt := topS 52
theorem sc_law : FnScope ["script", "k", "jar", "count_here", "some", "sheet_here", "fewer"] ["script"] (defScope s_law) := ⟨rfl, rfl, rfl, by decide +kernel, rfl, by decide +kernel, by decide +kernel⟩
def clsBody : Stmt → List Stmt
  | .ClassDef _ _ _ b _ _ _ _ _ _ _ => b
  | _ => []
abbrev s_Impossible_init : Stmt := (clsBody (topS 4)).getD 0 (.Pass ⟨0, 0, 0, 0⟩)
theorem sc_Impossible_init : FnScope ["self", "word", "first", "second"] ["self", "word", "first", "second"] (defScope s_Impossible_init) := ⟨rfl, rfl, rfl, by decide +kernel, rfl, by decide +kernel, by decide +kernel⟩
/-- what the top leaves -/
structure Tb (K : PySem.W.Frag) (mg : Str → Option Value) where
  a_is_integer : Addr
  d_is_integer : FuncData
  F_is_integer : Fun K "is_integer" "is_integer" s_is_integer a_is_integer d_is_integer
  g_is_integer : mg "is_integer" = some (.ref a_is_integer)
  b_is_integer : Binds K d_is_integer ["thing"] []
  a_are_integers : Addr
  d_are_integers : FuncData
  F_are_integers : Fun K "are_integers" "are_integers" s_are_integers a_are_integers d_are_integers
  g_are_integers : mg "are_integers" = some (.ref a_are_integers)
  b_are_integers : Binds K d_are_integers ["thing"] []
  a_is_row : Addr
  d_is_row : FuncData
  F_is_row : Fun K "is_row" "is_row" s_is_row a_is_row d_is_row
  g_is_row : mg "is_row" = some (.ref a_is_row)
  b_is_row : Binds K d_is_row ["thing", "length"] []
  a_is_sheet : Addr
  d_is_sheet : FuncData
  F_is_sheet : Fun K "is_sheet" "is_sheet" s_is_sheet a_is_sheet d_is_sheet
  g_is_sheet : mg "is_sheet" = some (.ref a_is_sheet)
  b_is_sheet : Binds K d_is_sheet ["thing"] []
  a_need_sheet : Addr
  d_need_sheet : FuncData
  F_need_sheet : Fun K "need_sheet" "need_sheet" s_need_sheet a_need_sheet d_need_sheet
  g_need_sheet : mg "need_sheet" = some (.ref a_need_sheet)
  b_need_sheet : Binds K d_need_sheet ["sheet"] []
  a_need_day : Addr
  d_need_day : FuncData
  F_need_day : Fun K "need_day" "need_day" s_need_day a_need_day d_need_day
  g_need_day : mg "need_day" = some (.ref a_need_day)
  b_need_day : Binds K d_need_day ["day", "count"] []
  a_width_told : Addr
  d_width_told : FuncData
  F_width_told : Fun K "width_told" "width_told" s_width_told a_width_told d_width_told
  g_width_told : mg "width_told" = some (.ref a_width_told)
  b_width_told : Binds K d_width_told ["sheet"] []
  a_unlike_in : Addr
  d_unlike_in : FuncData
  F_unlike_in : Fun K "unlike_in" "unlike_in" s_unlike_in a_unlike_in d_unlike_in
  g_unlike_in : mg "unlike_in" = some (.ref a_unlike_in)
  b_unlike_in : Binds K d_unlike_in ["sheet", "first", "last"] []
  a_width_in : Addr
  d_width_in : FuncData
  F_width_in : Fun K "width_in" "width_in" s_width_in a_width_in d_width_in
  g_width_in : mg "width_in" = some (.ref a_width_in)
  b_width_in : Binds K d_width_in ["sheet"] []
  a_gap_in : Addr
  d_gap_in : FuncData
  F_gap_in : Fun K "gap_in" "gap_in" s_gap_in a_gap_in d_gap_in
  g_gap_in : mg "gap_in" = some (.ref a_gap_in)
  b_gap_in : Binds K d_gap_in ["sheet", "first", "second"] []
  a_last_looked : Addr
  d_last_looked : FuncData
  F_last_looked : Fun K "last_looked" "last_looked" s_last_looked a_last_looked d_last_looked
  g_last_looked : mg "last_looked" = some (.ref a_last_looked)
  b_last_looked : Binds K d_last_looked ["sheet", "day"] []
  a_first_looked : Addr
  d_first_looked : FuncData
  F_first_looked : Fun K "first_looked" "first_looked" s_first_looked a_first_looked d_first_looked
  g_first_looked : mg "first_looked" = some (.ref a_first_looked)
  b_first_looked : Binds K d_first_looked ["sheet", "day"] []
  a_away_in : Addr
  d_away_in : FuncData
  F_away_in : Fun K "away_in" "away_in" s_away_in a_away_in d_away_in
  g_away_in : mg "away_in" = some (.ref a_away_in)
  b_away_in : Binds K d_away_in ["sheet", "day"] []
  a_fresh_in : Addr
  d_fresh_in : FuncData
  F_fresh_in : Fun K "fresh_in" "fresh_in" s_fresh_in a_fresh_in d_fresh_in
  g_fresh_in : mg "fresh_in" = some (.ref a_fresh_in)
  b_fresh_in : Binds K d_fresh_in ["sheet", "day"] []
  a_gaps_in : Addr
  d_gaps_in : FuncData
  F_gaps_in : Fun K "gaps_in" "gaps_in" s_gaps_in a_gaps_in d_gaps_in
  g_gaps_in : mg "gaps_in" = some (.ref a_gaps_in)
  b_gaps_in : Binds K d_gaps_in ["sheet"] []
  a_conflicts_in : Addr
  d_conflicts_in : FuncData
  F_conflicts_in : Fun K "conflicts_in" "conflicts_in" s_conflicts_in a_conflicts_in d_conflicts_in
  g_conflicts_in : mg "conflicts_in" = some (.ref a_conflicts_in)
  b_conflicts_in : Binds K d_conflicts_in ["sheet"] []
  a_conflict_in : Addr
  d_conflict_in : FuncData
  F_conflict_in : Fun K "conflict_in" "conflict_in" s_conflict_in a_conflict_in d_conflict_in
  g_conflict_in : mg "conflict_in" = some (.ref a_conflict_in)
  b_conflict_in : Binds K d_conflict_in ["sheet"] []
  a_need_possible : Addr
  d_need_possible : FuncData
  F_need_possible : Fun K "need_possible" "need_possible" s_need_possible a_need_possible d_need_possible
  g_need_possible : mg "need_possible" = some (.ref a_need_possible)
  b_need_possible : Binds K d_need_possible ["sheet"] []
  a_away_of : Addr
  d_away_of : FuncData
  F_away_of : Fun K "away_of" "away_of" s_away_of a_away_of d_away_of
  g_away_of : mg "away_of" = some (.ref a_away_of)
  b_away_of : Binds K d_away_of ["sheet", "day"] []
  a_fresh_of : Addr
  d_fresh_of : FuncData
  F_fresh_of : Fun K "fresh_of" "fresh_of" s_fresh_of a_fresh_of d_fresh_of
  g_fresh_of : mg "fresh_of" = some (.ref a_fresh_of)
  b_fresh_of : Binds K d_fresh_of ["sheet", "day"] []
  a_all_gaps : Addr
  d_all_gaps : FuncData
  F_all_gaps : Fun K "all_gaps" "all_gaps" s_all_gaps a_all_gaps d_all_gaps
  g_all_gaps : mg "all_gaps" = some (.ref a_all_gaps)
  b_all_gaps : Binds K d_all_gaps ["sheet"] []
  a_conflict_of : Addr
  d_conflict_of : FuncData
  F_conflict_of : Fun K "conflict_of" "conflict_of" s_conflict_of a_conflict_of d_conflict_of
  g_conflict_of : mg "conflict_of" = some (.ref a_conflict_of)
  b_conflict_of : Binds K d_conflict_of ["sheet"] []
  a_most_in : Addr
  d_most_in : FuncData
  F_most_in : Fun K "most_in" "most_in" s_most_in a_most_in d_most_in
  g_most_in : mg "most_in" = some (.ref a_most_in)
  b_most_in : Binds K d_most_in ["sheet", "first", "last"] []
  a_covers_in : Addr
  d_covers_in : FuncData
  F_covers_in : Fun K "covers_in" "covers_in" s_covers_in a_covers_in d_covers_in
  g_covers_in : mg "covers_in" = some (.ref a_covers_in)
  b_covers_in : Binds K d_covers_in ["sheet", "first", "last"] []
  a_longer_in : Addr
  d_longer_in : FuncData
  F_longer_in : Fun K "longer_in" "longer_in" s_longer_in a_longer_in d_longer_in
  g_longer_in : mg "longer_in" = some (.ref a_longer_in)
  b_longer_in : Binds K d_longer_in ["sheet", "first", "last"] []
  a_need_stretch : Addr
  d_need_stretch : FuncData
  F_need_stretch : Fun K "need_stretch" "need_stretch" s_need_stretch a_need_stretch d_need_stretch
  g_need_stretch : mg "need_stretch" = some (.ref a_need_stretch)
  b_need_stretch : Binds K d_need_stretch ["sheet", "first", "last"] []
  a_longer_range : Addr
  d_longer_range : FuncData
  F_longer_range : Fun K "longer_range" "longer_range" s_longer_range a_longer_range d_longer_range
  g_longer_range : mg "longer_range" = some (.ref a_longer_range)
  b_longer_range : Binds K d_longer_range ["sheet", "first", "last"] []
  a_new_in : Addr
  d_new_in : FuncData
  F_new_in : Fun K "new_in" "new_in" s_new_in a_new_in d_new_in
  g_new_in : mg "new_in" = some (.ref a_new_in)
  b_new_in : Binds K d_new_in ["sheet", "day"] []
  a_gone_in : Addr
  d_gone_in : FuncData
  F_gone_in : Fun K "gone_in" "gone_in" s_gone_in a_gone_in d_gone_in
  g_gone_in : mg "gone_in" = some (.ref a_gone_in)
  b_gone_in : Binds K d_gone_in ["sheet", "day"] []
  a_next_in : Addr
  d_next_in : FuncData
  F_next_in : Fun K "next_in" "next_in" s_next_in a_next_in d_next_in
  g_next_in : mg "next_in" = some (.ref a_next_in)
  b_next_in : Binds K d_next_in ["sheet", "first", "second"] []
  a_new_range : Addr
  d_new_range : FuncData
  F_new_range : Fun K "new_range" "new_range" s_new_range a_new_range d_new_range
  g_new_range : mg "new_range" = some (.ref a_new_range)
  b_new_range : Binds K d_new_range ["sheet", "day"] []
  a_gone_range : Addr
  d_gone_range : FuncData
  F_gone_range : Fun K "gone_range" "gone_range" s_gone_range a_gone_range d_gone_range
  g_gone_range : mg "gone_range" = some (.ref a_gone_range)
  b_gone_range : Binds K d_gone_range ["sheet", "day"] []
  a_next_range : Addr
  d_next_range : FuncData
  F_next_range : Fun K "next_range" "next_range" s_next_range a_next_range d_next_range
  g_next_range : mg "next_range" = some (.ref a_next_range)
  b_next_range : Binds K d_next_range ["sheet", "first", "second"] []
  a_L_jar : Addr
  d_L_jar : FuncData
  F_L_jar : Fun K "_law_jar" "_law_jar" s_L_jar a_L_jar d_L_jar
  g_L_jar : mg "_law_jar" = some (.ref a_L_jar)
  b_L_jar : Binds K d_L_jar ["script", "k"] []
  a_L_dip : Addr
  d_L_dip : FuncData
  F_L_dip : Fun K "_law_dip" "_law_dip" s_L_dip a_L_dip d_L_dip
  g_L_dip : mg "_law_dip" = some (.ref a_L_dip)
  b_L_dip : Binds K d_L_dip ["jar", "many"] []
  a_L_many : Addr
  d_L_many : FuncData
  F_L_many : Fun K "_law_many" "_law_many" s_L_many a_L_many d_L_many
  g_L_many : mg "_law_many" = some (.ref a_L_many)
  b_L_many : Binds K d_L_many ["jar"] []
  a_L_days : Addr
  d_L_days : FuncData
  F_L_days : Fun K "_law_days" "_law_days" s_L_days a_L_days d_L_days
  g_L_days : mg "_law_days" = some (.ref a_L_days)
  b_L_days : Binds K d_L_days ["jar", "count_here"] []
  a_L_family : Addr
  d_L_family : FuncData
  F_L_family : Fun K "_law_family" "_law_family" s_L_family a_L_family d_L_family
  g_L_family : mg "_law_family" = some (.ref a_L_family)
  b_L_family : Binds K d_L_family ["jar", "count_here", "size"] []
  a_L_sheet : Addr
  d_L_sheet : FuncData
  F_L_sheet : Fun K "_law_sheet" "_law_sheet" s_L_sheet a_L_sheet d_L_sheet
  g_L_sheet : mg "_law_sheet" = some (.ref a_L_sheet)
  b_L_sheet : Binds K d_L_sheet ["some", "count_here", "wide"] []
  a_L_right : Addr
  d_L_right : FuncData
  F_L_right : Fun K "_law_right" "_law_right" s_L_right a_L_right d_L_right
  g_L_right : mg "_law_right" = some (.ref a_L_right)
  b_L_right : Binds K d_L_right ["jar", "sheet_here", "fewer"] []
  a_law : Addr
  d_law : FuncData
  F_law : Fun K "law" "law" s_law a_law d_law
  g_law : mg "law" = some (.ref a_law)
  b_law : Binds K d_law ["script"] []
  A_FaceError : Addr
  x_FaceError : XC K mg "FaceError" A_FaceError
  z_FaceError : XC0 K A_FaceError
  A_InvalidSheet : Addr
  x_InvalidSheet : XC K mg "InvalidSheet" A_InvalidSheet
  z_InvalidSheet : XC0 K A_InvalidSheet
  A_InvalidDay : Addr
  x_InvalidDay : XC K mg "InvalidDay" A_InvalidDay
  z_InvalidDay : XC0 K A_InvalidDay
  A_Impossible : Addr
  x_Impossible : XC K mg "Impossible" A_Impossible
  o_Impossible : OexC K A_Impossible
  f_Impossible : ∀ f ∈ (["word", "first", "second"] : List Str), PySem.W.findIn K (.ref A_Impossible) f = some none
  I_Impossible : Addr
  D_Impossible : FuncData
  i_Impossible : PySem.W.findIn K (.ref A_Impossible) "__init__" = some (some (.ref I_Impossible))
  t_Impossible : PySem.W.typeIn K (.ref I_Impossible) = some (.type "function")
  J_Impossible : Fun K "__init__" "Impossible.__init__" s_Impossible_init I_Impossible D_Impossible
  b_Impossible : Binds K D_Impossible ["self", "word", "first", "second"] []
  vF : VeiC K A_FaceError
  t_MOST_DAYS : Tok
  c_MOST_DAYS : mg "MOST_DAYS" = some (.int 30 t_MOST_DAYS)
  n_len : mg "len" = none
  n_sum : mg "sum" = none
  n_all : mg "all" = none
  n_abs : mg "abs" = none
  n_list : mg "list" = none
  n_tuple : mg "tuple" = none
  n_min : mg "min" = none
  n_max : mg "max" = none
  n_range : mg "range" = none
  n_enumerate : mg "enumerate" = none
  n_zip : mg "zip" = none
  n_sorted : mg "sorted" = none
  n_isinstance : mg "isinstance" = none
  n_int : mg "int" = none
  n_bool : mg "bool" = none
section
variable {P : Program} {w : World} {K : PySem.W.Frag} {mg : Str → Option Value} {base : Heap}
theorem ok_Impossible_init (T : Tb K mg) : FnOk P w K mg base (L2.CX P w) 1 T.I_Impossible T.D_Impossible ["self", "word", "first", "second"] (spIni K T.A_Impossible ["word", "first", "second"]) := by
  refine T.J_Impossible.okX sc_Impossible_init (fun vs H Q E h => ?_) fun cdv A outer s H vs Q E hr h => ⟨tIni K "no family has the sheet" ["word", "first", "second"], ?_, pure_ini rfl (by decide) (by decide) h⟩
  · obtain ⟨a, ws, rfl, hl, _⟩ := h
    rw [List.length_cons, hl]
    rfl
  · exact pss_cons (ps_expr (pe_fei rfl T.x_FaceError.g T.vF (pa_cons (pe_var (i := 0) rfl (Or.inl rfl)) (pa_cons pe_str pa_nil)))) (pss_cons (ps_ost (pe_var (i := 0) rfl (Or.inl rfl)) (pe_var (i := 1) rfl (Or.inl rfl))) (pss_cons (ps_ost (pe_var (i := 0) rfl (Or.inl rfl)) (pe_var (i := 2) rfl (Or.inl rfl))) (pss_cons (ps_ost (pe_var (i := 0) rfl (Or.inl rfl)) (pe_var (i := 3) rfl (Or.inl rfl))) pss_nil)))
theorem ok_is_integer (T : Tb K mg) : FnOk P w K mg base (L2.CX P w) 1 T.a_is_integer T.d_is_integer ["thing"] (spP K mg 1 sp_is_integer) := by
  have nd := sc_is_integer.nd
  refine def_ok (k := 0) (m := m_is_integer) T.F_is_integer sc_is_integer rfl (fun cdv A outer s H E hr tk => ?_) re_is_integer
  exact (sj_cons (sj_ret (ej_and (ej_isi "int" (eo_b 0) T.n_isinstance T.n_int b_int) (ej_one (ej_not (ej_isi "bool" (eo_b 0) T.n_isinstance T.n_bool b_bool)))))
    sj_nil)
theorem ok_are_integers (T : Tb K mg) : FnOk P w K mg base (L2.CX P w) 2 T.a_are_integers T.d_are_integers ["thing"] (spP K mg 1 sp_are_integers) := by
  have nd := sc_are_integers.nd
  refine def_ok (k := 1) (m := m_are_integers) T.F_are_integers sc_are_integers rfl (fun cdv A outer s H E hr tk => ?_) re_are_integers
  exact (sj_cons (sj_ret (ej_and (ej_isi "list" (eo_b 0) T.n_isinstance T.n_list b_list) (ej_one (ej_bf (cr_all rfl) oAll_S (by rfl) T.n_all b_all (ea_cons (eo_e (ej_lc rfl nd (ij_seq (ej_var 0)) (own := [("number", 1)]) (blkOk_by (by rfl)) (by decide) (fun _ _ _ _ _ => (gj_n 1 nd)) (fun _ _ _ _ _ => pts_nil) pts_no (fun _ _ _ _ _ => (ej_call (ok_is_integer T) (hr.mono (by decide)) T.g_is_integer T.F_is_integer.kp T.b_is_integer takes0 (by rfl) (ea_cons (eo_b 1) ea_nil))))) ea_nil)))))
    sj_nil)
theorem ok_is_row (T : Tb K mg) : FnOk P w K mg base (L2.CX P w) 3 T.a_is_row T.d_is_row ["thing", "length"] (spP K mg 2 sp_is_row) := by
  have nd := sc_is_row.nd
  refine def_ok (k := 2) (m := m_is_row) T.F_is_row sc_is_row rfl (fun cdv A outer s H E hr tk => ?_) re_is_row
  exact (sj_cons (sj_ret (ej_and (ej_call (ok_are_integers T) (hr.mono (by decide)) T.g_are_integers T.F_are_integers.kp T.b_are_integers tk (by rfl) (ea_cons (eo_b 0) ea_nil)) (ej_and (ej_cmp (op_eqD hr.units) oEq_S (eo_e (ej_bf call_lenA oLenA_S (by rfl) T.n_len b_len (ea_cons (eo_b 0) ea_nil))) (eo_b 1)) (ej_one (ej_bf (cr_all rfl) oAll_S (by rfl) T.n_all b_all (ea_cons (eo_e (ej_lc rfl nd (ij_seq (ej_var 0)) (own := [("number", 2)]) (blkOk_by (by rfl)) (by decide) (fun _ _ _ _ _ => (gj_n 2 nd)) (fun _ _ _ _ _ => pts_nil) pts_no (fun _ _ _ _ _ => (ej_cmp op_ge oGe_S (eo_b 2) (eo_e ej_int))))) ea_nil))))))
    sj_nil)
theorem ok_is_sheet (T : Tb K mg) : FnOk P w K mg base (L2.CX P w) 4 T.a_is_sheet T.d_is_sheet ["thing"] (spP K mg 1 sp_is_sheet) := by
  have nd := sc_is_sheet.nd
  refine def_ok (k := 3) (m := m_is_sheet) T.F_is_sheet sc_is_sheet rfl (fun cdv A outer s H E hr tk => ?_) re_is_sheet
  exact (sj_cons (sj_if (et_w (ew_or (et_not (et_val (ej_isi "list" (eo_b 0) T.n_isinstance T.n_list b_list))) (ew_or (et_not (et_chain op_le oLe_S op_le oLe_S (eo_e ej_int) (eo_e (ej_bf call_lenA oLenA_S (by rfl) T.n_len b_len (ea_cons (eo_b 0) ea_nil))) (eo_e (ej_glob (v := .int 30) rfl T.c_MOST_DAYS ⟨_, rfl⟩ rfl)))) (ew_or1 (et_not (et_val (ej_isi "list" (eo_e (ej_ix ix_any oIxG_S (eo_b 0) (eo_e (ej_un un_neg oNeg_S (eo_e ej_int))))) T.n_isinstance T.n_list b_list)))))))
      (sj_cons (sj_ret ej_bl)
    sj_nil)
      sj_nil)
    (sj_cons (sj_set 1 (ej_bf call_lenA oLenA_S (by rfl) T.n_len b_len (ea_cons (eo_e (ej_ix ix_any oIxG_S (eo_b 0) (eo_e (ej_un un_neg oNeg_S (eo_e ej_int))))) ea_nil)) nd)
    (sj_cons (sj_ret (ej_and (ej_cmp op_ge oGe_S (eo_b 1) (eo_e ej_int)) (ej_one (ej_bf (cr_all rfl) oAll_S (by rfl) T.n_all b_all (ea_cons (eo_e (ej_lc rfl nd (ij_en T.n_enumerate (ej_var 0)) (own := [("day", 2), ("row", 3)]) (blkOk_by (by rfl)) (by decide) (fun _ _ _ _ _ => (gj_t rfl (gjs_cons (gj_n 2 nd) (gjs_cons (gj_n 3 nd) gjs_nil)))) (fun _ _ _ _ _ => pts_nil) pts_no (fun _ _ _ _ _ => (ej_call (ok_is_row T) (hr.mono (by decide)) T.g_is_row T.F_is_row.kp T.b_is_row takes0 (by rfl) (ea_cons (eo_b 3) (ea_cons (eo_e (ej_bf (call_min2 rfl) oMin_S (by rfl) T.n_min b_min (ea_cons (eo_e (ej_bin op_addA oAddA_S (eo_b 2) (eo_e ej_int))) (ea_cons (eo_b 1) ea_nil)))) ea_nil)))))) ea_nil)))))
    sj_nil)))
theorem ok_need_sheet (T : Tb K mg) : FnOk P w K mg base (L2.CX P w) 5 T.a_need_sheet T.d_need_sheet ["sheet"] (spP K mg 1 sp_need_sheet) := by
  have nd := sc_need_sheet.nd
  refine def_ok (k := 4) (m := m_need_sheet) T.F_need_sheet sc_need_sheet rfl (fun cdv A outer s H E hr tk => ?_) re_need_sheet
  exact (sj_cons (sj_if (et_not (et_val (ej_call (ok_is_sheet T) (hr.mono (by decide)) T.g_is_sheet T.F_is_sheet.kp T.b_is_sheet tk (by rfl) (ea_cons (eo_b 0) ea_nil))))
      (sj_cons (sj_raise T.x_InvalidSheet T.z_InvalidSheet rfl tk)
    sj_nil)
      sj_nil)
    sj_nil)
theorem ok_need_day (T : Tb K mg) : FnOk P w K mg base (L2.CX P w) 1 T.a_need_day T.d_need_day ["day", "count"] (spP K mg 2 sp_need_day) := by
  have nd := sc_need_day.nd
  refine def_ok (k := 0) (m := m_need_day) T.F_need_day sc_need_day rfl (fun cdv A outer s H E hr tk => ?_) re_need_day
  exact (sj_cons (sj_if (et_not (et_chain op_le oLe_S op_lt oLt_S (eo_e ej_int) (eo_b 0) (eo_b 1)))
      (sj_cons (sj_raise T.x_InvalidDay T.z_InvalidDay rfl tk)
    sj_nil)
      sj_nil)
    sj_nil)
theorem ok_width_told (T : Tb K mg) : FnOk P w K mg base (L2.CX P w) 1 T.a_width_told T.d_width_told ["sheet"] (spP K mg 1 sp_width_told) := by
  have nd := sc_width_told.nd
  refine def_ok (k := 0) (m := m_width_told) T.F_width_told sc_width_told rfl (fun cdv A outer s H E hr tk => ?_) re_width_told
  exact (sj_cons (sj_ret (ej_bf call_lenA oLenA_S (by rfl) T.n_len b_len (ea_cons (eo_e (ej_ix ix_any oIxG_S (eo_b 0) (eo_e (ej_un un_neg oNeg_S (eo_e ej_int))))) ea_nil)))
    sj_nil)
theorem ok_unlike_in (T : Tb K mg) : FnOk P w K mg base (L2.CX P w) 1 T.a_unlike_in T.d_unlike_in ["sheet", "first", "last"] (spP K mg 3 sp_unlike_in) := by
  have nd := sc_unlike_in.nd
  refine def_ok (k := 0) (m := m_unlike_in) T.F_unlike_in sc_unlike_in rfl (fun cdv A outer s H E hr tk => ?_) re_unlike_in
  exact (sj_cons (sj_ret (ej_fz (ej_if (et_cmp op_le oLe_S (eo_b 1) (eo_b 2)) (ej_ix ix_any oIxG_S (eo_e (ej_ix ix_any oIxG_S (eo_b 0) (eo_b 2))) (eo_e (ej_bin op_sub oSub_S (eo_b 2) (eo_b 1)))) ej_int)))
    sj_nil)
theorem ok_width_in (T : Tb K mg) : FnOk P w K mg base (L2.CX P w) 6 T.a_width_in T.d_width_in ["sheet"] (spP K mg 1 sp_width_in) := by
  have nd := sc_width_in.nd
  refine def_ok (k := 5) (m := m_width_in) T.F_width_in sc_width_in rfl (fun cdv A outer s H E hr tk => ?_) re_width_in
  exact (sj_cons (sj_expr (ej_call (ok_need_sheet T) (hr.mono (by decide)) T.g_need_sheet T.F_need_sheet.kp T.b_need_sheet tk (by rfl) (ea_cons (eo_b 0) ea_nil)))
    (sj_cons (sj_ret (ej_fz (ej_call (ok_width_told T) (hr.mono (by decide)) T.g_width_told T.F_width_told.kp T.b_width_told tk (by rfl) (ea_cons (eo_b 0) ea_nil))))
    sj_nil))
theorem ok_gap_in (T : Tb K mg) : FnOk P w K mg base (L2.CX P w) 2 T.a_gap_in T.d_gap_in ["sheet", "first", "second"] (spP K mg 3 sp_gap_in) := by
  have nd := sc_gap_in.nd
  refine def_ok (k := 1) (m := m_gap_in) T.F_gap_in sc_gap_in rfl (fun cdv A outer s H E hr tk => ?_) re_gap_in
  exact (sj_cons (sj_set 3 (ej_fz (ej_bin op_addA oAddA_S (eo_e (ej_call (ok_unlike_in T) (hr.mono (by decide)) T.g_unlike_in T.F_unlike_in.kp T.b_unlike_in tk (by rfl) (ea_cons (eo_b 0) (ea_cons (eo_b 1) (ea_cons (eo_e (ej_bin op_sub oSub_S (eo_b 2) (eo_e ej_int))) ea_nil))))) (eo_e (ej_call (ok_unlike_in T) (hr.mono (by decide)) T.g_unlike_in T.F_unlike_in.kp T.b_unlike_in tk (by rfl) (ea_cons (eo_b 0) (ea_cons (eo_e (ej_bin op_addA oAddA_S (eo_b 1) (eo_e ej_int))) (ea_cons (eo_b 2) ea_nil))))))) nd)
    (sj_cons (sj_ret (ej_bin op_sub oSub_S (eo_e (ej_bin op_sub oSub_S (eo_b 3) (eo_e (ej_call (ok_unlike_in T) (hr.mono (by decide)) T.g_unlike_in T.F_unlike_in.kp T.b_unlike_in tk (by rfl) (ea_cons (eo_b 0) (ea_cons (eo_e (ej_bin op_addA oAddA_S (eo_b 1) (eo_e ej_int))) (ea_cons (eo_e (ej_bin op_sub oSub_S (eo_b 2) (eo_e ej_int))) ea_nil))))))) (eo_e (ej_call (ok_unlike_in T) (hr.mono (by decide)) T.g_unlike_in T.F_unlike_in.kp T.b_unlike_in tk (by rfl) (ea_cons (eo_b 0) (ea_cons (eo_b 1) (ea_cons (eo_b 2) ea_nil)))))))
    sj_nil))
theorem ok_last_looked (T : Tb K mg) : FnOk P w K mg base (L2.CX P w) 2 T.a_last_looked T.d_last_looked ["sheet", "day"] (spP K mg 2 sp_last_looked) := by
  have nd := sc_last_looked.nd
  refine def_ok (k := 1) (m := m_last_looked) T.F_last_looked sc_last_looked rfl (fun cdv A outer s H E hr tk => ?_) re_last_looked
  exact (sj_cons (sj_ret (ej_bin op_sub oSub_S (eo_e (ej_bf (call_min2 rfl) oMin_S (by rfl) T.n_min b_min (ea_cons (eo_e (ej_bin op_addA oAddA_S (eo_b 1) (eo_e (ej_call (ok_width_told T) (hr.mono (by decide)) T.g_width_told T.F_width_told.kp T.b_width_told tk (by rfl) (ea_cons (eo_b 0) ea_nil))))) (ea_cons (eo_e (ej_bf call_lenA oLenA_S (by rfl) T.n_len b_len (ea_cons (eo_b 0) ea_nil))) ea_nil)))) (eo_e ej_int)))
    sj_nil)
theorem ok_first_looked (T : Tb K mg) : FnOk P w K mg base (L2.CX P w) 2 T.a_first_looked T.d_first_looked ["sheet", "day"] (spP K mg 2 sp_first_looked) := by
  have nd := sc_first_looked.nd
  refine def_ok (k := 1) (m := m_first_looked) T.F_first_looked sc_first_looked rfl (fun cdv A outer s H E hr tk => ?_) re_first_looked
  exact (sj_cons (sj_ret (ej_bf (call_max2 rfl) oMax_S (by rfl) T.n_max b_max (ea_cons (eo_e ej_int) (ea_cons (eo_e (ej_bin op_addA oAddA_S (eo_e (ej_bin op_sub oSub_S (eo_b 1) (eo_e (ej_call (ok_width_told T) (hr.mono (by decide)) T.g_width_told T.F_width_told.kp T.b_width_told tk (by rfl) (ea_cons (eo_b 0) ea_nil))))) (eo_e ej_int))) ea_nil))))
    sj_nil)
theorem ok_away_in (T : Tb K mg) : FnOk P w K mg base (L2.CX P w) 3 T.a_away_in T.d_away_in ["sheet", "day"] (spP K mg 2 sp_away_in) := by
  have nd := sc_away_in.nd
  refine def_ok (k := 2) (m := m_away_in) T.F_away_in sc_away_in rfl (fun cdv A outer s H E hr tk => ?_) re_away_in
  exact (sj_cons (sj_set 2 (ej_fz (ej_call (ok_last_looked T) (hr.mono (by decide)) T.g_last_looked T.F_last_looked.kp T.b_last_looked tk (by rfl) (ea_cons (eo_b 0) (ea_cons (eo_b 1) ea_nil)))) nd)
    (sj_cons (sj_ret (ej_bin op_sub oSub_S (eo_e (ej_call (ok_unlike_in T) (hr.mono (by decide)) T.g_unlike_in T.F_unlike_in.kp T.b_unlike_in tk (by rfl) (ea_cons (eo_b 0) (ea_cons (eo_b 1) (ea_cons (eo_b 2) ea_nil))))) (eo_e (ej_call (ok_unlike_in T) (hr.mono (by decide)) T.g_unlike_in T.F_unlike_in.kp T.b_unlike_in tk (by rfl) (ea_cons (eo_b 0) (ea_cons (eo_e (ej_bin op_addA oAddA_S (eo_b 1) (eo_e ej_int))) (ea_cons (eo_b 2) ea_nil)))))))
    sj_nil))
theorem ok_fresh_in (T : Tb K mg) : FnOk P w K mg base (L2.CX P w) 3 T.a_fresh_in T.d_fresh_in ["sheet", "day"] (spP K mg 2 sp_fresh_in) := by
  have nd := sc_fresh_in.nd
  refine def_ok (k := 2) (m := m_fresh_in) T.F_fresh_in sc_fresh_in rfl (fun cdv A outer s H E hr tk => ?_) re_fresh_in
  exact (sj_cons (sj_set 2 (ej_fz (ej_call (ok_first_looked T) (hr.mono (by decide)) T.g_first_looked T.F_first_looked.kp T.b_first_looked tk (by rfl) (ea_cons (eo_b 0) (ea_cons (eo_b 1) ea_nil)))) nd)
    (sj_cons (sj_ret (ej_bin op_sub oSub_S (eo_e (ej_call (ok_unlike_in T) (hr.mono (by decide)) T.g_unlike_in T.F_unlike_in.kp T.b_unlike_in tk (by rfl) (ea_cons (eo_b 0) (ea_cons (eo_b 2) (ea_cons (eo_b 1) ea_nil))))) (eo_e (ej_call (ok_unlike_in T) (hr.mono (by decide)) T.g_unlike_in T.F_unlike_in.kp T.b_unlike_in tk (by rfl) (ea_cons (eo_b 0) (ea_cons (eo_b 2) (ea_cons (eo_e (ej_bin op_sub oSub_S (eo_b 1) (eo_e ej_int))) ea_nil)))))))
    sj_nil))
theorem ok_gaps_in (T : Tb K mg) : FnOk P w K mg base (L2.CX P w) 3 T.a_gaps_in T.d_gaps_in ["sheet"] (spP K mg 1 sp_gaps_in) := by
  have nd := sc_gaps_in.nd
  refine def_ok (k := 2) (m := m_gaps_in) T.F_gaps_in sc_gaps_in rfl (fun cdv A outer s H E hr tk => ?_) re_gaps_in
  exact (sj_cons (sj_set 1 (ej_lst ea_nil) nd)
    (sj_cons (sj_for (passes_of rfl) rfl (ij_r1 T.n_range (eo_e (ej_bf call_lenA oLenA_S (by rfl) T.n_len b_len (ea_cons (eo_b 0) ea_nil)))) (gj_n 2 nd)
      (sj_cons (sj_for (passes_of rfl) rfl (ij_r2 T.n_range (eo_e (ej_bin op_addA oAddA_S (eo_b 2) (eo_e ej_int))) (eo_e (ej_bin op_addA oAddA_S (eo_e (ej_call (ok_last_looked T) (hr.mono (by decide)) T.g_last_looked T.F_last_looked.kp T.b_last_looked tk (by rfl) (ea_cons (eo_b 0) (ea_cons (eo_b 2) ea_nil)))) (eo_e ej_int)))) (gj_n 3 nd)
      (sj_cons (sj_app 1 (es := []) (ej_tup (ea_cons (eo_e (ej_var 2)) (ea_cons (eo_e (ej_var 3)) (ea_cons (eo_e (ej_call (ok_gap_in T) (hr.mono (by decide)) T.g_gap_in T.F_gap_in.kp T.b_gap_in tk (by rfl) (ea_cons (eo_b 0) (ea_cons (eo_b 2) (ea_cons (eo_b 3) ea_nil))))) ea_nil)))))
    (sj_kill [3] sj_nil)))
    (sj_kill [2, 3] sj_nil)))
    (sj_kill [2, 3] (sj_cons (sj_ret (ej_fz (ej_mov 1)))
    sj_nil))))
theorem ok_conflicts_in (T : Tb K mg) : FnOk P w K mg base (L2.CX P w) 4 T.a_conflicts_in T.d_conflicts_in ["sheet"] (spP K mg 1 sp_conflicts_in) := by
  have nd := sc_conflicts_in.nd
  refine def_ok (k := 3) (m := m_conflicts_in) T.F_conflicts_in sc_conflicts_in rfl (fun cdv A outer s H E hr tk => ?_) re_conflicts_in
  exact (sj_cons (sj_setLc (i := 1) rfl nd rfl rfl (sw_true rfl rfl rfl (by decide +kernel)) (ij_seq (ej_call (ok_gaps_in T) (hr.mono (by decide)) T.g_gaps_in T.F_gaps_in.kp T.b_gaps_in tk (by rfl) (ea_cons (eo_b 0) ea_nil))) (own := [("first", 3), ("second", 4), ("number", 5)]) (blkOk_by (by rfl)) (by decide) (fun _ _ _ _ _ => (gj_t rfl (gjs_cons (gj_n 3 nd) (gjs_cons (gj_n 4 nd) (gjs_cons (gj_n 5 nd) gjs_nil))))) (fun _ _ _ _ _ => (pts_one (et_cmp op_lt oLt_S (eo_b 5) (eo_e ej_int)))) (fun _ _ _ h => h) (fun _ _ _ _ _ => (ej_tup (ea_cons (eo_e ej_str) (ea_cons (eo_e (ej_var 3)) (ea_cons (eo_e (ej_var 4)) ea_nil))))))
    (sj_cons (sj_for (passes_of rfl) rfl (ij_r1 T.n_range (eo_e (ej_bf call_lenA oLenA_S (by rfl) T.n_len b_len (ea_cons (eo_b 0) ea_nil)))) (gj_n 2 nd)
      (sj_cons (sj_if (et_cmp op_lt oLt_S (eo_e (ej_call (ok_away_in T) (hr.mono (by decide)) T.g_away_in T.F_away_in.kp T.b_away_in tk (by rfl) (ea_cons (eo_b 0) (ea_cons (eo_b 2) ea_nil)))) (eo_e ej_int))
      (sj_cons (sj_app 1 (es := []) (ej_tup (ea_cons (eo_e ej_str) (ea_cons (eo_e (ej_var 2)) (ea_cons (eo_e (ej_call (ok_last_looked T) (hr.mono (by decide)) T.g_last_looked T.F_last_looked.kp T.b_last_looked tk (by rfl) (ea_cons (eo_b 0) (ea_cons (eo_b 2) ea_nil)))) ea_nil)))))
    sj_nil)
      sj_nil)
    (sj_cons (sj_if (et_cmp op_lt oLt_S (eo_e (ej_call (ok_fresh_in T) (hr.mono (by decide)) T.g_fresh_in T.F_fresh_in.kp T.b_fresh_in tk (by rfl) (ea_cons (eo_b 0) (ea_cons (eo_b 2) ea_nil)))) (eo_e ej_int))
      (sj_cons (sj_app 1 (es := []) (ej_tup (ea_cons (eo_e ej_str) (ea_cons (eo_e (ej_call (ok_first_looked T) (hr.mono (by decide)) T.g_first_looked T.F_first_looked.kp T.b_first_looked tk (by rfl) (ea_cons (eo_b 0) (ea_cons (eo_b 2) ea_nil)))) (ea_cons (eo_e (ej_var 2)) ea_nil)))))
    sj_nil)
      sj_nil)
    (sj_kill [2] sj_nil))))
    (sj_kill [2] (sj_cons (sj_ret (ej_fz (ej_mov 1)))
    sj_nil))))
theorem ok_conflict_in (T : Tb K mg) : FnOk P w K mg base (L2.CX P w) 5 T.a_conflict_in T.d_conflict_in ["sheet"] (spP K mg 1 sp_conflict_in) := by
  have nd := sc_conflict_in.nd
  refine def_ok (k := 4) (m := m_conflict_in) T.F_conflict_in sc_conflict_in rfl (fun cdv A outer s H E hr tk => ?_) re_conflict_in
  exact (sj_cons (sj_setLcF (i := 1) rfl nd rfl rfl (sw_true rfl rfl rfl (by decide +kernel)) (ij_seq (ej_call (ok_conflicts_in T) (hr.mono (by decide)) T.g_conflicts_in T.F_conflicts_in.kp T.b_conflicts_in tk (by rfl) (ea_cons (eo_b 0) ea_nil))) (own := [("conflict", 2)]) (blkOk_by (by rfl)) (by decide) (fun _ _ _ _ _ => (gj_n 2 nd)) (fun _ _ _ _ _ => pts_nil) pts_no (fun _ _ _ _ _ => (ej_rev3 (ej_var 2))))
    (sj_cons (sj_ret (ej_fz (ej_if (et_cmp (op_neD hr.units) oNe_S (eo_b 1) (eo_e (ej_lst ea_nil))) (ej_rev3 (ej_bf (cr_minD rfl hr.units) oMinD_S (by rfl) T.n_min b_min (ea_cons (eo_b 1) ea_nil))) ej_non)))
    sj_nil))
theorem ok_need_possible (T : Tb K mg) : FnOk P w K mg base (L2.CX P w) 6 T.a_need_possible T.d_need_possible ["sheet"] (spP K mg 1 sp_need_possible) := by
  have nd := sc_need_possible.nd
  refine def_ok (k := 5) (m := m_need_possible) T.F_need_possible sc_need_possible rfl (fun cdv A outer s H E hr tk => ?_) re_need_possible
  exact (sj_cons (sj_set 1 (ej_fz (ej_call (ok_conflict_in T) (hr.mono (by decide)) T.g_conflict_in T.F_conflict_in.kp T.b_conflict_in tk (by rfl) (ea_cons (eo_b 0) ea_nil))) nd)
    (sj_cons (sj_if (et_cmp op_notN oNotN_S (eo_b 1) (eo_e ej_non))
      (sj_cons (sj_raiseI (fs := ["word", "first", "second"]) T.x_Impossible T.o_Impossible T.f_Impossible T.i_Impossible T.t_Impossible (ok_Impossible_init T) (hr.mono (by decide)) T.b_Impossible (by decide) (by decide) (ea_cons (eo_e (ej_ix ix_any oIxG_S (eo_b 1) (eo_e ej_int))) (ea_cons (eo_e (ej_ix ix_any oIxG_S (eo_b 1) (eo_e ej_int))) (ea_cons (eo_e (ej_ix ix_any oIxG_S (eo_b 1) (eo_e ej_int))) ea_nil))) rfl tk)
    sj_nil)
      sj_nil)
    sj_nil))
theorem ok_away_of (T : Tb K mg) : FnOk P w K mg base (L2.CX P w) 6 T.a_away_of T.d_away_of ["sheet", "day"] (spP K mg 2 sp_away_of) := by
  have nd := sc_away_of.nd
  refine def_ok (k := 5) (m := m_away_of) T.F_away_of sc_away_of rfl (fun cdv A outer s H E hr tk => ?_) re_away_of
  exact (sj_cons (sj_expr (ej_call (ok_need_sheet T) (hr.mono (by decide)) T.g_need_sheet T.F_need_sheet.kp T.b_need_sheet tk (by rfl) (ea_cons (eo_b 0) ea_nil)))
    (sj_cons (sj_expr (ej_call (ok_need_day T) (hr.mono (by decide)) T.g_need_day T.F_need_day.kp T.b_need_day tk (by rfl) (ea_cons (eo_b 1) (ea_cons (eo_e (ej_bf call_lenA oLenA_S (by rfl) T.n_len b_len (ea_cons (eo_b 0) ea_nil))) ea_nil))))
    (sj_cons (sj_ret (ej_fz (ej_call (ok_away_in T) (hr.mono (by decide)) T.g_away_in T.F_away_in.kp T.b_away_in tk (by rfl) (ea_cons (eo_b 0) (ea_cons (eo_b 1) ea_nil)))))
    sj_nil)))
theorem ok_fresh_of (T : Tb K mg) : FnOk P w K mg base (L2.CX P w) 6 T.a_fresh_of T.d_fresh_of ["sheet", "day"] (spP K mg 2 sp_fresh_of) := by
  have nd := sc_fresh_of.nd
  refine def_ok (k := 5) (m := m_fresh_of) T.F_fresh_of sc_fresh_of rfl (fun cdv A outer s H E hr tk => ?_) re_fresh_of
  exact (sj_cons (sj_expr (ej_call (ok_need_sheet T) (hr.mono (by decide)) T.g_need_sheet T.F_need_sheet.kp T.b_need_sheet tk (by rfl) (ea_cons (eo_b 0) ea_nil)))
    (sj_cons (sj_expr (ej_call (ok_need_day T) (hr.mono (by decide)) T.g_need_day T.F_need_day.kp T.b_need_day tk (by rfl) (ea_cons (eo_b 1) (ea_cons (eo_e (ej_bf call_lenA oLenA_S (by rfl) T.n_len b_len (ea_cons (eo_b 0) ea_nil))) ea_nil))))
    (sj_cons (sj_ret (ej_fz (ej_call (ok_fresh_in T) (hr.mono (by decide)) T.g_fresh_in T.F_fresh_in.kp T.b_fresh_in tk (by rfl) (ea_cons (eo_b 0) (ea_cons (eo_b 1) ea_nil)))))
    sj_nil)))
theorem ok_all_gaps (T : Tb K mg) : FnOk P w K mg base (L2.CX P w) 6 T.a_all_gaps T.d_all_gaps ["sheet"] (spP K mg 1 sp_all_gaps) := by
  have nd := sc_all_gaps.nd
  refine def_ok (k := 5) (m := m_all_gaps) T.F_all_gaps sc_all_gaps rfl (fun cdv A outer s H E hr tk => ?_) re_all_gaps
  exact (sj_cons (sj_expr (ej_call (ok_need_sheet T) (hr.mono (by decide)) T.g_need_sheet T.F_need_sheet.kp T.b_need_sheet tk (by rfl) (ea_cons (eo_b 0) ea_nil)))
    (sj_cons (sj_ret (ej_fz (ej_lc rfl nd (ij_seq (ej_call (ok_gaps_in T) (hr.mono (by decide)) T.g_gaps_in T.F_gaps_in.kp T.b_gaps_in tk (by rfl) (ea_cons (eo_b 0) ea_nil))) (own := [("gap", 1)]) (blkOk_by (by rfl)) (by decide) (fun _ _ _ _ _ => (gj_n 1 nd)) (fun _ _ _ _ _ => (pts_one (et_cmp (op_neD hr.units) oNe_S (eo_e (ej_ix ix_any oIxG_S (eo_b 1) (eo_e ej_int))) (eo_e ej_int)))) (fun _ _ _ h => h) (fun _ _ _ _ _ => (ej_var 1)))))
    sj_nil))
theorem ok_conflict_of (T : Tb K mg) : FnOk P w K mg base (L2.CX P w) 6 T.a_conflict_of T.d_conflict_of ["sheet"] (spP K mg 1 sp_conflict_of) := by
  have nd := sc_conflict_of.nd
  refine def_ok (k := 5) (m := m_conflict_of) T.F_conflict_of sc_conflict_of rfl (fun cdv A outer s H E hr tk => ?_) re_conflict_of
  exact (sj_cons (sj_expr (ej_call (ok_need_sheet T) (hr.mono (by decide)) T.g_need_sheet T.F_need_sheet.kp T.b_need_sheet tk (by rfl) (ea_cons (eo_b 0) ea_nil)))
    (sj_cons (sj_ret (ej_fz (ej_call (ok_conflict_in T) (hr.mono (by decide)) T.g_conflict_in T.F_conflict_in.kp T.b_conflict_in tk (by rfl) (ea_cons (eo_b 0) ea_nil))))
    sj_nil))
theorem ok_most_in (T : Tb K mg) : FnOk P w K mg base (L2.CX P w) 4 T.a_most_in T.d_most_in ["sheet", "first", "last"] (spP K mg 3 sp_most_in) := by
  have nd := sc_most_in.nd
  refine def_ok (k := 3) (m := m_most_in) T.F_most_in sc_most_in rfl (fun cdv A outer s H E hr tk => ?_) re_most_in
  exact (sj_cons (sj_set 3 (ej_fz (ej_bin op_addA oAddA_S (eo_b 1) (eo_e (ej_call (ok_width_told T) (hr.mono (by decide)) T.g_width_told T.F_width_told.kp T.b_width_told tk (by rfl) (ea_cons (eo_b 0) ea_nil))))) nd)
    (sj_cons (sj_ret (ej_bin op_addA oAddA_S (eo_e (ej_call (ok_unlike_in T) (hr.mono (by decide)) T.g_unlike_in T.F_unlike_in.kp T.b_unlike_in tk (by rfl) (ea_cons (eo_b 0) (ea_cons (eo_b 1) (ea_cons (eo_e (ej_bin op_sub oSub_S (eo_b 3) (eo_e ej_int))) ea_nil))))) (eo_e (ej_bf (cr_sum rfl) oSum_S (by rfl) T.n_sum b_sum (ea_cons (eo_e (ej_lc rfl nd (ij_r2 T.n_range (eo_b 3) (eo_e (ej_bin op_addA oAddA_S (eo_b 2) (eo_e ej_int)))) (own := [("day", 4)]) (blkOk_by (by rfl)) (by decide) (fun _ _ _ _ _ => (gj_n 4 nd)) (fun _ _ _ _ _ => pts_nil) pts_no (fun _ _ _ _ _ => (ej_call (ok_fresh_in T) (hr.mono (by decide)) T.g_fresh_in T.F_fresh_in.kp T.b_fresh_in takes0 (by rfl) (ea_cons (eo_b 0) (ea_cons (eo_b 4) ea_nil)))))) ea_nil)))))
    sj_nil))
theorem ok_covers_in (T : Tb K mg) : FnOk P w K mg base (L2.CX P w) 4 T.a_covers_in T.d_covers_in ["sheet", "first", "last"] (spP K mg 3 sp_covers_in) := by
  have nd := sc_covers_in.nd
  refine def_ok (k := 3) (m := m_covers_in) T.F_covers_in sc_covers_in rfl (fun cdv A outer s H E hr tk => ?_) re_covers_in
  exact (sj_cons (sj_par 3 4 rfl nd (ea_cons (eo_e (ej_call (ok_width_told T) (hr.mono (by decide)) T.g_width_told T.F_width_told.kp T.b_width_told tk (by rfl) (ea_cons (eo_b 0) ea_nil))) (ea_cons (eo_e (ej_lst ea_nil)) ea_nil)))
    (sj_cons (sj_for (passes_of rfl) rfl (ij_r2 T.n_range (eo_b 1) (eo_e (ej_bin op_addA oAddA_S (eo_e (ej_bin op_sub oSub_S (eo_b 2) (eo_b 3))) (eo_e ej_int)))) (gj_n 5 nd)
      (sj_cons (sj_set 6 (ej_bf (cr_sum rfl) oSum_S (by rfl) T.n_sum b_sum (ea_cons (eo_e (ej_lc rfl nd (ij_r2 T.n_range (eo_b 1) (eo_b 5)) (own := [("day", 8)]) (blkOk_by (by rfl)) (by decide) (fun _ _ _ _ _ => (gj_n 8 nd)) (fun _ _ _ _ _ => pts_nil) pts_no (fun _ _ _ _ _ => (ej_call (ok_away_in T) (hr.mono (by decide)) T.g_away_in T.F_away_in.kp T.b_away_in takes0 (by rfl) (ea_cons (eo_b 0) (ea_cons (eo_b 8) ea_nil)))))) ea_nil)) nd)
    (sj_cons (sj_set 7 (ej_bf (cr_sum rfl) oSum_S (by rfl) T.n_sum b_sum (ea_cons (eo_e (ej_lc rfl nd (ij_r2 T.n_range (eo_e (ej_bin op_addA oAddA_S (eo_b 5) (eo_b 3))) (eo_e (ej_bin op_addA oAddA_S (eo_b 2) (eo_e ej_int)))) (own := [("day", 8)]) (blkOk_by (by rfl)) (by decide) (fun _ _ _ _ _ => (gj_n 8 nd)) (fun _ _ _ _ _ => pts_nil) pts_no (fun _ _ _ _ _ => (ej_call (ok_fresh_in T) (hr.mono (by decide)) T.g_fresh_in T.F_fresh_in.kp T.b_fresh_in takes0 (by rfl) (ea_cons (eo_b 0) (ea_cons (eo_b 8) ea_nil)))))) ea_nil)) nd)
    (sj_cons (sj_app 4 (es := []) (ej_tup (ea_cons (eo_e (ej_bin op_addA oAddA_S (eo_b 6) (eo_b 7))) (ea_cons (eo_e (ej_var 5)) ea_nil))))
    (sj_kill [5, 6, 7] sj_nil)))))
    (sj_kill [5, 6, 7] (sj_cons (sj_ret (ej_fz (ej_mov 4)))
    sj_nil))))
theorem ok_longer_in (T : Tb K mg) : FnOk P w K mg base (L2.CX P w) 5 T.a_longer_in T.d_longer_in ["sheet", "first", "last"] (spP K mg 3 sp_longer_in) := by
  have nd := sc_longer_in.nd
  refine def_ok (k := 4) (m := m_longer_in) T.F_longer_in sc_longer_in rfl (fun cdv A outer s H E hr tk => ?_) re_longer_in
  exact (sj_cons (sj_if (et_cmp op_lt oLt_S (eo_e (ej_bin op_sub oSub_S (eo_b 2) (eo_b 1))) (eo_e (ej_call (ok_width_told T) (hr.mono (by decide)) T.g_width_told T.F_width_told.kp T.b_width_told tk (by rfl) (ea_cons (eo_b 0) ea_nil))))
      (sj_cons (sj_ret (ej_tup (ea_cons (eo_e (ej_call (ok_unlike_in T) (hr.mono (by decide)) T.g_unlike_in T.F_unlike_in.kp T.b_unlike_in tk (by rfl) (ea_cons (eo_b 0) (ea_cons (eo_b 1) (ea_cons (eo_b 2) ea_nil))))) (ea_cons (eo_e (ej_call (ok_unlike_in T) (hr.mono (by decide)) T.g_unlike_in T.F_unlike_in.kp T.b_unlike_in tk (by rfl) (ea_cons (eo_b 0) (ea_cons (eo_b 1) (ea_cons (eo_b 2) ea_nil))))) ea_nil))))
    sj_nil)
      sj_nil)
    (sj_cons (sj_set 3 (ej_fz (ej_call (ok_most_in T) (hr.mono (by decide)) T.g_most_in T.F_most_in.kp T.b_most_in tk (by rfl) (ea_cons (eo_b 0) (ea_cons (eo_b 1) (ea_cons (eo_b 2) ea_nil))))) nd)
    (sj_cons (sj_ret (ej_tup (ea_cons (eo_e (ej_bin op_sub oSub_S (eo_b 3) (eo_e (ej_ix ix_any oIxG_S (eo_e (ej_bf (cr_minD rfl hr.units) oMinD_S (by rfl) T.n_min b_min (ea_cons (eo_e (ej_call (ok_covers_in T) (hr.mono (by decide)) T.g_covers_in T.F_covers_in.kp T.b_covers_in tk (by rfl) (ea_cons (eo_b 0) (ea_cons (eo_b 1) (ea_cons (eo_b 2) ea_nil))))) ea_nil))) (eo_e ej_int))))) (ea_cons (eo_e (ej_var 3)) ea_nil))))
    sj_nil)))
theorem ok_need_stretch (T : Tb K mg) : FnOk P w K mg base (L2.CX P w) 6 T.a_need_stretch T.d_need_stretch ["sheet", "first", "last"] (spP K mg 3 sp_need_stretch) := by
  have nd := sc_need_stretch.nd
  refine def_ok (k := 5) (m := m_need_stretch) T.F_need_stretch sc_need_stretch rfl (fun cdv A outer s H E hr tk => ?_) re_need_stretch
  exact (sj_cons (sj_expr (ej_call (ok_need_sheet T) (hr.mono (by decide)) T.g_need_sheet T.F_need_sheet.kp T.b_need_sheet tk (by rfl) (ea_cons (eo_b 0) ea_nil)))
    (sj_cons (sj_expr (ej_call (ok_need_day T) (hr.mono (by decide)) T.g_need_day T.F_need_day.kp T.b_need_day tk (by rfl) (ea_cons (eo_b 1) (ea_cons (eo_e (ej_bf call_lenA oLenA_S (by rfl) T.n_len b_len (ea_cons (eo_b 0) ea_nil))) ea_nil))))
    (sj_cons (sj_expr (ej_call (ok_need_day T) (hr.mono (by decide)) T.g_need_day T.F_need_day.kp T.b_need_day tk (by rfl) (ea_cons (eo_b 2) (ea_cons (eo_e (ej_bf call_lenA oLenA_S (by rfl) T.n_len b_len (ea_cons (eo_b 0) ea_nil))) ea_nil))))
    (sj_cons (sj_if (et_cmp op_lt oLt_S (eo_b 2) (eo_b 1))
      (sj_cons (sj_raise T.x_InvalidDay T.z_InvalidDay rfl tk)
    sj_nil)
      sj_nil)
    sj_nil))))
theorem ok_longer_range (T : Tb K mg) : FnOk P w K mg base (L2.CX P w) 7 T.a_longer_range T.d_longer_range ["sheet", "first", "last"] (spP K mg 3 sp_longer_range) := by
  have nd := sc_longer_range.nd
  refine def_ok (k := 6) (m := m_longer_range) T.F_longer_range sc_longer_range rfl (fun cdv A outer s H E hr tk => ?_) re_longer_range
  exact (sj_cons (sj_expr (ej_call (ok_need_stretch T) (hr.mono (by decide)) T.g_need_stretch T.F_need_stretch.kp T.b_need_stretch tk (by rfl) (ea_cons (eo_b 0) (ea_cons (eo_b 1) (ea_cons (eo_b 2) ea_nil)))))
    (sj_cons (sj_expr (ej_call (ok_need_possible T) (hr.mono (by decide)) T.g_need_possible T.F_need_possible.kp T.b_need_possible tk (by rfl) (ea_cons (eo_b 0) ea_nil)))
    (sj_cons (sj_ret (ej_fz (ej_call (ok_longer_in T) (hr.mono (by decide)) T.g_longer_in T.F_longer_in.kp T.b_longer_in tk (by rfl) (ea_cons (eo_b 0) (ea_cons (eo_b 1) (ea_cons (eo_b 2) ea_nil))))))
    sj_nil)))
theorem ok_new_in (T : Tb K mg) : FnOk P w K mg base (L2.CX P w) 4 T.a_new_in T.d_new_in ["sheet", "day"] (spP K mg 2 sp_new_in) := by
  have nd := sc_new_in.nd
  refine def_ok (k := 3) (m := m_new_in) T.F_new_in sc_new_in rfl (fun cdv A outer s H E hr tk => ?_) re_new_in
  exact (sj_cons (sj_set 2 (ej_fz (ej_call (ok_fresh_in T) (hr.mono (by decide)) T.g_fresh_in T.F_fresh_in.kp T.b_fresh_in tk (by rfl) (ea_cons (eo_b 0) (ea_cons (eo_b 1) ea_nil)))) nd)
    (sj_cons (sj_set 3 (ej_bf (cr_sum rfl) oSum_S (by rfl) T.n_sum b_sum (ea_cons (eo_e (ej_lc rfl nd (ij_r1 T.n_range (eo_e (ej_bin op_addA oAddA_S (eo_e (ej_bin op_sub oSub_S (eo_b 1) (eo_e (ej_call (ok_width_told T) (hr.mono (by decide)) T.g_width_told T.F_width_told.kp T.b_width_told tk (by rfl) (ea_cons (eo_b 0) ea_nil))))) (eo_e ej_int)))) (own := [("earlier", 4)]) (blkOk_by (by rfl)) (by decide) (fun _ _ _ _ _ => (gj_n 4 nd)) (fun _ _ _ _ _ => pts_nil) pts_no (fun _ _ _ _ _ => (ej_call (ok_away_in T) (hr.mono (by decide)) T.g_away_in T.F_away_in.kp T.b_away_in takes0 (by rfl) (ea_cons (eo_b 0) (ea_cons (eo_b 4) ea_nil)))))) ea_nil)) nd)
    (sj_cons (sj_ret (ej_tup (ea_cons (eo_e (ej_bf (call_max2 rfl) oMax_S (by rfl) T.n_max b_max (ea_cons (eo_e ej_int) (ea_cons (eo_e (ej_bin op_sub oSub_S (eo_b 2) (eo_b 3))) ea_nil)))) (ea_cons (eo_e (ej_var 2)) ea_nil))))
    sj_nil)))
theorem ok_gone_in (T : Tb K mg) : FnOk P w K mg base (L2.CX P w) 4 T.a_gone_in T.d_gone_in ["sheet", "day"] (spP K mg 2 sp_gone_in) := by
  have nd := sc_gone_in.nd
  refine def_ok (k := 3) (m := m_gone_in) T.F_gone_in sc_gone_in rfl (fun cdv A outer s H E hr tk => ?_) re_gone_in
  exact (sj_cons (sj_set 2 (ej_fz (ej_call (ok_away_in T) (hr.mono (by decide)) T.g_away_in T.F_away_in.kp T.b_away_in tk (by rfl) (ea_cons (eo_b 0) (ea_cons (eo_b 1) ea_nil)))) nd)
    (sj_cons (sj_set 3 (ej_bf (cr_sum rfl) oSum_S (by rfl) T.n_sum b_sum (ea_cons (eo_e (ej_lc rfl nd (ij_r2 T.n_range (eo_e (ej_bin op_addA oAddA_S (eo_b 1) (eo_e (ej_call (ok_width_told T) (hr.mono (by decide)) T.g_width_told T.F_width_told.kp T.b_width_told tk (by rfl) (ea_cons (eo_b 0) ea_nil))))) (eo_e (ej_bf call_lenA oLenA_S (by rfl) T.n_len b_len (ea_cons (eo_b 0) ea_nil)))) (own := [("later", 4)]) (blkOk_by (by rfl)) (by decide) (fun _ _ _ _ _ => (gj_n 4 nd)) (fun _ _ _ _ _ => pts_nil) pts_no (fun _ _ _ _ _ => (ej_call (ok_fresh_in T) (hr.mono (by decide)) T.g_fresh_in T.F_fresh_in.kp T.b_fresh_in takes0 (by rfl) (ea_cons (eo_b 0) (ea_cons (eo_b 4) ea_nil)))))) ea_nil)) nd)
    (sj_cons (sj_ret (ej_tup (ea_cons (eo_e (ej_bf (call_max2 rfl) oMax_S (by rfl) T.n_max b_max (ea_cons (eo_e ej_int) (ea_cons (eo_e (ej_bin op_sub oSub_S (eo_b 2) (eo_b 3))) ea_nil)))) (ea_cons (eo_e (ej_var 2)) ea_nil))))
    sj_nil)))
theorem ok_next_in (T : Tb K mg) : FnOk P w K mg base (L2.CX P w) 4 T.a_next_in T.d_next_in ["sheet", "first", "second"] (spP K mg 3 sp_next_in) := by
  have nd := sc_next_in.nd
  refine def_ok (k := 3) (m := m_next_in) T.F_next_in sc_next_in rfl (fun cdv A outer s H E hr tk => ?_) re_next_in
  exact (sj_cons (sj_if (et_cmp op_lt oLt_S (eo_e (ej_bin op_sub oSub_S (eo_b 2) (eo_b 1))) (eo_e (ej_call (ok_width_told T) (hr.mono (by decide)) T.g_width_told T.F_width_told.kp T.b_width_told tk (by rfl) (ea_cons (eo_b 0) ea_nil))))
      (sj_cons (sj_ret (ej_tup (ea_cons (eo_e (ej_call (ok_gap_in T) (hr.mono (by decide)) T.g_gap_in T.F_gap_in.kp T.b_gap_in tk (by rfl) (ea_cons (eo_b 0) (ea_cons (eo_b 1) (ea_cons (eo_b 2) ea_nil))))) (ea_cons (eo_e (ej_call (ok_gap_in T) (hr.mono (by decide)) T.g_gap_in T.F_gap_in.kp T.b_gap_in tk (by rfl) (ea_cons (eo_b 0) (ea_cons (eo_b 1) (ea_cons (eo_b 2) ea_nil))))) ea_nil))))
    sj_nil)
      sj_nil)
    (sj_cons (sj_ret (ej_tup (ea_cons (eo_e ej_int) (ea_cons (eo_e (ej_bf (call_min2 rfl) oMin_S (by rfl) T.n_min b_min (ea_cons (eo_e (ej_call (ok_away_in T) (hr.mono (by decide)) T.g_away_in T.F_away_in.kp T.b_away_in tk (by rfl) (ea_cons (eo_b 0) (ea_cons (eo_b 1) ea_nil)))) (ea_cons (eo_e (ej_call (ok_fresh_in T) (hr.mono (by decide)) T.g_fresh_in T.F_fresh_in.kp T.b_fresh_in tk (by rfl) (ea_cons (eo_b 0) (ea_cons (eo_b 2) ea_nil)))) ea_nil)))) ea_nil))))
    sj_nil))
theorem ok_new_range (T : Tb K mg) : FnOk P w K mg base (L2.CX P w) 7 T.a_new_range T.d_new_range ["sheet", "day"] (spP K mg 2 sp_new_range) := by
  have nd := sc_new_range.nd
  refine def_ok (k := 6) (m := m_new_range) T.F_new_range sc_new_range rfl (fun cdv A outer s H E hr tk => ?_) re_new_range
  exact (sj_cons (sj_expr (ej_call (ok_need_sheet T) (hr.mono (by decide)) T.g_need_sheet T.F_need_sheet.kp T.b_need_sheet tk (by rfl) (ea_cons (eo_b 0) ea_nil)))
    (sj_cons (sj_expr (ej_call (ok_need_day T) (hr.mono (by decide)) T.g_need_day T.F_need_day.kp T.b_need_day tk (by rfl) (ea_cons (eo_b 1) (ea_cons (eo_e (ej_bf call_lenA oLenA_S (by rfl) T.n_len b_len (ea_cons (eo_b 0) ea_nil))) ea_nil))))
    (sj_cons (sj_expr (ej_call (ok_need_possible T) (hr.mono (by decide)) T.g_need_possible T.F_need_possible.kp T.b_need_possible tk (by rfl) (ea_cons (eo_b 0) ea_nil)))
    (sj_cons (sj_ret (ej_fz (ej_call (ok_new_in T) (hr.mono (by decide)) T.g_new_in T.F_new_in.kp T.b_new_in tk (by rfl) (ea_cons (eo_b 0) (ea_cons (eo_b 1) ea_nil)))))
    sj_nil))))
theorem ok_gone_range (T : Tb K mg) : FnOk P w K mg base (L2.CX P w) 7 T.a_gone_range T.d_gone_range ["sheet", "day"] (spP K mg 2 sp_gone_range) := by
  have nd := sc_gone_range.nd
  refine def_ok (k := 6) (m := m_gone_range) T.F_gone_range sc_gone_range rfl (fun cdv A outer s H E hr tk => ?_) re_gone_range
  exact (sj_cons (sj_expr (ej_call (ok_need_sheet T) (hr.mono (by decide)) T.g_need_sheet T.F_need_sheet.kp T.b_need_sheet tk (by rfl) (ea_cons (eo_b 0) ea_nil)))
    (sj_cons (sj_expr (ej_call (ok_need_day T) (hr.mono (by decide)) T.g_need_day T.F_need_day.kp T.b_need_day tk (by rfl) (ea_cons (eo_b 1) (ea_cons (eo_e (ej_bf call_lenA oLenA_S (by rfl) T.n_len b_len (ea_cons (eo_b 0) ea_nil))) ea_nil))))
    (sj_cons (sj_expr (ej_call (ok_need_possible T) (hr.mono (by decide)) T.g_need_possible T.F_need_possible.kp T.b_need_possible tk (by rfl) (ea_cons (eo_b 0) ea_nil)))
    (sj_cons (sj_ret (ej_fz (ej_call (ok_gone_in T) (hr.mono (by decide)) T.g_gone_in T.F_gone_in.kp T.b_gone_in tk (by rfl) (ea_cons (eo_b 0) (ea_cons (eo_b 1) ea_nil)))))
    sj_nil))))
theorem ok_next_range (T : Tb K mg) : FnOk P w K mg base (L2.CX P w) 7 T.a_next_range T.d_next_range ["sheet", "first", "second"] (spP K mg 3 sp_next_range) := by
  have nd := sc_next_range.nd
  refine def_ok (k := 6) (m := m_next_range) T.F_next_range sc_next_range rfl (fun cdv A outer s H E hr tk => ?_) re_next_range
  exact (sj_cons (sj_expr (ej_call (ok_need_sheet T) (hr.mono (by decide)) T.g_need_sheet T.F_need_sheet.kp T.b_need_sheet tk (by rfl) (ea_cons (eo_b 0) ea_nil)))
    (sj_cons (sj_expr (ej_call (ok_need_day T) (hr.mono (by decide)) T.g_need_day T.F_need_day.kp T.b_need_day tk (by rfl) (ea_cons (eo_b 1) (ea_cons (eo_e (ej_bf call_lenA oLenA_S (by rfl) T.n_len b_len (ea_cons (eo_b 0) ea_nil))) ea_nil))))
    (sj_cons (sj_expr (ej_call (ok_need_day T) (hr.mono (by decide)) T.g_need_day T.F_need_day.kp T.b_need_day tk (by rfl) (ea_cons (eo_b 2) (ea_cons (eo_e (ej_bf call_lenA oLenA_S (by rfl) T.n_len b_len (ea_cons (eo_b 0) ea_nil))) ea_nil))))
    (sj_cons (sj_if (et_cmp op_le oLe_S (eo_b 2) (eo_b 1))
      (sj_cons (sj_raise T.x_InvalidDay T.z_InvalidDay rfl tk)
    sj_nil)
      sj_nil)
    (sj_cons (sj_expr (ej_call (ok_need_possible T) (hr.mono (by decide)) T.g_need_possible T.F_need_possible.kp T.b_need_possible tk (by rfl) (ea_cons (eo_b 0) ea_nil)))
    (sj_cons (sj_ret (ej_fz (ej_call (ok_next_in T) (hr.mono (by decide)) T.g_next_in T.F_next_in.kp T.b_next_in tk (by rfl) (ea_cons (eo_b 0) (ea_cons (eo_b 1) (ea_cons (eo_b 2) ea_nil))))))
    sj_nil))))))
theorem ok0_L_jar (T : Tb K mg) : FnOk P w K mg base (L2.CX P w) 1 T.a_L_jar T.d_L_jar ["script", "k"] (spP K mg 2 sp0_L_jar) := by
  have nd := sc_L_jar.nd
  refine def_ok (k := 0) (m := m_L_jar) T.F_L_jar sc_L_jar rfl (fun cdv A outer s H E hr tk => ?_) re_L_jar
  exact (sj_cons (sj_set 2 (ej_if (et_cmp op_lt oLt_S (eo_b 1) (eo_e (ej_bf call_lenA oLenA_S (by rfl) T.n_len b_len (ea_cons (eo_b 0) ea_nil)))) (ej_bf call_abs oAbs_S (by rfl) T.n_abs b_abs (ea_cons (eo_e (ej_ix ix_any oIxG_S (eo_b 0) (eo_b 1))) ea_nil)) ej_int) nd)
    (sj_cons (sj_ret (ej_lst (ea_cons (eo_e (ej_bf (call_max2 rfl) oMax_S (by rfl) T.n_max b_max (ea_cons (eo_e ej_int) (ea_cons (eo_e (ej_bin op_sub oSub_S (eo_b 2) (eo_e (ej_bin op_powV oPow_S (eo_e ej_int) (eo_e ej_int))))) ea_nil)))) (ea_cons (eo_e (ej_bin op_addA oAddA_S (eo_e (ej_bin op_mulA oMulA_S (eo_e (ej_bin op_mod oMod_S (eo_e (ej_bt call_int1 oInt_S (by rfl) T.n_int b_int (ea_cons (eo_b 2) ea_nil))) (eo_e (ej_bin op_addA oAddA_S (eo_e (ej_bin op_powV oPow_S (eo_e ej_int) (eo_e ej_int))) (eo_e ej_int))))) (eo_e ej_int))) (eo_e (ej_bin op_mulA oMulA_S (eo_e ej_int) (eo_b 1))))) (ea_cons (eo_e ej_int) ea_nil)))))
    sj_nil))
theorem ok_L_jar (T : Tb K mg) : FnOk P w K mg base (L2.CX P w) 1 T.a_L_jar T.d_L_jar ["script", "k"] (spP K mg 2 sp_L_jar) := lab_ok (ok0_L_jar T) lab_L_jar
theorem okI_L_dip (T : Tb K mg) : FnOk P w K mg base (L2.CX P w) 1 T.a_L_dip T.d_L_dip ["jar", "many"] (spI K mg 2 spI_L_dip) := by
  have nd := sc_L_dip.nd
  refine def_okI (k := 0) (m := m_L_dip) T.F_L_dip sc_L_dip rfl (fun cdv A outer s H E hr tk => ?_) re_L_dip
  exact (sj_cons (sj_if (et_cmp op_gt oGt_S (eo_e (ej_rd (eb_ix (eb_var 0) ej_int))) (eo_e ej_int))
      (sj_cons (sj_set 2 (ej_bin op_mod oMod_S (eo_e (ej_bt call_int1 oInt_S (by rfl) T.n_int b_int (ea_cons (eo_e (ej_rd (eb_ix (eb_var 0) ej_int))) ea_nil))) (eo_b 1)) nd)
    (sj_cons (sj_setP (i := 0) (ej_bin op_fdivW oDiv_S (eo_e (ej_rd (eb_ix (eb_var 0) ej_int))) (eo_b 1)) (eb_var 0) ej_int)
    (sj_cons (sj_ret (ej_var 2))
    sj_nil)))
      sj_nil)
    (sj_kill [2] (sj_cons (sj_setP (i := 0) (ej_bin op_addA oAddA_S (eo_e (ej_rd (eb_ix (eb_var 0) ej_int))) (eo_e ej_int)) (eb_var 0) ej_int)
    (sj_cons (sj_set 3 (ej_bin op_mod oMod_S (eo_e (ej_bt call_int1 oInt_S (by rfl) T.n_int b_int (ea_cons (eo_e (ej_bin op_powV oPow_S (eo_e (ej_bin op_addA oAddA_S (eo_e (ej_rd (eb_ix (eb_var 0) ej_int))) (eo_e (ej_bin op_mulA oMulA_S (eo_e ej_int) (eo_e (ej_rd (eb_ix (eb_var 0) ej_int))))))) (eo_e ej_int))) ea_nil))) (eo_e (ej_bin op_addA oAddA_S (eo_e (ej_bin op_powV oPow_S (eo_e ej_int) (eo_e ej_int))) (eo_e ej_int)))) nd)
    (sj_cons (sj_set 3 (ej_bin op_mod oMod_S (eo_e (ej_bt call_int1 oInt_S (by rfl) T.n_int b_int (ea_cons (eo_e (ej_bin op_powV oPow_S (eo_e (ej_bin op_addA oAddA_S (eo_b 3) (eo_e (ej_bin op_mulA oMulA_S (eo_e ej_int) (eo_e (ej_rd (eb_ix (eb_var 0) ej_int))))))) (eo_e ej_int))) ea_nil))) (eo_e (ej_bin op_addA oAddA_S (eo_e (ej_bin op_powV oPow_S (eo_e ej_int) (eo_e ej_int))) (eo_e ej_int)))) nd)
    (sj_cons (sj_ret (ej_bin op_mod oMod_S (eo_e (ej_bt call_int1 oInt_S (by rfl) T.n_int b_int (ea_cons (eo_e (ej_bin op_fdivW oDiv_S (eo_b 3) (eo_e ej_int))) ea_nil))) (eo_b 1)))
    sj_nil))))))
theorem okI_L_many (T : Tb K mg) : FnOk P w K mg base (L2.CX P w) 2 T.a_L_many T.d_L_many ["jar"] (spI K mg 1 spI_L_many) := by
  have nd := sc_L_many.nd
  refine def_okI (k := 1) (m := m_L_many) T.F_L_many sc_L_many rfl (fun cdv A outer s H E hr tk => ?_) re_L_many
  exact (sj_cons (sj_ret (ej_bin op_addA oAddA_S (eo_e ej_int) (eo_e (ej_callI (okI_L_dip T) (hr.mono (by decide)) T.g_L_dip T.F_L_dip.kp T.b_L_dip tk (by rfl) (ea_cons (eo_o 0) (ea_cons (eo_e (ej_ix ix_any oIxG_S (eo_e (ej_lst (ea_cons (eo_e ej_int) (ea_cons (eo_e ej_int) (ea_cons (eo_e (ej_bin op_powV oPow_S (eo_e ej_int) (eo_e ej_int))) ea_nil))))) (eo_e (ej_callI (okI_L_dip T) (hr.mono (by decide)) T.g_L_dip T.F_L_dip.kp T.b_L_dip tk (by rfl) (ea_cons (eo_o 0) (ea_cons (eo_e ej_int) ea_nil)))))) ea_nil))))))
    sj_nil)
theorem okI_L_days (T : Tb K mg) : FnOk P w K mg base (L2.CX P w) 2 T.a_L_days T.d_L_days ["jar", "count_here"] (spI K mg 2 spI_L_days) := by
  have nd := sc_L_days.nd
  refine def_okI (k := 1) (m := m_L_days) T.F_L_days sc_L_days rfl (fun cdv A outer s H E hr tk => ?_) re_L_days
  exact (sj_cons (sj_set 2 (ej_callI (okI_L_dip T) (hr.mono (by decide)) T.g_L_dip T.F_L_dip.kp T.b_L_dip tk (by rfl) (ea_cons (eo_o 0) (ea_cons (eo_e ej_int) ea_nil))) nd)
    (sj_cons (sj_if (et_cmp (op_eqD hr.units) oEq_S (eo_b 2) (eo_e ej_int))
      (sj_cons (sj_set 3 (ej_callI (okI_L_dip T) (hr.mono (by decide)) T.g_L_dip T.F_L_dip.kp T.b_L_dip tk (by rfl) (ea_cons (eo_o 0) (ea_cons (eo_b 1) ea_nil))) nd)
    (sj_cons (sj_ret (ej_tupR rfl T.n_tuple T.n_range (eo_b 3) (eo_e (ej_bin op_addA oAddA_S (eo_e (ej_bin op_addA oAddA_S (eo_b 3) (eo_e ej_int))) (eo_e (ej_callI (okI_L_dip T) (hr.mono (by decide)) T.g_L_dip T.F_L_dip.kp T.b_L_dip tk (by rfl) (ea_cons (eo_o 0) (ea_cons (eo_e (ej_bin op_sub oSub_S (eo_b 1) (eo_b 3))) ea_nil))))))))
    sj_nil))
      sj_nil)
    (sj_kill [3] (sj_cons (sj_set 4 (ej_fz (ej_ix ix_any oIxG_S (eo_e (ej_lst (ea_cons (eo_e ej_int) (ea_cons (eo_e ej_int) ea_nil)))) (eo_e (ej_bin op_sub oSub_S (eo_b 2) (eo_e ej_int))))) nd)
    (sj_cons (sj_setLcF (i := 5) rfl nd rfl rfl (sw_true rfl rfl rfl (by decide +kernel)) (ij_r1 T.n_range (eo_b 1)) (own := [("spot", 6)]) (blkOk_by (by rfl)) (by decide) (fun _ _ _ _ _ => (gj_n 6 nd)) (fun _ _ _ _ _ => (pts_one (et_cmp (op_eqD hr.units) oEq_S (eo_e (ej_callI (okI_L_dip T) (hr.mono (by decide)) T.g_L_dip T.F_L_dip.kp T.b_L_dip takes0 (by rfl) (ea_cons (eo_o 0) (ea_cons (eo_b 4) ea_nil)))) (eo_e ej_int)))) (fun _ _ _ h => h) (fun _ _ _ _ _ => (ej_var 6)))
    (sj_cons (sj_ret (ej_if (et_cmp (op_neD hr.units) oNe_S (eo_b 5) (eo_e (ej_lst ea_nil))) (ej_bt call_tuple_of oTuple_S (by rfl) T.n_tuple b_tuple (ea_cons (eo_b 5) ea_nil)) (ej_tup (ea_cons (eo_e (ej_callI (okI_L_dip T) (hr.mono (by decide)) T.g_L_dip T.F_L_dip.kp T.b_L_dip tk (by rfl) (ea_cons (eo_o 0) (ea_cons (eo_b 1) ea_nil)))) ea_nil))))
    sj_nil))))))
theorem okI_L_family (T : Tb K mg) : FnOk P w K mg base (L2.CX P w) 3 T.a_L_family T.d_L_family ["jar", "count_here", "size"] (spI K mg 3 spI_L_family) := by
  have nd := sc_L_family.nd
  refine def_okI (k := 2) (m := m_L_family) T.F_L_family sc_L_family rfl (fun cdv A outer s H E hr tk => ?_) re_L_family
  exact (sj_cons (sj_set 3 ej_dnew nd)
    (sj_cons (sj_for (passes_of rfl) rfl (ij_r1 T.n_range (eo_b 2)) (gj_n 4 nd)
      (sj_cons (sj_set 5 (ej_fz (ej_callI (okI_L_days T) (hr.mono (by decide)) T.g_L_days T.F_L_days.kp T.b_L_days tk (by rfl) (ea_cons (eo_o 0) (ea_cons (eo_b 1) ea_nil)))) nd)
    (sj_cons (sj_dput 3 hr.units (ej_bin op_addA oAddA_S (eo_e (ej_getO 3 hr.units (ej_var 5) ej_int ⟨by rfl, by rfl, by rfl, by rfl⟩)) (eo_e (ej_callI (okI_L_many T) (hr.mono (by decide)) T.g_L_many T.F_L_many.kp T.b_L_many tk (by rfl) (ea_cons (eo_o 0) ea_nil)))) (ej_var 5))
    (sj_kill [4, 5] sj_nil))))
    (sj_kill [4, 5] (sj_lock 3 (sj_cons (sj_ret (ej_fz (ej_bf (cr_sortedD hr.units) oSorted_S (by rfl) T.n_sorted b_sorted (ea_cons (eo_e (ej_lc rfl nd (ij_keysD (ej_var 3)) (own := [("one", 5)]) (blkOk_by (by rfl)) (by decide) (fun _ _ _ _ _ => (gj_n 5 nd)) (fun _ _ _ _ _ => pts_nil) pts_no (fun _ _ _ _ _ => (ej_tup (ea_cons (eo_e (ej_var 5)) (ea_cons (eo_e (ej_dget hr.units (eo_b 3) (eo_b 5))) ea_nil)))))) ea_nil))))
    sj_nil)))))
theorem ok_L_sheet (T : Tb K mg) : FnOk P w K mg base (L2.CX P w) 1 T.a_L_sheet T.d_L_sheet ["some", "count_here", "wide"] (spP K mg 3 sp_L_sheet) := by
  have nd := sc_L_sheet.nd
  refine def_ok (k := 0) (m := m_L_sheet) T.F_L_sheet sc_L_sheet rfl (fun cdv A outer s H E hr tk => ?_) re_L_sheet
  exact (sj_cons (sj_setLc (i := 4) rfl nd rfl rfl (sw_true rfl rfl rfl (by decide +kernel)) (ij_r1 T.n_range (eo_b 1)) (own := [("spot", 3)]) (blkOk_by (by rfl)) (by decide) (fun _ _ _ _ _ => (gj_n 3 nd)) (fun _ _ _ _ _ => pts_nil) pts_no (fun _ _ _ _ _ => (ej_bin op_mulA oMulA_S (eo_e (ej_lst (ea_cons (eo_e ej_int) ea_nil))) (eo_e (ej_bin op_addA oAddA_S (eo_b 3) (eo_e ej_int))))))
    (sj_cons (sj_for (passes_of rfl) rfl (ij_seq (ej_var 0)) (gj_t rfl (gjs_cons (gj_n 5 nd) (gjs_cons (gj_n 6 nd) gjs_nil)))
      (sj_cons (sj_for (passes_of rfl) rfl (ij_zp T.n_zip (ej_var 5) (ej_bin op_addA oAddA_S (eo_e (ej_slLo (eo_b 5) (eo_e ej_int))) (eo_e (ej_tup (ea_cons (eo_e (ej_var 1)) ea_nil))))) (gj_t rfl (gjs_cons (gj_n 7 nd) (gjs_cons (gj_n 8 nd) gjs_nil)))
      (sj_cons (sj_for (passes_of rfl) rfl (ij_r2 T.n_range (eo_b 7) (eo_b 8)) (gj_n 3 nd)
      (sj_cons (sj_set 9 (ej_lend (eb_ix (eb_var 4) (ej_var 3))) nd)
    (sj_cons (sj_setP (i := 9) (ej_bin op_addA oAddA_S (eo_e (ej_rd (eb_ix (eb_var 9) (ej_bin op_sub oSub_S (eo_b 3) (eo_b 7))))) (eo_b 6)) (eb_var 9) (ej_bin op_sub oSub_S (eo_b 3) (eo_b 7)))
    (sj_back 4 9 (by decide) (sj_kill [3, 9] sj_nil)))))
    (sj_kill [3, 7, 8, 9] sj_nil)))
    (sj_kill [3, 5, 6, 7, 8, 9] sj_nil)))
    (sj_kill [3, 5, 6, 7, 8, 9] (sj_cons (sj_forO 4 9 (passes_of rfl) rfl nd
      (sj_cons (sj_for (passes_of rfl) rfl (ij_r2 T.n_range (eo_e ej_int) (eo_e (ej_bf call_lenA oLenA_S (by rfl) T.n_len b_len (ea_cons (eo_o 9) ea_nil)))) (gj_n 10 nd)
      (sj_cons (sj_setP (i := 9) (ej_bin op_addA oAddA_S (eo_e (ej_rd (eb_ix (eb_var 9) (ej_var 10)))) (eo_e (ej_rd (eb_ix (eb_var 9) (ej_bin op_sub oSub_S (eo_b 10) (eo_e ej_int)))))) (eb_var 9) (ej_var 10))
    (sj_kill [10] sj_nil)))
    (sj_kill [10] sj_nil)))
    (sj_kill [9, 10] (sj_cons (sj_ret (ej_fz (ej_lc rfl nd (ij_seq (ej_frz 4)) (own := [("row_here", 9)]) (blkOk_by (by rfl)) (by decide) (fun _ _ _ _ _ => (gj_n 9 nd)) (fun _ _ _ _ _ => pts_nil) pts_no (fun _ _ _ _ _ => (ej_slHi (eo_b 9) (eo_b 2))))))
    sj_nil))))))
theorem okI_L_right (T : Tb K mg) : FnOk P w K mg base (L2.CX P w) 8 T.a_L_right T.d_L_right ["jar", "sheet_here", "fewer"] (spI K mg 3 spI_L_right) := by
  have nd := sc_L_right.nd
  refine def_okI (k := 7) (m := m_L_right) T.F_L_right sc_L_right rfl (fun cdv A outer s H E hr tk => ?_) re_L_right
  exact (sj_cons (sj_par 3 4 rfl nd (ea_cons (eo_e (ej_fz (ej_slHi (eo_b 1) (eo_b 2)))) (ea_cons (eo_e (ej_call (ok_width_in T) (hr.mono (by decide)) T.g_width_in T.F_width_in.kp T.b_width_in tk (by rfl) (ea_cons (eo_b 1) ea_nil))) ea_nil)))
    (sj_cons (sj_if (et_cmp op_notN oNotN_S (eo_e (ej_call (ok_conflict_of T) (hr.mono (by decide)) T.g_conflict_of T.F_conflict_of.kp T.b_conflict_of tk (by rfl) (ea_cons (eo_b 3) ea_nil))) (eo_e ej_non))
      (sj_cons (sj_ret ej_bl)
    sj_nil)
      sj_nil)
    (sj_cons (sj_setLcF (i := 6) rfl nd rfl rfl (sw_true rfl rfl rfl (by decide +kernel)) (ij_seq (ej_call (ok_all_gaps T) (hr.mono (by decide)) T.g_all_gaps T.F_all_gaps.kp T.b_all_gaps tk (by rfl) (ea_cons (eo_b 1) ea_nil))) (own := [("one", 5)]) (blkOk_by (by rfl)) (by decide) (fun _ _ _ _ _ => (gj_n 5 nd)) (fun _ _ _ _ _ => (pts_one (et_cmp op_lt oLt_S (eo_e (ej_ix ix_any oIxG_S (eo_b 5) (eo_e ej_int))) (eo_b 2)))) (fun _ _ _ h => h) (fun _ _ _ _ _ => (ej_var 5)))
    (sj_cons (sj_if (et_cmp (op_neD hr.units) oNe_S (eo_e (ej_call (ok_all_gaps T) (hr.mono (by decide)) T.g_all_gaps T.F_all_gaps.kp T.b_all_gaps tk (by rfl) (ea_cons (eo_b 3) ea_nil))) (eo_b 6))
      (sj_cons (sj_ret ej_bl)
    sj_nil)
      sj_nil)
    (sj_cons (sj_if (et_cmp op_lt oLt_S (eo_b 2) (eo_b 4))
      (sj_cons (sj_ret (ej_cmp (op_eqD hr.units) oEq_S (eo_e (ej_call (ok_new_range T) (hr.mono (by decide)) T.g_new_range T.F_new_range.kp T.b_new_range tk (by rfl) (ea_cons (eo_b 3) (ea_cons (eo_e (ej_bin op_sub oSub_S (eo_b 2) (eo_e ej_int))) ea_nil)))) (eo_e (ej_tup (ea_cons (eo_e (ej_call (ok_fresh_of T) (hr.mono (by decide)) T.g_fresh_of T.F_fresh_of.kp T.b_fresh_of tk (by rfl) (ea_cons (eo_b 3) (ea_cons (eo_e (ej_bin op_sub oSub_S (eo_b 2) (eo_e ej_int))) ea_nil)))) (ea_cons (eo_e (ej_call (ok_fresh_of T) (hr.mono (by decide)) T.g_fresh_of T.F_fresh_of.kp T.b_fresh_of tk (by rfl) (ea_cons (eo_b 3) (ea_cons (eo_e (ej_bin op_sub oSub_S (eo_b 2) (eo_e ej_int))) ea_nil)))) ea_nil))))))
    sj_nil)
      sj_nil)
    (sj_cons (sj_for (passes_of rfl) rfl (ij_r1 T.n_range (eo_b 2)) (gj_n 7 nd)
      (sj_cons (sj_if (et_cmp (op_neD hr.units) oNe_S (eo_e (ej_call (ok_fresh_of T) (hr.mono (by decide)) T.g_fresh_of T.F_fresh_of.kp T.b_fresh_of tk (by rfl) (ea_cons (eo_b 3) (ea_cons (eo_b 7) ea_nil)))) (eo_e (ej_call (ok_fresh_of T) (hr.mono (by decide)) T.g_fresh_of T.F_fresh_of.kp T.b_fresh_of tk (by rfl) (ea_cons (eo_b 1) (ea_cons (eo_b 7) ea_nil)))))
      (sj_cons (sj_ret ej_bl)
    sj_nil)
      sj_nil)
    (sj_cons (sj_if (et_cmp (op_neD hr.units) oNe_S (eo_e (ej_call (ok_new_range T) (hr.mono (by decide)) T.g_new_range T.F_new_range.kp T.b_new_range tk (by rfl) (ea_cons (eo_b 3) (ea_cons (eo_b 7) ea_nil)))) (eo_e (ej_call (ok_new_range T) (hr.mono (by decide)) T.g_new_range T.F_new_range.kp T.b_new_range tk (by rfl) (ea_cons (eo_b 1) (ea_cons (eo_b 7) ea_nil)))))
      (sj_cons (sj_ret ej_bl)
    sj_nil)
      sj_nil)
    (sj_cons (sj_set 9 (ej_bf (cr_sum rfl) oSum_S (by rfl) T.n_sum b_sum (ea_cons (eo_e (ej_lc rfl nd (ij_seq (ej_call (ok_all_gaps T) (hr.mono (by decide)) T.g_all_gaps T.F_all_gaps.kp T.b_all_gaps tk (by rfl) (ea_cons (eo_b 1) ea_nil))) (own := [("one", 5), ("two", 8), ("part", 11)]) (blkOk_by (by rfl)) (by decide) (fun _ _ _ _ _ => (gj_t rfl (gjs_cons (gj_n 5 nd) (gjs_cons (gj_n 8 nd) (gjs_cons (gj_n 11 nd) gjs_nil))))) (fun _ _ _ _ _ => (pts_one (et_w (ew_and (et_cmp (op_eqD hr.units) oEq_S (eo_b 5) (eo_b 7)) (ew_and1 (et_cmp op_ge oGe_S (eo_b 8) (eo_b 2))))))) (fun _ _ _ h => h) (fun _ _ _ _ _ => (ej_var 11)))) ea_nil)) nd)
    (sj_cons (sj_if (et_cmp (op_neD hr.units) oNe_S (eo_e (ej_call (ok_away_of T) (hr.mono (by decide)) T.g_away_of T.F_away_of.kp T.b_away_of tk (by rfl) (ea_cons (eo_b 3) (ea_cons (eo_b 7) ea_nil)))) (eo_e (ej_bin op_addA oAddA_S (eo_e (ej_call (ok_away_of T) (hr.mono (by decide)) T.g_away_of T.F_away_of.kp T.b_away_of tk (by rfl) (ea_cons (eo_b 1) (ea_cons (eo_b 7) ea_nil)))) (eo_b 9))))
      (sj_cons (sj_ret ej_bl)
    sj_nil)
      sj_nil)
    (sj_cons (sj_if (et_cmp op_lt oLt_S (eo_e (ej_ix ix_any oIxG_S (eo_e (ej_call (ok_gone_range T) (hr.mono (by decide)) T.g_gone_range T.F_gone_range.kp T.b_gone_range tk (by rfl) (ea_cons (eo_b 3) (ea_cons (eo_b 7) ea_nil)))) (eo_e ej_int))) (eo_e (ej_ix ix_any oIxG_S (eo_e (ej_call (ok_gone_range T) (hr.mono (by decide)) T.g_gone_range T.F_gone_range.kp T.b_gone_range tk (by rfl) (ea_cons (eo_b 1) (ea_cons (eo_b 7) ea_nil)))) (eo_e ej_int))))
      (sj_cons (sj_ret ej_bl)
    sj_nil)
      sj_nil)
    (sj_kill [7, 9] sj_nil)))))))
    (sj_kill [7, 9] (sj_cons (sj_for (passes_of rfl) rfl (ij_r1 T.n_range (eo_e ej_int)) (gj_n 10 nd)
      (sj_cons (sj_set 5 (ej_callI (okI_L_dip T) (hr.mono (by decide)) T.g_L_dip T.F_L_dip.kp T.b_L_dip tk (by rfl) (ea_cons (eo_o 0) (ea_cons (eo_b 2) ea_nil))) nd)
    (sj_cons (sj_set 8 (ej_bin op_addA oAddA_S (eo_b 5) (eo_e (ej_callI (okI_L_dip T) (hr.mono (by decide)) T.g_L_dip T.F_L_dip.kp T.b_L_dip tk (by rfl) (ea_cons (eo_o 0) (ea_cons (eo_e (ej_bin op_sub oSub_S (eo_b 2) (eo_b 5))) ea_nil))))) nd)
    (sj_cons (sj_if (et_cmp (op_neD hr.units) oNe_S (eo_e (ej_call (ok_longer_range T) (hr.mono (by decide)) T.g_longer_range T.F_longer_range.kp T.b_longer_range tk (by rfl) (ea_cons (eo_b 3) (ea_cons (eo_b 5) (ea_cons (eo_b 8) ea_nil))))) (eo_e (ej_call (ok_longer_range T) (hr.mono (by decide)) T.g_longer_range T.F_longer_range.kp T.b_longer_range tk (by rfl) (ea_cons (eo_b 1) (ea_cons (eo_b 5) (ea_cons (eo_b 8) ea_nil))))))
      (sj_cons (sj_ret ej_bl)
    sj_nil)
      sj_nil)
    (sj_cons (sj_if (et_w (ew_and (et_cmp op_lt oLt_S (eo_b 5) (eo_b 8)) (ew_and1 (et_cmp (op_neD hr.units) oNe_S (eo_e (ej_call (ok_next_range T) (hr.mono (by decide)) T.g_next_range T.F_next_range.kp T.b_next_range tk (by rfl) (ea_cons (eo_b 3) (ea_cons (eo_b 5) (ea_cons (eo_b 8) ea_nil))))) (eo_e (ej_call (ok_next_range T) (hr.mono (by decide)) T.g_next_range T.F_next_range.kp T.b_next_range tk (by rfl) (ea_cons (eo_b 1) (ea_cons (eo_b 5) (ea_cons (eo_b 8) ea_nil)))))))))
      (sj_cons (sj_ret ej_bl)
    sj_nil)
      sj_nil)
    (sj_kill [5, 8, 10] sj_nil))))))
    (sj_kill [5, 8, 10] (sj_cons (sj_ret ej_bl)
    sj_nil))))))))))
theorem ok_law0 (T : Tb K mg) : FnOk P w K mg base (L2.CX P w) 9 T.a_law T.d_law ["script"] (spP K mg 1 sp_law) := by
  have nd := sc_law.nd
  refine def_ok (k := 8) (m := m_law) T.F_law sc_law rfl (fun cdv A outer s H E hr tk => ?_) re_law
  exact (sj_cons (sj_for (passes_of rfl) rfl (ij_r1 T.n_range (eo_e (ej_bf (call_max2 rfl) oMax_S (by rfl) T.n_max b_max (ea_cons (eo_e ej_int) (ea_cons (eo_e (ej_bf (call_min2 rfl) oMin_S (by rfl) T.n_min b_min (ea_cons (eo_e ej_int) (ea_cons (eo_e (ej_bf call_lenA oLenA_S (by rfl) T.n_len b_len (ea_cons (eo_b 0) ea_nil))) ea_nil)))) ea_nil))))) (gj_n 1 nd)
      (sj_cons (sj_set 2 (ej_call (ok_L_jar T) (hr.mono (by decide)) T.g_L_jar T.F_L_jar.kp T.b_L_jar tk (by rfl) (ea_cons (eo_b 0) (ea_cons (eo_b 1) ea_nil))) nd)
    (sj_cons (sj_set 3 (ej_bin op_addA oAddA_S (eo_e ej_int) (eo_e (ej_callI (okI_L_dip T) (hr.mono (by decide)) T.g_L_dip T.F_L_dip.kp T.b_L_dip tk (by rfl) (ea_cons (eo_o 2) (ea_cons (eo_e ej_int) ea_nil))))) nd)
    (sj_cons (sj_set 4 (ej_fz (ej_callI (okI_L_family T) (hr.mono (by decide)) T.g_L_family T.F_L_family.kp T.b_L_family tk (by rfl) (ea_cons (eo_o 2) (ea_cons (eo_b 3) (ea_cons (eo_e (ej_callI (okI_L_dip T) (hr.mono (by decide)) T.g_L_dip T.F_L_dip.kp T.b_L_dip tk (by rfl) (ea_cons (eo_o 2) (ea_cons (eo_e ej_int) ea_nil)))) ea_nil))))) nd)
    (sj_cons (sj_set 5 (ej_fz (ej_call (ok_L_sheet T) (hr.mono (by decide)) T.g_L_sheet T.F_L_sheet.kp T.b_L_sheet tk (by rfl) (ea_cons (eo_b 4) (ea_cons (eo_b 3) (ea_cons (eo_e (ej_bin op_addA oAddA_S (eo_e ej_int) (eo_e (ej_callI (okI_L_dip T) (hr.mono (by decide)) T.g_L_dip T.F_L_dip.kp T.b_L_dip tk (by rfl) (ea_cons (eo_o 2) (ea_cons (eo_b 3) ea_nil)))))) ea_nil))))) nd)
    (sj_cons (sj_for (passes_of rfl) rfl (ij_r2 T.n_range (eo_e ej_int) (eo_b 3)) (gj_n 6 nd)
      (sj_cons (sj_if (et_not (et_val (ej_callI (okI_L_right T) (hr.mono (by decide)) T.g_L_right T.F_L_right.kp T.b_L_right tk (by rfl) (ea_cons (eo_o 2) (ea_cons (eo_b 5) (ea_cons (eo_b 6) ea_nil))))))
      (sj_cons (sj_ret ej_bl)
    sj_nil)
      sj_nil)
    (sj_kill [6] sj_nil)))
    (sj_kill [1, 2, 3, 4, 5, 6] sj_nil)))))))
    (sj_kill [1, 2, 3, 4, 5, 6] (sj_cons (sj_set 2 (ej_call (ok_L_jar T) (hr.mono (by decide)) T.g_L_jar T.F_L_jar.kp T.b_L_jar tk (by rfl) (ea_cons (eo_b 0) (ea_cons (eo_e ej_int) ea_nil))) nd)
    (sj_cons (sj_ret (ej_fz (ej_callI (okI_L_right T) (hr.mono (by decide)) T.g_L_right T.F_L_right.kp T.b_L_right tk (by rfl) (ea_cons (eo_o 2) (ea_cons (eo_e (ej_call (ok_L_sheet T) (hr.mono (by decide)) T.g_L_sheet T.F_L_sheet.kp T.b_L_sheet tk (by rfl) (ea_cons (eo_e (ej_callI (okI_L_family T) (hr.mono (by decide)) T.g_L_family T.F_L_family.kp T.b_L_family tk (by rfl) (ea_cons (eo_o 2) (ea_cons (eo_e ej_int) (ea_cons (eo_e ej_int) ea_nil))))) (ea_cons (eo_e ej_int) (ea_cons (eo_e ej_int) ea_nil))))) (ea_cons (eo_e (ej_bin op_addA oAddA_S (eo_e ej_int) (eo_e (ej_callI (okI_L_dip T) (hr.mono (by decide)) T.g_L_dip T.F_L_dip.kp T.b_L_dip tk (by rfl) (ea_cons (eo_o 2) (ea_cons (eo_e ej_int) ea_nil)))))) ea_nil))))))
    sj_nil))))
end
def spLaw (K : PySem.W.Frag) : Sp := fun vs H Q _ => ∃ (a : Addr) (ns : List Int), vs = [.ref a] ∧ SqL K H a (ns.map V.int) ∧ ns.length ≤ 63 ∧ ∀ H', Q (.bl true) H'
theorem cx_never {P : Program} {w : World} {H : Hp} {s s' : Shared} {e : Value} (h : L2.CX P w [] H s (fun _ _ _ => False) e s') : False := by
  obtain ⟨_, _, _, _, _, _, _, _, _, _, _, _, z⟩ := h
  exact z
theorem law_sp {K : PySem.W.Frag} {mg : Str → Option Value} {vs : List V} {H : Hp} {Q : VK} {E : XK} (h : spLaw K vs H Q E) : spP K mg 1 sp_law vs H Q E := by
  obtain ⟨a, ns, rfl, hs, _, hQ⟩ := h
  classical
  have hg : ∃ G : Hp, Le G H ∧ SqL K G a (ns.map V.int) := by
    rcases hs with hs | hs
    · refine ⟨H, .refl H, .inl hs⟩
    · exact ⟨fun _ => none, fun _ _ e => (by cases e), .inr hs⟩
  obtain ⟨G, le, sq⟩ := hg
  refine ⟨G, [.scr a ns], fun t => t = .d (.bool true), fun _ => False, ⟨le, fun _ z => z.elim, fun _ z => z.elim⟩, rfl, fun t ht => by rw [List.mem_singleton.mp ht]; rfl, ?_, ⟨a, ns, rfl, rfl⟩, fun v H' ⟨G', Fv, t, _, _, tr, e⟩ => ?_, fun x cls d G' H' F' hx _ _ _ => hx.elim⟩
  · obtain ⟨l, fs, h1, h2, h3⟩ := TRs.cons (K := K) (G := G) (H := H) (A := Fz) (B := Fz) (.scr sq) .nil fun _ z => z.elim
    exact ⟨l, fs, h1, h2, fun i x z => (h3 i x z).elim id id⟩
  · subst e
    have := tr.dr
    rw [DR] at this
    subst this
    exact hQ H'
theorem ok_law {P : Program} {w : World} {K : PySem.W.Frag} {mg : Str → Option Value} {base : Heap} (T : Tb K mg) : FnOk P w K mg base (L2.CX P w) 9 T.a_law T.d_law ["script"] (spLaw K) := (ok_law0 T).imp fun _ _ _ _ h => law_sp h
def tb_mk {K : PySem.W.Frag} {h : Heap} {mg : Str → Option Value} (X : K.In h) (G : h.Ns mainGlobals mg) {od0 an0 : Option Addr} {sl0 : Array (Option Value)} {oc0 kV0 dc0 pm0 cd0 ct0 : Value} {f0 : Addr} {od1 an1 : Option Addr} {sl1 : Array (Option Value)} {oc1 kV1 dc1 pm1 cd1 ct1 : Value} {f1 : Addr} {od2 an2 : Option Addr} {sl2 : Array (Option Value)} {oc2 kV2 dc2 pm2 cd2 ct2 : Value} {f2 : Addr} {od3 an3 : Option Addr} {sl3 : Array (Option Value)} {oc3 kV3 dc3 pm3 cd3 ct3 : Value} {f3 : Addr} {od4 an4 : Option Addr} {sl4 : Array (Option Value)} {oc4 kV4 dc4 pm4 cd4 ct4 : Value} {f4 : Addr} {od5 an5 : Option Addr} {sl5 : Array (Option Value)} {oc5 kV5 dc5 pm5 cd5 ct5 : Value} {f5 : Addr} {od6 an6 : Option Addr} {sl6 : Array (Option Value)} {oc6 kV6 dc6 pm6 cd6 ct6 : Value} {f6 : Addr} {od7 an7 : Option Addr} {sl7 : Array (Option Value)} {oc7 kV7 dc7 pm7 cd7 ct7 : Value} {f7 : Addr} {od8 an8 : Option Addr} {sl8 : Array (Option Value)} {oc8 kV8 dc8 pm8 cd8 ct8 : Value} {f8 : Addr} {od9 an9 : Option Addr} {sl9 : Array (Option Value)} {oc9 kV9 dc9 pm9 cd9 ct9 : Value} {f9 : Addr} {od10 an10 : Option Addr} {sl10 : Array (Option Value)} {oc10 kV10 dc10 pm10 cd10 ct10 : Value} {f10 : Addr} {od11 an11 : Option Addr} {sl11 : Array (Option Value)} {oc11 kV11 dc11 pm11 cd11 ct11 : Value} {f11 : Addr} {od12 an12 : Option Addr} {sl12 : Array (Option Value)} {oc12 kV12 dc12 pm12 cd12 ct12 : Value} {f12 : Addr} {od13 an13 : Option Addr} {sl13 : Array (Option Value)} {oc13 kV13 dc13 pm13 cd13 ct13 : Value} {f13 : Addr} {od14 an14 : Option Addr} {sl14 : Array (Option Value)} {oc14 kV14 dc14 pm14 cd14 ct14 : Value} {f14 : Addr} {od15 an15 : Option Addr} {sl15 : Array (Option Value)} {oc15 kV15 dc15 pm15 cd15 ct15 : Value} {f15 : Addr} {od16 an16 : Option Addr} {sl16 : Array (Option Value)} {oc16 kV16 dc16 pm16 cd16 ct16 : Value} {f16 : Addr} {od17 an17 : Option Addr} {sl17 : Array (Option Value)} {oc17 kV17 dc17 pm17 cd17 ct17 : Value} {f17 : Addr} {od18 an18 : Option Addr} {sl18 : Array (Option Value)} {oc18 kV18 dc18 pm18 cd18 ct18 : Value} {f18 : Addr} {od19 an19 : Option Addr} {sl19 : Array (Option Value)} {oc19 kV19 dc19 pm19 cd19 ct19 : Value} {f19 : Addr} {od20 an20 : Option Addr} {sl20 : Array (Option Value)} {oc20 kV20 dc20 pm20 cd20 ct20 : Value} {f20 : Addr} {od21 an21 : Option Addr} {sl21 : Array (Option Value)} {oc21 kV21 dc21 pm21 cd21 ct21 : Value} {f21 : Addr} {od22 an22 : Option Addr} {sl22 : Array (Option Value)} {oc22 kV22 dc22 pm22 cd22 ct22 : Value} {f22 : Addr} {od23 an23 : Option Addr} {sl23 : Array (Option Value)} {oc23 kV23 dc23 pm23 cd23 ct23 : Value} {f23 : Addr} {od24 an24 : Option Addr} {sl24 : Array (Option Value)} {oc24 kV24 dc24 pm24 cd24 ct24 : Value} {f24 : Addr} {od25 an25 : Option Addr} {sl25 : Array (Option Value)} {oc25 kV25 dc25 pm25 cd25 ct25 : Value} {f25 : Addr} {od26 an26 : Option Addr} {sl26 : Array (Option Value)} {oc26 kV26 dc26 pm26 cd26 ct26 : Value} {f26 : Addr} {od27 an27 : Option Addr} {sl27 : Array (Option Value)} {oc27 kV27 dc27 pm27 cd27 ct27 : Value} {f27 : Addr} {od28 an28 : Option Addr} {sl28 : Array (Option Value)} {oc28 kV28 dc28 pm28 cd28 ct28 : Value} {f28 : Addr} {od29 an29 : Option Addr} {sl29 : Array (Option Value)} {oc29 kV29 dc29 pm29 cd29 ct29 : Value} {f29 : Addr} {od30 an30 : Option Addr} {sl30 : Array (Option Value)} {oc30 kV30 dc30 pm30 cd30 ct30 : Value} {f30 : Addr} {od31 an31 : Option Addr} {sl31 : Array (Option Value)} {oc31 kV31 dc31 pm31 cd31 ct31 : Value} {f31 : Addr} {od32 an32 : Option Addr} {sl32 : Array (Option Value)} {oc32 kV32 dc32 pm32 cd32 ct32 : Value} {f32 : Addr} {od33 an33 : Option Addr} {sl33 : Array (Option Value)} {oc33 kV33 dc33 pm33 cd33 ct33 : Value} {f33 : Addr} {od34 an34 : Option Addr} {sl34 : Array (Option Value)} {oc34 kV34 dc34 pm34 cd34 ct34 : Value} {f34 : Addr} {od35 an35 : Option Addr} {sl35 : Array (Option Value)} {oc35 kV35 dc35 pm35 cd35 ct35 : Value} {f35 : Addr} {od36 an36 : Option Addr} {sl36 : Array (Option Value)} {oc36 kV36 dc36 pm36 cd36 ct36 : Value} {f36 : Addr} {od37 an37 : Option Addr} {sl37 : Array (Option Value)} {oc37 kV37 dc37 pm37 cd37 ct37 : Value} {f37 : Addr} {od38 an38 : Option Addr} {sl38 : Array (Option Value)} {oc38 kV38 dc38 pm38 cd38 ct38 : Value} {f38 : Addr} {od39 an39 : Option Addr} {sl39 : Array (Option Value)} {oc39 kV39 dc39 pm39 cd39 ct39 : Value} {f39 : Addr} {od40 an40 : Option Addr} {sl40 : Array (Option Value)} {oc40 kV40 dc40 pm40 cd40 ct40 : Value} {f40 : Addr} {tk0 : Tok} {C0 : Addr} {C1 : Addr} {C2 : Addr} {C3 : Addr} {nm3 qq3 : Str} {N3 : Addr} {bs3 : List Value} {sn3 : List Str} {sub3 : List Value} {ab3 : Bool} {col3 : Option Bool} {dd3 : Option Addr} {p3 m3 n3 o3 r3 : Option Value} {I3 : Addr} {odJ3 anJ3 : Option Addr} {slJ3 : Array (Option Value)} {ocJ3 kVJ3 dcJ3 pmJ3 cdJ3 ctJ3 : Value}
    (a0 : PySem.W.nsIn K mainGlobals "is_integer" = some (some (.ref f0))) (l0 : K.lookup f0 = some ⟨oc0, od0, .func (PySem.W.fnOf "is_integer" "is_integer" (defArgs s_is_integer) (defBody s_is_integer) (defScope s_is_integer) .none kV0 dc0 pm0 an0 cd0 ct0), sl0⟩) (c0 : PySem.W.codeIn K cd0 "is_integer" = true) (k0 : PySem.W.keepIn K (.ref f0) = true)
    (a1 : PySem.W.nsIn K mainGlobals "are_integers" = some (some (.ref f1))) (l1 : K.lookup f1 = some ⟨oc1, od1, .func (PySem.W.fnOf "are_integers" "are_integers" (defArgs s_are_integers) (defBody s_are_integers) (defScope s_are_integers) .none kV1 dc1 pm1 an1 cd1 ct1), sl1⟩) (c1 : PySem.W.codeIn K cd1 "are_integers" = true) (k1 : PySem.W.keepIn K (.ref f1) = true)
    (a2 : PySem.W.nsIn K mainGlobals "is_row" = some (some (.ref f2))) (l2 : K.lookup f2 = some ⟨oc2, od2, .func (PySem.W.fnOf "is_row" "is_row" (defArgs s_is_row) (defBody s_is_row) (defScope s_is_row) .none kV2 dc2 pm2 an2 cd2 ct2), sl2⟩) (c2 : PySem.W.codeIn K cd2 "is_row" = true) (k2 : PySem.W.keepIn K (.ref f2) = true)
    (a3 : PySem.W.nsIn K mainGlobals "is_sheet" = some (some (.ref f3))) (l3 : K.lookup f3 = some ⟨oc3, od3, .func (PySem.W.fnOf "is_sheet" "is_sheet" (defArgs s_is_sheet) (defBody s_is_sheet) (defScope s_is_sheet) .none kV3 dc3 pm3 an3 cd3 ct3), sl3⟩) (c3 : PySem.W.codeIn K cd3 "is_sheet" = true) (k3 : PySem.W.keepIn K (.ref f3) = true)
    (a4 : PySem.W.nsIn K mainGlobals "need_sheet" = some (some (.ref f4))) (l4 : K.lookup f4 = some ⟨oc4, od4, .func (PySem.W.fnOf "need_sheet" "need_sheet" (defArgs s_need_sheet) (defBody s_need_sheet) (defScope s_need_sheet) .none kV4 dc4 pm4 an4 cd4 ct4), sl4⟩) (c4 : PySem.W.codeIn K cd4 "need_sheet" = true) (k4 : PySem.W.keepIn K (.ref f4) = true)
    (a5 : PySem.W.nsIn K mainGlobals "need_day" = some (some (.ref f5))) (l5 : K.lookup f5 = some ⟨oc5, od5, .func (PySem.W.fnOf "need_day" "need_day" (defArgs s_need_day) (defBody s_need_day) (defScope s_need_day) .none kV5 dc5 pm5 an5 cd5 ct5), sl5⟩) (c5 : PySem.W.codeIn K cd5 "need_day" = true) (k5 : PySem.W.keepIn K (.ref f5) = true)
    (a6 : PySem.W.nsIn K mainGlobals "width_told" = some (some (.ref f6))) (l6 : K.lookup f6 = some ⟨oc6, od6, .func (PySem.W.fnOf "width_told" "width_told" (defArgs s_width_told) (defBody s_width_told) (defScope s_width_told) .none kV6 dc6 pm6 an6 cd6 ct6), sl6⟩) (c6 : PySem.W.codeIn K cd6 "width_told" = true) (k6 : PySem.W.keepIn K (.ref f6) = true)
    (a7 : PySem.W.nsIn K mainGlobals "unlike_in" = some (some (.ref f7))) (l7 : K.lookup f7 = some ⟨oc7, od7, .func (PySem.W.fnOf "unlike_in" "unlike_in" (defArgs s_unlike_in) (defBody s_unlike_in) (defScope s_unlike_in) .none kV7 dc7 pm7 an7 cd7 ct7), sl7⟩) (c7 : PySem.W.codeIn K cd7 "unlike_in" = true) (k7 : PySem.W.keepIn K (.ref f7) = true)
    (a8 : PySem.W.nsIn K mainGlobals "width_in" = some (some (.ref f8))) (l8 : K.lookup f8 = some ⟨oc8, od8, .func (PySem.W.fnOf "width_in" "width_in" (defArgs s_width_in) (defBody s_width_in) (defScope s_width_in) .none kV8 dc8 pm8 an8 cd8 ct8), sl8⟩) (c8 : PySem.W.codeIn K cd8 "width_in" = true) (k8 : PySem.W.keepIn K (.ref f8) = true)
    (a9 : PySem.W.nsIn K mainGlobals "gap_in" = some (some (.ref f9))) (l9 : K.lookup f9 = some ⟨oc9, od9, .func (PySem.W.fnOf "gap_in" "gap_in" (defArgs s_gap_in) (defBody s_gap_in) (defScope s_gap_in) .none kV9 dc9 pm9 an9 cd9 ct9), sl9⟩) (c9 : PySem.W.codeIn K cd9 "gap_in" = true) (k9 : PySem.W.keepIn K (.ref f9) = true)
    (a10 : PySem.W.nsIn K mainGlobals "last_looked" = some (some (.ref f10))) (l10 : K.lookup f10 = some ⟨oc10, od10, .func (PySem.W.fnOf "last_looked" "last_looked" (defArgs s_last_looked) (defBody s_last_looked) (defScope s_last_looked) .none kV10 dc10 pm10 an10 cd10 ct10), sl10⟩) (c10 : PySem.W.codeIn K cd10 "last_looked" = true) (k10 : PySem.W.keepIn K (.ref f10) = true)
    (a11 : PySem.W.nsIn K mainGlobals "first_looked" = some (some (.ref f11))) (l11 : K.lookup f11 = some ⟨oc11, od11, .func (PySem.W.fnOf "first_looked" "first_looked" (defArgs s_first_looked) (defBody s_first_looked) (defScope s_first_looked) .none kV11 dc11 pm11 an11 cd11 ct11), sl11⟩) (c11 : PySem.W.codeIn K cd11 "first_looked" = true) (k11 : PySem.W.keepIn K (.ref f11) = true)
    (a12 : PySem.W.nsIn K mainGlobals "away_in" = some (some (.ref f12))) (l12 : K.lookup f12 = some ⟨oc12, od12, .func (PySem.W.fnOf "away_in" "away_in" (defArgs s_away_in) (defBody s_away_in) (defScope s_away_in) .none kV12 dc12 pm12 an12 cd12 ct12), sl12⟩) (c12 : PySem.W.codeIn K cd12 "away_in" = true) (k12 : PySem.W.keepIn K (.ref f12) = true)
    (a13 : PySem.W.nsIn K mainGlobals "fresh_in" = some (some (.ref f13))) (l13 : K.lookup f13 = some ⟨oc13, od13, .func (PySem.W.fnOf "fresh_in" "fresh_in" (defArgs s_fresh_in) (defBody s_fresh_in) (defScope s_fresh_in) .none kV13 dc13 pm13 an13 cd13 ct13), sl13⟩) (c13 : PySem.W.codeIn K cd13 "fresh_in" = true) (k13 : PySem.W.keepIn K (.ref f13) = true)
    (a14 : PySem.W.nsIn K mainGlobals "gaps_in" = some (some (.ref f14))) (l14 : K.lookup f14 = some ⟨oc14, od14, .func (PySem.W.fnOf "gaps_in" "gaps_in" (defArgs s_gaps_in) (defBody s_gaps_in) (defScope s_gaps_in) .none kV14 dc14 pm14 an14 cd14 ct14), sl14⟩) (c14 : PySem.W.codeIn K cd14 "gaps_in" = true) (k14 : PySem.W.keepIn K (.ref f14) = true)
    (a15 : PySem.W.nsIn K mainGlobals "conflicts_in" = some (some (.ref f15))) (l15 : K.lookup f15 = some ⟨oc15, od15, .func (PySem.W.fnOf "conflicts_in" "conflicts_in" (defArgs s_conflicts_in) (defBody s_conflicts_in) (defScope s_conflicts_in) .none kV15 dc15 pm15 an15 cd15 ct15), sl15⟩) (c15 : PySem.W.codeIn K cd15 "conflicts_in" = true) (k15 : PySem.W.keepIn K (.ref f15) = true)
    (a16 : PySem.W.nsIn K mainGlobals "conflict_in" = some (some (.ref f16))) (l16 : K.lookup f16 = some ⟨oc16, od16, .func (PySem.W.fnOf "conflict_in" "conflict_in" (defArgs s_conflict_in) (defBody s_conflict_in) (defScope s_conflict_in) .none kV16 dc16 pm16 an16 cd16 ct16), sl16⟩) (c16 : PySem.W.codeIn K cd16 "conflict_in" = true) (k16 : PySem.W.keepIn K (.ref f16) = true)
    (a17 : PySem.W.nsIn K mainGlobals "need_possible" = some (some (.ref f17))) (l17 : K.lookup f17 = some ⟨oc17, od17, .func (PySem.W.fnOf "need_possible" "need_possible" (defArgs s_need_possible) (defBody s_need_possible) (defScope s_need_possible) .none kV17 dc17 pm17 an17 cd17 ct17), sl17⟩) (c17 : PySem.W.codeIn K cd17 "need_possible" = true) (k17 : PySem.W.keepIn K (.ref f17) = true)
    (a18 : PySem.W.nsIn K mainGlobals "away_of" = some (some (.ref f18))) (l18 : K.lookup f18 = some ⟨oc18, od18, .func (PySem.W.fnOf "away_of" "away_of" (defArgs s_away_of) (defBody s_away_of) (defScope s_away_of) .none kV18 dc18 pm18 an18 cd18 ct18), sl18⟩) (c18 : PySem.W.codeIn K cd18 "away_of" = true) (k18 : PySem.W.keepIn K (.ref f18) = true)
    (a19 : PySem.W.nsIn K mainGlobals "fresh_of" = some (some (.ref f19))) (l19 : K.lookup f19 = some ⟨oc19, od19, .func (PySem.W.fnOf "fresh_of" "fresh_of" (defArgs s_fresh_of) (defBody s_fresh_of) (defScope s_fresh_of) .none kV19 dc19 pm19 an19 cd19 ct19), sl19⟩) (c19 : PySem.W.codeIn K cd19 "fresh_of" = true) (k19 : PySem.W.keepIn K (.ref f19) = true)
    (a20 : PySem.W.nsIn K mainGlobals "all_gaps" = some (some (.ref f20))) (l20 : K.lookup f20 = some ⟨oc20, od20, .func (PySem.W.fnOf "all_gaps" "all_gaps" (defArgs s_all_gaps) (defBody s_all_gaps) (defScope s_all_gaps) .none kV20 dc20 pm20 an20 cd20 ct20), sl20⟩) (c20 : PySem.W.codeIn K cd20 "all_gaps" = true) (k20 : PySem.W.keepIn K (.ref f20) = true)
    (a21 : PySem.W.nsIn K mainGlobals "conflict_of" = some (some (.ref f21))) (l21 : K.lookup f21 = some ⟨oc21, od21, .func (PySem.W.fnOf "conflict_of" "conflict_of" (defArgs s_conflict_of) (defBody s_conflict_of) (defScope s_conflict_of) .none kV21 dc21 pm21 an21 cd21 ct21), sl21⟩) (c21 : PySem.W.codeIn K cd21 "conflict_of" = true) (k21 : PySem.W.keepIn K (.ref f21) = true)
    (a22 : PySem.W.nsIn K mainGlobals "most_in" = some (some (.ref f22))) (l22 : K.lookup f22 = some ⟨oc22, od22, .func (PySem.W.fnOf "most_in" "most_in" (defArgs s_most_in) (defBody s_most_in) (defScope s_most_in) .none kV22 dc22 pm22 an22 cd22 ct22), sl22⟩) (c22 : PySem.W.codeIn K cd22 "most_in" = true) (k22 : PySem.W.keepIn K (.ref f22) = true)
    (a23 : PySem.W.nsIn K mainGlobals "covers_in" = some (some (.ref f23))) (l23 : K.lookup f23 = some ⟨oc23, od23, .func (PySem.W.fnOf "covers_in" "covers_in" (defArgs s_covers_in) (defBody s_covers_in) (defScope s_covers_in) .none kV23 dc23 pm23 an23 cd23 ct23), sl23⟩) (c23 : PySem.W.codeIn K cd23 "covers_in" = true) (k23 : PySem.W.keepIn K (.ref f23) = true)
    (a24 : PySem.W.nsIn K mainGlobals "longer_in" = some (some (.ref f24))) (l24 : K.lookup f24 = some ⟨oc24, od24, .func (PySem.W.fnOf "longer_in" "longer_in" (defArgs s_longer_in) (defBody s_longer_in) (defScope s_longer_in) .none kV24 dc24 pm24 an24 cd24 ct24), sl24⟩) (c24 : PySem.W.codeIn K cd24 "longer_in" = true) (k24 : PySem.W.keepIn K (.ref f24) = true)
    (a25 : PySem.W.nsIn K mainGlobals "need_stretch" = some (some (.ref f25))) (l25 : K.lookup f25 = some ⟨oc25, od25, .func (PySem.W.fnOf "need_stretch" "need_stretch" (defArgs s_need_stretch) (defBody s_need_stretch) (defScope s_need_stretch) .none kV25 dc25 pm25 an25 cd25 ct25), sl25⟩) (c25 : PySem.W.codeIn K cd25 "need_stretch" = true) (k25 : PySem.W.keepIn K (.ref f25) = true)
    (a26 : PySem.W.nsIn K mainGlobals "longer_range" = some (some (.ref f26))) (l26 : K.lookup f26 = some ⟨oc26, od26, .func (PySem.W.fnOf "longer_range" "longer_range" (defArgs s_longer_range) (defBody s_longer_range) (defScope s_longer_range) .none kV26 dc26 pm26 an26 cd26 ct26), sl26⟩) (c26 : PySem.W.codeIn K cd26 "longer_range" = true) (k26 : PySem.W.keepIn K (.ref f26) = true)
    (a27 : PySem.W.nsIn K mainGlobals "new_in" = some (some (.ref f27))) (l27 : K.lookup f27 = some ⟨oc27, od27, .func (PySem.W.fnOf "new_in" "new_in" (defArgs s_new_in) (defBody s_new_in) (defScope s_new_in) .none kV27 dc27 pm27 an27 cd27 ct27), sl27⟩) (c27 : PySem.W.codeIn K cd27 "new_in" = true) (k27 : PySem.W.keepIn K (.ref f27) = true)
    (a28 : PySem.W.nsIn K mainGlobals "gone_in" = some (some (.ref f28))) (l28 : K.lookup f28 = some ⟨oc28, od28, .func (PySem.W.fnOf "gone_in" "gone_in" (defArgs s_gone_in) (defBody s_gone_in) (defScope s_gone_in) .none kV28 dc28 pm28 an28 cd28 ct28), sl28⟩) (c28 : PySem.W.codeIn K cd28 "gone_in" = true) (k28 : PySem.W.keepIn K (.ref f28) = true)
    (a29 : PySem.W.nsIn K mainGlobals "next_in" = some (some (.ref f29))) (l29 : K.lookup f29 = some ⟨oc29, od29, .func (PySem.W.fnOf "next_in" "next_in" (defArgs s_next_in) (defBody s_next_in) (defScope s_next_in) .none kV29 dc29 pm29 an29 cd29 ct29), sl29⟩) (c29 : PySem.W.codeIn K cd29 "next_in" = true) (k29 : PySem.W.keepIn K (.ref f29) = true)
    (a30 : PySem.W.nsIn K mainGlobals "new_range" = some (some (.ref f30))) (l30 : K.lookup f30 = some ⟨oc30, od30, .func (PySem.W.fnOf "new_range" "new_range" (defArgs s_new_range) (defBody s_new_range) (defScope s_new_range) .none kV30 dc30 pm30 an30 cd30 ct30), sl30⟩) (c30 : PySem.W.codeIn K cd30 "new_range" = true) (k30 : PySem.W.keepIn K (.ref f30) = true)
    (a31 : PySem.W.nsIn K mainGlobals "gone_range" = some (some (.ref f31))) (l31 : K.lookup f31 = some ⟨oc31, od31, .func (PySem.W.fnOf "gone_range" "gone_range" (defArgs s_gone_range) (defBody s_gone_range) (defScope s_gone_range) .none kV31 dc31 pm31 an31 cd31 ct31), sl31⟩) (c31 : PySem.W.codeIn K cd31 "gone_range" = true) (k31 : PySem.W.keepIn K (.ref f31) = true)
    (a32 : PySem.W.nsIn K mainGlobals "next_range" = some (some (.ref f32))) (l32 : K.lookup f32 = some ⟨oc32, od32, .func (PySem.W.fnOf "next_range" "next_range" (defArgs s_next_range) (defBody s_next_range) (defScope s_next_range) .none kV32 dc32 pm32 an32 cd32 ct32), sl32⟩) (c32 : PySem.W.codeIn K cd32 "next_range" = true) (k32 : PySem.W.keepIn K (.ref f32) = true)
    (a33 : PySem.W.nsIn K mainGlobals "_law_jar" = some (some (.ref f33))) (l33 : K.lookup f33 = some ⟨oc33, od33, .func (PySem.W.fnOf "_law_jar" "_law_jar" (defArgs s_L_jar) (defBody s_L_jar) (defScope s_L_jar) .none kV33 dc33 pm33 an33 cd33 ct33), sl33⟩) (c33 : PySem.W.codeIn K cd33 "_law_jar" = true) (k33 : PySem.W.keepIn K (.ref f33) = true)
    (a34 : PySem.W.nsIn K mainGlobals "_law_dip" = some (some (.ref f34))) (l34 : K.lookup f34 = some ⟨oc34, od34, .func (PySem.W.fnOf "_law_dip" "_law_dip" (defArgs s_L_dip) (defBody s_L_dip) (defScope s_L_dip) .none kV34 dc34 pm34 an34 cd34 ct34), sl34⟩) (c34 : PySem.W.codeIn K cd34 "_law_dip" = true) (k34 : PySem.W.keepIn K (.ref f34) = true)
    (a35 : PySem.W.nsIn K mainGlobals "_law_many" = some (some (.ref f35))) (l35 : K.lookup f35 = some ⟨oc35, od35, .func (PySem.W.fnOf "_law_many" "_law_many" (defArgs s_L_many) (defBody s_L_many) (defScope s_L_many) .none kV35 dc35 pm35 an35 cd35 ct35), sl35⟩) (c35 : PySem.W.codeIn K cd35 "_law_many" = true) (k35 : PySem.W.keepIn K (.ref f35) = true)
    (a36 : PySem.W.nsIn K mainGlobals "_law_days" = some (some (.ref f36))) (l36 : K.lookup f36 = some ⟨oc36, od36, .func (PySem.W.fnOf "_law_days" "_law_days" (defArgs s_L_days) (defBody s_L_days) (defScope s_L_days) .none kV36 dc36 pm36 an36 cd36 ct36), sl36⟩) (c36 : PySem.W.codeIn K cd36 "_law_days" = true) (k36 : PySem.W.keepIn K (.ref f36) = true)
    (a37 : PySem.W.nsIn K mainGlobals "_law_family" = some (some (.ref f37))) (l37 : K.lookup f37 = some ⟨oc37, od37, .func (PySem.W.fnOf "_law_family" "_law_family" (defArgs s_L_family) (defBody s_L_family) (defScope s_L_family) .none kV37 dc37 pm37 an37 cd37 ct37), sl37⟩) (c37 : PySem.W.codeIn K cd37 "_law_family" = true) (k37 : PySem.W.keepIn K (.ref f37) = true)
    (a38 : PySem.W.nsIn K mainGlobals "_law_sheet" = some (some (.ref f38))) (l38 : K.lookup f38 = some ⟨oc38, od38, .func (PySem.W.fnOf "_law_sheet" "_law_sheet" (defArgs s_L_sheet) (defBody s_L_sheet) (defScope s_L_sheet) .none kV38 dc38 pm38 an38 cd38 ct38), sl38⟩) (c38 : PySem.W.codeIn K cd38 "_law_sheet" = true) (k38 : PySem.W.keepIn K (.ref f38) = true)
    (a39 : PySem.W.nsIn K mainGlobals "_law_right" = some (some (.ref f39))) (l39 : K.lookup f39 = some ⟨oc39, od39, .func (PySem.W.fnOf "_law_right" "_law_right" (defArgs s_L_right) (defBody s_L_right) (defScope s_L_right) .none kV39 dc39 pm39 an39 cd39 ct39), sl39⟩) (c39 : PySem.W.codeIn K cd39 "_law_right" = true) (k39 : PySem.W.keepIn K (.ref f39) = true)
    (a40 : PySem.W.nsIn K mainGlobals "law" = some (some (.ref f40))) (l40 : K.lookup f40 = some ⟨oc40, od40, .func (PySem.W.fnOf "law" "law" (defArgs s_law) (defBody s_law) (defScope s_law) .none kV40 dc40 pm40 an40 cd40 ct40), sl40⟩) (c40 : PySem.W.codeIn K cd40 "law" = true) (k40 : PySem.W.keepIn K (.ref f40) = true)
    (v0 : PySem.W.nsIn K mainGlobals "MOST_DAYS" = some (some (.int 30 tk0)))
    (z0 : PySem.W.nsIn K mainGlobals "len" = some none)
    (z1 : PySem.W.nsIn K mainGlobals "sum" = some none)
    (z2 : PySem.W.nsIn K mainGlobals "all" = some none)
    (z3 : PySem.W.nsIn K mainGlobals "abs" = some none)
    (z4 : PySem.W.nsIn K mainGlobals "list" = some none)
    (z5 : PySem.W.nsIn K mainGlobals "tuple" = some none)
    (z6 : PySem.W.nsIn K mainGlobals "min" = some none)
    (z7 : PySem.W.nsIn K mainGlobals "max" = some none)
    (z8 : PySem.W.nsIn K mainGlobals "range" = some none)
    (z9 : PySem.W.nsIn K mainGlobals "enumerate" = some none)
    (z10 : PySem.W.nsIn K mainGlobals "zip" = some none)
    (z11 : PySem.W.nsIn K mainGlobals "sorted" = some none)
    (z12 : PySem.W.nsIn K mainGlobals "isinstance" = some none)
    (z13 : PySem.W.nsIn K mainGlobals "int" = some none)
    (z14 : PySem.W.nsIn K mainGlobals "bool" = some none)
    (XA0 : PySem.W.nsIn K mainGlobals "FaceError" = some (some (.ref C0)))
    (XA1 : PySem.W.nsIn K mainGlobals "InvalidSheet" = some (some (.ref C1)))
    (XA2 : PySem.W.nsIn K mainGlobals "InvalidDay" = some (some (.ref C2)))
    (XA3 : PySem.W.nsIn K mainGlobals "Impossible" = some (some (.ref C3)))
    (XCN : PySem.W.specialIn K (.builtin "object.__class__") "__get__" = some (some (.builtin "getset_descriptor.__get__")))
    (XCT : PySem.W.takesIn K (.builtin "object.__class__") = some true)
    (XK0 : PySem.W.keepIn K (.ref C0) = true)
    (XB0 : PySem.W.subIn K (.ref C0) (.type "BaseException") = some true)
    (XT0 : PySem.W.typeIn K (.ref C0) = some (.type "type"))
    (XI0 : PySem.W.isClsIn K C0 = true)
    (XH0 : PySem.W.hasDictIn K C0 = true)
    (XS0 : PySem.W.subIn K (.ref C0) (.ref C0) = some true)
    (XG0 : PySem.W.findIn K (.ref C0) "__getattribute__" = some (some (.builtin "BaseException.__getattribute__")))
    (XN0 : PySem.W.findIn K (.ref C0) "__getattr__" = some none)
    (XW0 : PySem.W.findIn K (.ref C0) "__class__" = some (some (.builtin "object.__class__")))
    (XM0 : PySem.W.mroIn K C0 (.type "object") = some true)
    (XZ0 : PySem.W.excIn K C0 [.type "ValueError", .type "Exception", .type "BaseException", .type "object"] "ValueError.__new__" = true)
    (XK1 : PySem.W.keepIn K (.ref C1) = true)
    (XB1 : PySem.W.subIn K (.ref C1) (.type "BaseException") = some true)
    (XT1 : PySem.W.typeIn K (.ref C1) = some (.type "type"))
    (XI1 : PySem.W.isClsIn K C1 = true)
    (XH1 : PySem.W.hasDictIn K C1 = true)
    (XS1 : PySem.W.subIn K (.ref C1) (.ref C1) = some true)
    (XG1 : PySem.W.findIn K (.ref C1) "__getattribute__" = some (some (.builtin "BaseException.__getattribute__")))
    (XN1 : PySem.W.findIn K (.ref C1) "__getattr__" = some none)
    (XW1 : PySem.W.findIn K (.ref C1) "__class__" = some (some (.builtin "object.__class__")))
    (XM1 : PySem.W.mroIn K C1 (.type "object") = some true)
    (XZ1 : PySem.W.excIn K C1 [.type "ValueError", .type "Exception", .type "BaseException", .type "object"] "ValueError.__new__" = true)
    (XK2 : PySem.W.keepIn K (.ref C2) = true)
    (XB2 : PySem.W.subIn K (.ref C2) (.type "BaseException") = some true)
    (XT2 : PySem.W.typeIn K (.ref C2) = some (.type "type"))
    (XI2 : PySem.W.isClsIn K C2 = true)
    (XH2 : PySem.W.hasDictIn K C2 = true)
    (XS2 : PySem.W.subIn K (.ref C2) (.ref C2) = some true)
    (XG2 : PySem.W.findIn K (.ref C2) "__getattribute__" = some (some (.builtin "BaseException.__getattribute__")))
    (XN2 : PySem.W.findIn K (.ref C2) "__getattr__" = some none)
    (XW2 : PySem.W.findIn K (.ref C2) "__class__" = some (some (.builtin "object.__class__")))
    (XM2 : PySem.W.mroIn K C2 (.type "object") = some true)
    (XZ2 : PySem.W.excIn K C2 [.type "ValueError", .type "Exception", .type "BaseException", .type "object"] "ValueError.__new__" = true)
    (XK3 : PySem.W.keepIn K (.ref C3) = true)
    (XB3 : PySem.W.subIn K (.ref C3) (.type "BaseException") = some true)
    (XT3 : PySem.W.typeIn K (.ref C3) = some (.type "type"))
    (XI3 : PySem.W.isClsIn K C3 = true)
    (XH3 : PySem.W.hasDictIn K C3 = true)
    (XS3 : PySem.W.subIn K (.ref C3) (.ref C3) = some true)
    (XG3 : PySem.W.findIn K (.ref C3) "__getattribute__" = some (some (.builtin "BaseException.__getattribute__")))
    (XN3 : PySem.W.findIn K (.ref C3) "__getattr__" = some none)
    (XW3 : PySem.W.findIn K (.ref C3) "__class__" = some (some (.builtin "object.__class__")))
    (XM3 : PySem.W.mroIn K C3 (.type "object") = some true)
    (XL3 : K.lookup C3 = some (excClassObj nm3 qq3 C3 N3 bs3 [.ref C0, .type "ValueError", .type "Exception", .type "BaseException", .type "object"] true sn3 sub3 ab3 col3 dd3 p3 m3 n3 o3 r3 "ValueError.__new__"))
    (XU3 : PySem.W.findIn K (.ref C3) "__setattr__" = some (some (.builtin "object.__setattr__")))
    (XF3_word : PySem.W.findIn K (.ref C3) "word" = some none)
    (XF3_first : PySem.W.findIn K (.ref C3) "first" = some none)
    (XF3_second : PySem.W.findIn K (.ref C3) "second" = some none)
    (XJ3 : PySem.W.findIn K (.ref C3) "__init__" = some (some (.ref I3)))
    (XY3 : PySem.W.typeIn K (.ref I3) = some (.type "function"))
    (JL3 : K.lookup I3 = some ⟨ocJ3, odJ3, .func (PySem.W.fnOf "__init__" "Impossible.__init__" (defArgs s_Impossible_init) (defBody s_Impossible_init) (defScope s_Impossible_init) .none kVJ3 dcJ3 pmJ3 anJ3 cdJ3 ctJ3), slJ3⟩)
    (JC3 : PySem.W.codeIn K cdJ3 "Impossible.__init__" = true)
    (JK3 : PySem.W.keepIn K (.ref I3) = true)
    (VG : PySem.W.specialIn K (.ref C0) "__getattribute__" = some (some (.builtin "type.__getattribute__")))
    (VR : PySem.W.readsIn K C0 (.type "type") = true)
    (VV : PySem.W.findCls K (.ref C0) (.type "type") "__init__" = some (.val (.builtin "ValueError.__init__"))) :
    Tb K mg where
  a_is_integer := f0
  d_is_integer := PySem.W.fnOf "is_integer" "is_integer" (defArgs s_is_integer) (defBody s_is_integer) (defScope s_is_integer) .none kV0 dc0 pm0 an0 cd0 ct0
  F_is_integer := fun_mk (st := s_is_integer) l0 c0 k0
  g_is_integer := PySem.W.mg_of X G a0
  b_is_integer := (fun_mk (st := s_is_integer) l0 c0 k0).binds (ps := ["thing"]) fun _ _ _ _ _ _ us hl => match us, hl with | [_], _ => rfl
  a_are_integers := f1
  d_are_integers := PySem.W.fnOf "are_integers" "are_integers" (defArgs s_are_integers) (defBody s_are_integers) (defScope s_are_integers) .none kV1 dc1 pm1 an1 cd1 ct1
  F_are_integers := fun_mk (st := s_are_integers) l1 c1 k1
  g_are_integers := PySem.W.mg_of X G a1
  b_are_integers := (fun_mk (st := s_are_integers) l1 c1 k1).binds (ps := ["thing"]) fun _ _ _ _ _ _ us hl => match us, hl with | [_], _ => rfl
  a_is_row := f2
  d_is_row := PySem.W.fnOf "is_row" "is_row" (defArgs s_is_row) (defBody s_is_row) (defScope s_is_row) .none kV2 dc2 pm2 an2 cd2 ct2
  F_is_row := fun_mk (st := s_is_row) l2 c2 k2
  g_is_row := PySem.W.mg_of X G a2
  b_is_row := (fun_mk (st := s_is_row) l2 c2 k2).binds (ps := ["thing", "length"]) fun _ _ _ _ _ _ us hl => match us, hl with | [_, _], _ => rfl
  a_is_sheet := f3
  d_is_sheet := PySem.W.fnOf "is_sheet" "is_sheet" (defArgs s_is_sheet) (defBody s_is_sheet) (defScope s_is_sheet) .none kV3 dc3 pm3 an3 cd3 ct3
  F_is_sheet := fun_mk (st := s_is_sheet) l3 c3 k3
  g_is_sheet := PySem.W.mg_of X G a3
  b_is_sheet := (fun_mk (st := s_is_sheet) l3 c3 k3).binds (ps := ["thing"]) fun _ _ _ _ _ _ us hl => match us, hl with | [_], _ => rfl
  a_need_sheet := f4
  d_need_sheet := PySem.W.fnOf "need_sheet" "need_sheet" (defArgs s_need_sheet) (defBody s_need_sheet) (defScope s_need_sheet) .none kV4 dc4 pm4 an4 cd4 ct4
  F_need_sheet := fun_mk (st := s_need_sheet) l4 c4 k4
  g_need_sheet := PySem.W.mg_of X G a4
  b_need_sheet := (fun_mk (st := s_need_sheet) l4 c4 k4).binds (ps := ["sheet"]) fun _ _ _ _ _ _ us hl => match us, hl with | [_], _ => rfl
  a_need_day := f5
  d_need_day := PySem.W.fnOf "need_day" "need_day" (defArgs s_need_day) (defBody s_need_day) (defScope s_need_day) .none kV5 dc5 pm5 an5 cd5 ct5
  F_need_day := fun_mk (st := s_need_day) l5 c5 k5
  g_need_day := PySem.W.mg_of X G a5
  b_need_day := (fun_mk (st := s_need_day) l5 c5 k5).binds (ps := ["day", "count"]) fun _ _ _ _ _ _ us hl => match us, hl with | [_, _], _ => rfl
  a_width_told := f6
  d_width_told := PySem.W.fnOf "width_told" "width_told" (defArgs s_width_told) (defBody s_width_told) (defScope s_width_told) .none kV6 dc6 pm6 an6 cd6 ct6
  F_width_told := fun_mk (st := s_width_told) l6 c6 k6
  g_width_told := PySem.W.mg_of X G a6
  b_width_told := (fun_mk (st := s_width_told) l6 c6 k6).binds (ps := ["sheet"]) fun _ _ _ _ _ _ us hl => match us, hl with | [_], _ => rfl
  a_unlike_in := f7
  d_unlike_in := PySem.W.fnOf "unlike_in" "unlike_in" (defArgs s_unlike_in) (defBody s_unlike_in) (defScope s_unlike_in) .none kV7 dc7 pm7 an7 cd7 ct7
  F_unlike_in := fun_mk (st := s_unlike_in) l7 c7 k7
  g_unlike_in := PySem.W.mg_of X G a7
  b_unlike_in := (fun_mk (st := s_unlike_in) l7 c7 k7).binds (ps := ["sheet", "first", "last"]) fun _ _ _ _ _ _ us hl => match us, hl with | [_, _, _], _ => rfl
  a_width_in := f8
  d_width_in := PySem.W.fnOf "width_in" "width_in" (defArgs s_width_in) (defBody s_width_in) (defScope s_width_in) .none kV8 dc8 pm8 an8 cd8 ct8
  F_width_in := fun_mk (st := s_width_in) l8 c8 k8
  g_width_in := PySem.W.mg_of X G a8
  b_width_in := (fun_mk (st := s_width_in) l8 c8 k8).binds (ps := ["sheet"]) fun _ _ _ _ _ _ us hl => match us, hl with | [_], _ => rfl
  a_gap_in := f9
  d_gap_in := PySem.W.fnOf "gap_in" "gap_in" (defArgs s_gap_in) (defBody s_gap_in) (defScope s_gap_in) .none kV9 dc9 pm9 an9 cd9 ct9
  F_gap_in := fun_mk (st := s_gap_in) l9 c9 k9
  g_gap_in := PySem.W.mg_of X G a9
  b_gap_in := (fun_mk (st := s_gap_in) l9 c9 k9).binds (ps := ["sheet", "first", "second"]) fun _ _ _ _ _ _ us hl => match us, hl with | [_, _, _], _ => rfl
  a_last_looked := f10
  d_last_looked := PySem.W.fnOf "last_looked" "last_looked" (defArgs s_last_looked) (defBody s_last_looked) (defScope s_last_looked) .none kV10 dc10 pm10 an10 cd10 ct10
  F_last_looked := fun_mk (st := s_last_looked) l10 c10 k10
  g_last_looked := PySem.W.mg_of X G a10
  b_last_looked := (fun_mk (st := s_last_looked) l10 c10 k10).binds (ps := ["sheet", "day"]) fun _ _ _ _ _ _ us hl => match us, hl with | [_, _], _ => rfl
  a_first_looked := f11
  d_first_looked := PySem.W.fnOf "first_looked" "first_looked" (defArgs s_first_looked) (defBody s_first_looked) (defScope s_first_looked) .none kV11 dc11 pm11 an11 cd11 ct11
  F_first_looked := fun_mk (st := s_first_looked) l11 c11 k11
  g_first_looked := PySem.W.mg_of X G a11
  b_first_looked := (fun_mk (st := s_first_looked) l11 c11 k11).binds (ps := ["sheet", "day"]) fun _ _ _ _ _ _ us hl => match us, hl with | [_, _], _ => rfl
  a_away_in := f12
  d_away_in := PySem.W.fnOf "away_in" "away_in" (defArgs s_away_in) (defBody s_away_in) (defScope s_away_in) .none kV12 dc12 pm12 an12 cd12 ct12
  F_away_in := fun_mk (st := s_away_in) l12 c12 k12
  g_away_in := PySem.W.mg_of X G a12
  b_away_in := (fun_mk (st := s_away_in) l12 c12 k12).binds (ps := ["sheet", "day"]) fun _ _ _ _ _ _ us hl => match us, hl with | [_, _], _ => rfl
  a_fresh_in := f13
  d_fresh_in := PySem.W.fnOf "fresh_in" "fresh_in" (defArgs s_fresh_in) (defBody s_fresh_in) (defScope s_fresh_in) .none kV13 dc13 pm13 an13 cd13 ct13
  F_fresh_in := fun_mk (st := s_fresh_in) l13 c13 k13
  g_fresh_in := PySem.W.mg_of X G a13
  b_fresh_in := (fun_mk (st := s_fresh_in) l13 c13 k13).binds (ps := ["sheet", "day"]) fun _ _ _ _ _ _ us hl => match us, hl with | [_, _], _ => rfl
  a_gaps_in := f14
  d_gaps_in := PySem.W.fnOf "gaps_in" "gaps_in" (defArgs s_gaps_in) (defBody s_gaps_in) (defScope s_gaps_in) .none kV14 dc14 pm14 an14 cd14 ct14
  F_gaps_in := fun_mk (st := s_gaps_in) l14 c14 k14
  g_gaps_in := PySem.W.mg_of X G a14
  b_gaps_in := (fun_mk (st := s_gaps_in) l14 c14 k14).binds (ps := ["sheet"]) fun _ _ _ _ _ _ us hl => match us, hl with | [_], _ => rfl
  a_conflicts_in := f15
  d_conflicts_in := PySem.W.fnOf "conflicts_in" "conflicts_in" (defArgs s_conflicts_in) (defBody s_conflicts_in) (defScope s_conflicts_in) .none kV15 dc15 pm15 an15 cd15 ct15
  F_conflicts_in := fun_mk (st := s_conflicts_in) l15 c15 k15
  g_conflicts_in := PySem.W.mg_of X G a15
  b_conflicts_in := (fun_mk (st := s_conflicts_in) l15 c15 k15).binds (ps := ["sheet"]) fun _ _ _ _ _ _ us hl => match us, hl with | [_], _ => rfl
  a_conflict_in := f16
  d_conflict_in := PySem.W.fnOf "conflict_in" "conflict_in" (defArgs s_conflict_in) (defBody s_conflict_in) (defScope s_conflict_in) .none kV16 dc16 pm16 an16 cd16 ct16
  F_conflict_in := fun_mk (st := s_conflict_in) l16 c16 k16
  g_conflict_in := PySem.W.mg_of X G a16
  b_conflict_in := (fun_mk (st := s_conflict_in) l16 c16 k16).binds (ps := ["sheet"]) fun _ _ _ _ _ _ us hl => match us, hl with | [_], _ => rfl
  a_need_possible := f17
  d_need_possible := PySem.W.fnOf "need_possible" "need_possible" (defArgs s_need_possible) (defBody s_need_possible) (defScope s_need_possible) .none kV17 dc17 pm17 an17 cd17 ct17
  F_need_possible := fun_mk (st := s_need_possible) l17 c17 k17
  g_need_possible := PySem.W.mg_of X G a17
  b_need_possible := (fun_mk (st := s_need_possible) l17 c17 k17).binds (ps := ["sheet"]) fun _ _ _ _ _ _ us hl => match us, hl with | [_], _ => rfl
  a_away_of := f18
  d_away_of := PySem.W.fnOf "away_of" "away_of" (defArgs s_away_of) (defBody s_away_of) (defScope s_away_of) .none kV18 dc18 pm18 an18 cd18 ct18
  F_away_of := fun_mk (st := s_away_of) l18 c18 k18
  g_away_of := PySem.W.mg_of X G a18
  b_away_of := (fun_mk (st := s_away_of) l18 c18 k18).binds (ps := ["sheet", "day"]) fun _ _ _ _ _ _ us hl => match us, hl with | [_, _], _ => rfl
  a_fresh_of := f19
  d_fresh_of := PySem.W.fnOf "fresh_of" "fresh_of" (defArgs s_fresh_of) (defBody s_fresh_of) (defScope s_fresh_of) .none kV19 dc19 pm19 an19 cd19 ct19
  F_fresh_of := fun_mk (st := s_fresh_of) l19 c19 k19
  g_fresh_of := PySem.W.mg_of X G a19
  b_fresh_of := (fun_mk (st := s_fresh_of) l19 c19 k19).binds (ps := ["sheet", "day"]) fun _ _ _ _ _ _ us hl => match us, hl with | [_, _], _ => rfl
  a_all_gaps := f20
  d_all_gaps := PySem.W.fnOf "all_gaps" "all_gaps" (defArgs s_all_gaps) (defBody s_all_gaps) (defScope s_all_gaps) .none kV20 dc20 pm20 an20 cd20 ct20
  F_all_gaps := fun_mk (st := s_all_gaps) l20 c20 k20
  g_all_gaps := PySem.W.mg_of X G a20
  b_all_gaps := (fun_mk (st := s_all_gaps) l20 c20 k20).binds (ps := ["sheet"]) fun _ _ _ _ _ _ us hl => match us, hl with | [_], _ => rfl
  a_conflict_of := f21
  d_conflict_of := PySem.W.fnOf "conflict_of" "conflict_of" (defArgs s_conflict_of) (defBody s_conflict_of) (defScope s_conflict_of) .none kV21 dc21 pm21 an21 cd21 ct21
  F_conflict_of := fun_mk (st := s_conflict_of) l21 c21 k21
  g_conflict_of := PySem.W.mg_of X G a21
  b_conflict_of := (fun_mk (st := s_conflict_of) l21 c21 k21).binds (ps := ["sheet"]) fun _ _ _ _ _ _ us hl => match us, hl with | [_], _ => rfl
  a_most_in := f22
  d_most_in := PySem.W.fnOf "most_in" "most_in" (defArgs s_most_in) (defBody s_most_in) (defScope s_most_in) .none kV22 dc22 pm22 an22 cd22 ct22
  F_most_in := fun_mk (st := s_most_in) l22 c22 k22
  g_most_in := PySem.W.mg_of X G a22
  b_most_in := (fun_mk (st := s_most_in) l22 c22 k22).binds (ps := ["sheet", "first", "last"]) fun _ _ _ _ _ _ us hl => match us, hl with | [_, _, _], _ => rfl
  a_covers_in := f23
  d_covers_in := PySem.W.fnOf "covers_in" "covers_in" (defArgs s_covers_in) (defBody s_covers_in) (defScope s_covers_in) .none kV23 dc23 pm23 an23 cd23 ct23
  F_covers_in := fun_mk (st := s_covers_in) l23 c23 k23
  g_covers_in := PySem.W.mg_of X G a23
  b_covers_in := (fun_mk (st := s_covers_in) l23 c23 k23).binds (ps := ["sheet", "first", "last"]) fun _ _ _ _ _ _ us hl => match us, hl with | [_, _, _], _ => rfl
  a_longer_in := f24
  d_longer_in := PySem.W.fnOf "longer_in" "longer_in" (defArgs s_longer_in) (defBody s_longer_in) (defScope s_longer_in) .none kV24 dc24 pm24 an24 cd24 ct24
  F_longer_in := fun_mk (st := s_longer_in) l24 c24 k24
  g_longer_in := PySem.W.mg_of X G a24
  b_longer_in := (fun_mk (st := s_longer_in) l24 c24 k24).binds (ps := ["sheet", "first", "last"]) fun _ _ _ _ _ _ us hl => match us, hl with | [_, _, _], _ => rfl
  a_need_stretch := f25
  d_need_stretch := PySem.W.fnOf "need_stretch" "need_stretch" (defArgs s_need_stretch) (defBody s_need_stretch) (defScope s_need_stretch) .none kV25 dc25 pm25 an25 cd25 ct25
  F_need_stretch := fun_mk (st := s_need_stretch) l25 c25 k25
  g_need_stretch := PySem.W.mg_of X G a25
  b_need_stretch := (fun_mk (st := s_need_stretch) l25 c25 k25).binds (ps := ["sheet", "first", "last"]) fun _ _ _ _ _ _ us hl => match us, hl with | [_, _, _], _ => rfl
  a_longer_range := f26
  d_longer_range := PySem.W.fnOf "longer_range" "longer_range" (defArgs s_longer_range) (defBody s_longer_range) (defScope s_longer_range) .none kV26 dc26 pm26 an26 cd26 ct26
  F_longer_range := fun_mk (st := s_longer_range) l26 c26 k26
  g_longer_range := PySem.W.mg_of X G a26
  b_longer_range := (fun_mk (st := s_longer_range) l26 c26 k26).binds (ps := ["sheet", "first", "last"]) fun _ _ _ _ _ _ us hl => match us, hl with | [_, _, _], _ => rfl
  a_new_in := f27
  d_new_in := PySem.W.fnOf "new_in" "new_in" (defArgs s_new_in) (defBody s_new_in) (defScope s_new_in) .none kV27 dc27 pm27 an27 cd27 ct27
  F_new_in := fun_mk (st := s_new_in) l27 c27 k27
  g_new_in := PySem.W.mg_of X G a27
  b_new_in := (fun_mk (st := s_new_in) l27 c27 k27).binds (ps := ["sheet", "day"]) fun _ _ _ _ _ _ us hl => match us, hl with | [_, _], _ => rfl
  a_gone_in := f28
  d_gone_in := PySem.W.fnOf "gone_in" "gone_in" (defArgs s_gone_in) (defBody s_gone_in) (defScope s_gone_in) .none kV28 dc28 pm28 an28 cd28 ct28
  F_gone_in := fun_mk (st := s_gone_in) l28 c28 k28
  g_gone_in := PySem.W.mg_of X G a28
  b_gone_in := (fun_mk (st := s_gone_in) l28 c28 k28).binds (ps := ["sheet", "day"]) fun _ _ _ _ _ _ us hl => match us, hl with | [_, _], _ => rfl
  a_next_in := f29
  d_next_in := PySem.W.fnOf "next_in" "next_in" (defArgs s_next_in) (defBody s_next_in) (defScope s_next_in) .none kV29 dc29 pm29 an29 cd29 ct29
  F_next_in := fun_mk (st := s_next_in) l29 c29 k29
  g_next_in := PySem.W.mg_of X G a29
  b_next_in := (fun_mk (st := s_next_in) l29 c29 k29).binds (ps := ["sheet", "first", "second"]) fun _ _ _ _ _ _ us hl => match us, hl with | [_, _, _], _ => rfl
  a_new_range := f30
  d_new_range := PySem.W.fnOf "new_range" "new_range" (defArgs s_new_range) (defBody s_new_range) (defScope s_new_range) .none kV30 dc30 pm30 an30 cd30 ct30
  F_new_range := fun_mk (st := s_new_range) l30 c30 k30
  g_new_range := PySem.W.mg_of X G a30
  b_new_range := (fun_mk (st := s_new_range) l30 c30 k30).binds (ps := ["sheet", "day"]) fun _ _ _ _ _ _ us hl => match us, hl with | [_, _], _ => rfl
  a_gone_range := f31
  d_gone_range := PySem.W.fnOf "gone_range" "gone_range" (defArgs s_gone_range) (defBody s_gone_range) (defScope s_gone_range) .none kV31 dc31 pm31 an31 cd31 ct31
  F_gone_range := fun_mk (st := s_gone_range) l31 c31 k31
  g_gone_range := PySem.W.mg_of X G a31
  b_gone_range := (fun_mk (st := s_gone_range) l31 c31 k31).binds (ps := ["sheet", "day"]) fun _ _ _ _ _ _ us hl => match us, hl with | [_, _], _ => rfl
  a_next_range := f32
  d_next_range := PySem.W.fnOf "next_range" "next_range" (defArgs s_next_range) (defBody s_next_range) (defScope s_next_range) .none kV32 dc32 pm32 an32 cd32 ct32
  F_next_range := fun_mk (st := s_next_range) l32 c32 k32
  g_next_range := PySem.W.mg_of X G a32
  b_next_range := (fun_mk (st := s_next_range) l32 c32 k32).binds (ps := ["sheet", "first", "second"]) fun _ _ _ _ _ _ us hl => match us, hl with | [_, _, _], _ => rfl
  a_L_jar := f33
  d_L_jar := PySem.W.fnOf "_law_jar" "_law_jar" (defArgs s_L_jar) (defBody s_L_jar) (defScope s_L_jar) .none kV33 dc33 pm33 an33 cd33 ct33
  F_L_jar := fun_mk (st := s_L_jar) l33 c33 k33
  g_L_jar := PySem.W.mg_of X G a33
  b_L_jar := (fun_mk (st := s_L_jar) l33 c33 k33).binds (ps := ["script", "k"]) fun _ _ _ _ _ _ us hl => match us, hl with | [_, _], _ => rfl
  a_L_dip := f34
  d_L_dip := PySem.W.fnOf "_law_dip" "_law_dip" (defArgs s_L_dip) (defBody s_L_dip) (defScope s_L_dip) .none kV34 dc34 pm34 an34 cd34 ct34
  F_L_dip := fun_mk (st := s_L_dip) l34 c34 k34
  g_L_dip := PySem.W.mg_of X G a34
  b_L_dip := (fun_mk (st := s_L_dip) l34 c34 k34).binds (ps := ["jar", "many"]) fun _ _ _ _ _ _ us hl => match us, hl with | [_, _], _ => rfl
  a_L_many := f35
  d_L_many := PySem.W.fnOf "_law_many" "_law_many" (defArgs s_L_many) (defBody s_L_many) (defScope s_L_many) .none kV35 dc35 pm35 an35 cd35 ct35
  F_L_many := fun_mk (st := s_L_many) l35 c35 k35
  g_L_many := PySem.W.mg_of X G a35
  b_L_many := (fun_mk (st := s_L_many) l35 c35 k35).binds (ps := ["jar"]) fun _ _ _ _ _ _ us hl => match us, hl with | [_], _ => rfl
  a_L_days := f36
  d_L_days := PySem.W.fnOf "_law_days" "_law_days" (defArgs s_L_days) (defBody s_L_days) (defScope s_L_days) .none kV36 dc36 pm36 an36 cd36 ct36
  F_L_days := fun_mk (st := s_L_days) l36 c36 k36
  g_L_days := PySem.W.mg_of X G a36
  b_L_days := (fun_mk (st := s_L_days) l36 c36 k36).binds (ps := ["jar", "count_here"]) fun _ _ _ _ _ _ us hl => match us, hl with | [_, _], _ => rfl
  a_L_family := f37
  d_L_family := PySem.W.fnOf "_law_family" "_law_family" (defArgs s_L_family) (defBody s_L_family) (defScope s_L_family) .none kV37 dc37 pm37 an37 cd37 ct37
  F_L_family := fun_mk (st := s_L_family) l37 c37 k37
  g_L_family := PySem.W.mg_of X G a37
  b_L_family := (fun_mk (st := s_L_family) l37 c37 k37).binds (ps := ["jar", "count_here", "size"]) fun _ _ _ _ _ _ us hl => match us, hl with | [_, _, _], _ => rfl
  a_L_sheet := f38
  d_L_sheet := PySem.W.fnOf "_law_sheet" "_law_sheet" (defArgs s_L_sheet) (defBody s_L_sheet) (defScope s_L_sheet) .none kV38 dc38 pm38 an38 cd38 ct38
  F_L_sheet := fun_mk (st := s_L_sheet) l38 c38 k38
  g_L_sheet := PySem.W.mg_of X G a38
  b_L_sheet := (fun_mk (st := s_L_sheet) l38 c38 k38).binds (ps := ["some", "count_here", "wide"]) fun _ _ _ _ _ _ us hl => match us, hl with | [_, _, _], _ => rfl
  a_L_right := f39
  d_L_right := PySem.W.fnOf "_law_right" "_law_right" (defArgs s_L_right) (defBody s_L_right) (defScope s_L_right) .none kV39 dc39 pm39 an39 cd39 ct39
  F_L_right := fun_mk (st := s_L_right) l39 c39 k39
  g_L_right := PySem.W.mg_of X G a39
  b_L_right := (fun_mk (st := s_L_right) l39 c39 k39).binds (ps := ["jar", "sheet_here", "fewer"]) fun _ _ _ _ _ _ us hl => match us, hl with | [_, _, _], _ => rfl
  a_law := f40
  d_law := PySem.W.fnOf "law" "law" (defArgs s_law) (defBody s_law) (defScope s_law) .none kV40 dc40 pm40 an40 cd40 ct40
  F_law := fun_mk (st := s_law) l40 c40 k40
  g_law := PySem.W.mg_of X G a40
  b_law := (fun_mk (st := s_law) l40 c40 k40).binds (ps := ["script"]) fun _ _ _ _ _ _ us hl => match us, hl with | [_], _ => rfl
  t_MOST_DAYS := tk0
  c_MOST_DAYS := PySem.W.mg_of X G v0
  n_len := PySem.W.mg_none_of X G z0
  n_sum := PySem.W.mg_none_of X G z1
  n_all := PySem.W.mg_none_of X G z2
  n_abs := PySem.W.mg_none_of X G z3
  n_list := PySem.W.mg_none_of X G z4
  n_tuple := PySem.W.mg_none_of X G z5
  n_min := PySem.W.mg_none_of X G z6
  n_max := PySem.W.mg_none_of X G z7
  n_range := PySem.W.mg_none_of X G z8
  n_enumerate := PySem.W.mg_none_of X G z9
  n_zip := PySem.W.mg_none_of X G z10
  n_sorted := PySem.W.mg_none_of X G z11
  n_isinstance := PySem.W.mg_none_of X G z12
  n_int := PySem.W.mg_none_of X G z13
  n_bool := PySem.W.mg_none_of X G z14
  A_FaceError := C0
  x_FaceError := ⟨PySem.W.mg_of X G XA0, XK0, XB0, XT0, XI0, XH0, XS0, XG0, XN0, XW0, XCN, XCT, XM0⟩
  z_FaceError := XZ0
  A_InvalidSheet := C1
  x_InvalidSheet := ⟨PySem.W.mg_of X G XA1, XK1, XB1, XT1, XI1, XH1, XS1, XG1, XN1, XW1, XCN, XCT, XM1⟩
  z_InvalidSheet := XZ1
  A_InvalidDay := C2
  x_InvalidDay := ⟨PySem.W.mg_of X G XA2, XK2, XB2, XT2, XI2, XH2, XS2, XG2, XN2, XW2, XCN, XCT, XM2⟩
  z_InvalidDay := XZ2
  A_Impossible := C3
  x_Impossible := ⟨PySem.W.mg_of X G XA3, XK3, XB3, XT3, XI3, XH3, XS3, XG3, XN3, XW3, XCN, XCT, XM3⟩
  o_Impossible := ⟨⟨nm3, qq3, N3, bs3, _, sn3, sub3, ab3, col3, dd3, p3, m3, n3, o3, r3, XL3, (show PySem.HandSPX.refsVE [.type "ValueError", .type "Exception", .type "BaseException", .type "object"] = true by decide +kernel)⟩, XU3, XB3, XT3, XK3⟩
  f_Impossible := List.forall_mem_cons.mpr ⟨XF3_word, List.forall_mem_cons.mpr ⟨XF3_first, List.forall_mem_cons.mpr ⟨XF3_second, fun _ h => (by cases h)⟩⟩⟩
  I_Impossible := I3
  D_Impossible := PySem.W.fnOf "__init__" "Impossible.__init__" (defArgs s_Impossible_init) (defBody s_Impossible_init) (defScope s_Impossible_init) .none kVJ3 dcJ3 pmJ3 anJ3 cdJ3 ctJ3
  i_Impossible := XJ3
  t_Impossible := XY3
  J_Impossible := fun_mk (st := s_Impossible_init) JL3 JC3 JK3
  b_Impossible := (fun_mk (st := s_Impossible_init) JL3 JC3 JK3).binds (ps := ["self", "word", "first", "second"]) fun _ _ _ _ _ _ us hl => match us, hl with | [_, _, _, _], _ => rfl
  vF := ⟨VG, XT0, VR, VV⟩

theorem all_mk {l : PySem.W.OpenLaw} {w : World} {K : PySem.W.Frag} {h : Heap} {mg : Str → Option Value} {fa : Addr} (X : K.In h) (G : h.Ns mainGlobals mg) (hfa : mg "law" = some (.ref fa)) {od0 an0 : Option Addr} {sl0 : Array (Option Value)} {oc0 kV0 dc0 pm0 cd0 ct0 : Value} {f0 : Addr} {od1 an1 : Option Addr} {sl1 : Array (Option Value)} {oc1 kV1 dc1 pm1 cd1 ct1 : Value} {f1 : Addr} {od2 an2 : Option Addr} {sl2 : Array (Option Value)} {oc2 kV2 dc2 pm2 cd2 ct2 : Value} {f2 : Addr} {od3 an3 : Option Addr} {sl3 : Array (Option Value)} {oc3 kV3 dc3 pm3 cd3 ct3 : Value} {f3 : Addr} {od4 an4 : Option Addr} {sl4 : Array (Option Value)} {oc4 kV4 dc4 pm4 cd4 ct4 : Value} {f4 : Addr} {od5 an5 : Option Addr} {sl5 : Array (Option Value)} {oc5 kV5 dc5 pm5 cd5 ct5 : Value} {f5 : Addr} {od6 an6 : Option Addr} {sl6 : Array (Option Value)} {oc6 kV6 dc6 pm6 cd6 ct6 : Value} {f6 : Addr} {od7 an7 : Option Addr} {sl7 : Array (Option Value)} {oc7 kV7 dc7 pm7 cd7 ct7 : Value} {f7 : Addr} {od8 an8 : Option Addr} {sl8 : Array (Option Value)} {oc8 kV8 dc8 pm8 cd8 ct8 : Value} {f8 : Addr} {od9 an9 : Option Addr} {sl9 : Array (Option Value)} {oc9 kV9 dc9 pm9 cd9 ct9 : Value} {f9 : Addr} {od10 an10 : Option Addr} {sl10 : Array (Option Value)} {oc10 kV10 dc10 pm10 cd10 ct10 : Value} {f10 : Addr} {od11 an11 : Option Addr} {sl11 : Array (Option Value)} {oc11 kV11 dc11 pm11 cd11 ct11 : Value} {f11 : Addr} {od12 an12 : Option Addr} {sl12 : Array (Option Value)} {oc12 kV12 dc12 pm12 cd12 ct12 : Value} {f12 : Addr} {od13 an13 : Option Addr} {sl13 : Array (Option Value)} {oc13 kV13 dc13 pm13 cd13 ct13 : Value} {f13 : Addr} {od14 an14 : Option Addr} {sl14 : Array (Option Value)} {oc14 kV14 dc14 pm14 cd14 ct14 : Value} {f14 : Addr} {od15 an15 : Option Addr} {sl15 : Array (Option Value)} {oc15 kV15 dc15 pm15 cd15 ct15 : Value} {f15 : Addr} {od16 an16 : Option Addr} {sl16 : Array (Option Value)} {oc16 kV16 dc16 pm16 cd16 ct16 : Value} {f16 : Addr} {od17 an17 : Option Addr} {sl17 : Array (Option Value)} {oc17 kV17 dc17 pm17 cd17 ct17 : Value} {f17 : Addr} {od18 an18 : Option Addr} {sl18 : Array (Option Value)} {oc18 kV18 dc18 pm18 cd18 ct18 : Value} {f18 : Addr} {od19 an19 : Option Addr} {sl19 : Array (Option Value)} {oc19 kV19 dc19 pm19 cd19 ct19 : Value} {f19 : Addr} {od20 an20 : Option Addr} {sl20 : Array (Option Value)} {oc20 kV20 dc20 pm20 cd20 ct20 : Value} {f20 : Addr} {od21 an21 : Option Addr} {sl21 : Array (Option Value)} {oc21 kV21 dc21 pm21 cd21 ct21 : Value} {f21 : Addr} {od22 an22 : Option Addr} {sl22 : Array (Option Value)} {oc22 kV22 dc22 pm22 cd22 ct22 : Value} {f22 : Addr} {od23 an23 : Option Addr} {sl23 : Array (Option Value)} {oc23 kV23 dc23 pm23 cd23 ct23 : Value} {f23 : Addr} {od24 an24 : Option Addr} {sl24 : Array (Option Value)} {oc24 kV24 dc24 pm24 cd24 ct24 : Value} {f24 : Addr} {od25 an25 : Option Addr} {sl25 : Array (Option Value)} {oc25 kV25 dc25 pm25 cd25 ct25 : Value} {f25 : Addr} {od26 an26 : Option Addr} {sl26 : Array (Option Value)} {oc26 kV26 dc26 pm26 cd26 ct26 : Value} {f26 : Addr} {od27 an27 : Option Addr} {sl27 : Array (Option Value)} {oc27 kV27 dc27 pm27 cd27 ct27 : Value} {f27 : Addr} {od28 an28 : Option Addr} {sl28 : Array (Option Value)} {oc28 kV28 dc28 pm28 cd28 ct28 : Value} {f28 : Addr} {od29 an29 : Option Addr} {sl29 : Array (Option Value)} {oc29 kV29 dc29 pm29 cd29 ct29 : Value} {f29 : Addr} {od30 an30 : Option Addr} {sl30 : Array (Option Value)} {oc30 kV30 dc30 pm30 cd30 ct30 : Value} {f30 : Addr} {od31 an31 : Option Addr} {sl31 : Array (Option Value)} {oc31 kV31 dc31 pm31 cd31 ct31 : Value} {f31 : Addr} {od32 an32 : Option Addr} {sl32 : Array (Option Value)} {oc32 kV32 dc32 pm32 cd32 ct32 : Value} {f32 : Addr} {od33 an33 : Option Addr} {sl33 : Array (Option Value)} {oc33 kV33 dc33 pm33 cd33 ct33 : Value} {f33 : Addr} {od34 an34 : Option Addr} {sl34 : Array (Option Value)} {oc34 kV34 dc34 pm34 cd34 ct34 : Value} {f34 : Addr} {od35 an35 : Option Addr} {sl35 : Array (Option Value)} {oc35 kV35 dc35 pm35 cd35 ct35 : Value} {f35 : Addr} {od36 an36 : Option Addr} {sl36 : Array (Option Value)} {oc36 kV36 dc36 pm36 cd36 ct36 : Value} {f36 : Addr} {od37 an37 : Option Addr} {sl37 : Array (Option Value)} {oc37 kV37 dc37 pm37 cd37 ct37 : Value} {f37 : Addr} {od38 an38 : Option Addr} {sl38 : Array (Option Value)} {oc38 kV38 dc38 pm38 cd38 ct38 : Value} {f38 : Addr} {od39 an39 : Option Addr} {sl39 : Array (Option Value)} {oc39 kV39 dc39 pm39 cd39 ct39 : Value} {f39 : Addr} {od40 an40 : Option Addr} {sl40 : Array (Option Value)} {oc40 kV40 dc40 pm40 cd40 ct40 : Value} {f40 : Addr} {tk0 : Tok} {C0 : Addr} {C1 : Addr} {C2 : Addr} {C3 : Addr} {nm3 qq3 : Str} {N3 : Addr} {bs3 : List Value} {sn3 : List Str} {sub3 : List Value} {ab3 : Bool} {col3 : Option Bool} {dd3 : Option Addr} {p3 m3 n3 o3 r3 : Option Value} {I3 : Addr} {odJ3 anJ3 : Option Addr} {slJ3 : Array (Option Value)} {ocJ3 kVJ3 dcJ3 pmJ3 cdJ3 ctJ3 : Value}
    (a0 : PySem.W.nsIn K mainGlobals "is_integer" = some (some (.ref f0))) (l0 : K.lookup f0 = some ⟨oc0, od0, .func (PySem.W.fnOf "is_integer" "is_integer" (defArgs s_is_integer) (defBody s_is_integer) (defScope s_is_integer) .none kV0 dc0 pm0 an0 cd0 ct0), sl0⟩) (c0 : PySem.W.codeIn K cd0 "is_integer" = true) (k0 : PySem.W.keepIn K (.ref f0) = true)
    (a1 : PySem.W.nsIn K mainGlobals "are_integers" = some (some (.ref f1))) (l1 : K.lookup f1 = some ⟨oc1, od1, .func (PySem.W.fnOf "are_integers" "are_integers" (defArgs s_are_integers) (defBody s_are_integers) (defScope s_are_integers) .none kV1 dc1 pm1 an1 cd1 ct1), sl1⟩) (c1 : PySem.W.codeIn K cd1 "are_integers" = true) (k1 : PySem.W.keepIn K (.ref f1) = true)
    (a2 : PySem.W.nsIn K mainGlobals "is_row" = some (some (.ref f2))) (l2 : K.lookup f2 = some ⟨oc2, od2, .func (PySem.W.fnOf "is_row" "is_row" (defArgs s_is_row) (defBody s_is_row) (defScope s_is_row) .none kV2 dc2 pm2 an2 cd2 ct2), sl2⟩) (c2 : PySem.W.codeIn K cd2 "is_row" = true) (k2 : PySem.W.keepIn K (.ref f2) = true)
    (a3 : PySem.W.nsIn K mainGlobals "is_sheet" = some (some (.ref f3))) (l3 : K.lookup f3 = some ⟨oc3, od3, .func (PySem.W.fnOf "is_sheet" "is_sheet" (defArgs s_is_sheet) (defBody s_is_sheet) (defScope s_is_sheet) .none kV3 dc3 pm3 an3 cd3 ct3), sl3⟩) (c3 : PySem.W.codeIn K cd3 "is_sheet" = true) (k3 : PySem.W.keepIn K (.ref f3) = true)
    (a4 : PySem.W.nsIn K mainGlobals "need_sheet" = some (some (.ref f4))) (l4 : K.lookup f4 = some ⟨oc4, od4, .func (PySem.W.fnOf "need_sheet" "need_sheet" (defArgs s_need_sheet) (defBody s_need_sheet) (defScope s_need_sheet) .none kV4 dc4 pm4 an4 cd4 ct4), sl4⟩) (c4 : PySem.W.codeIn K cd4 "need_sheet" = true) (k4 : PySem.W.keepIn K (.ref f4) = true)
    (a5 : PySem.W.nsIn K mainGlobals "need_day" = some (some (.ref f5))) (l5 : K.lookup f5 = some ⟨oc5, od5, .func (PySem.W.fnOf "need_day" "need_day" (defArgs s_need_day) (defBody s_need_day) (defScope s_need_day) .none kV5 dc5 pm5 an5 cd5 ct5), sl5⟩) (c5 : PySem.W.codeIn K cd5 "need_day" = true) (k5 : PySem.W.keepIn K (.ref f5) = true)
    (a6 : PySem.W.nsIn K mainGlobals "width_told" = some (some (.ref f6))) (l6 : K.lookup f6 = some ⟨oc6, od6, .func (PySem.W.fnOf "width_told" "width_told" (defArgs s_width_told) (defBody s_width_told) (defScope s_width_told) .none kV6 dc6 pm6 an6 cd6 ct6), sl6⟩) (c6 : PySem.W.codeIn K cd6 "width_told" = true) (k6 : PySem.W.keepIn K (.ref f6) = true)
    (a7 : PySem.W.nsIn K mainGlobals "unlike_in" = some (some (.ref f7))) (l7 : K.lookup f7 = some ⟨oc7, od7, .func (PySem.W.fnOf "unlike_in" "unlike_in" (defArgs s_unlike_in) (defBody s_unlike_in) (defScope s_unlike_in) .none kV7 dc7 pm7 an7 cd7 ct7), sl7⟩) (c7 : PySem.W.codeIn K cd7 "unlike_in" = true) (k7 : PySem.W.keepIn K (.ref f7) = true)
    (a8 : PySem.W.nsIn K mainGlobals "width_in" = some (some (.ref f8))) (l8 : K.lookup f8 = some ⟨oc8, od8, .func (PySem.W.fnOf "width_in" "width_in" (defArgs s_width_in) (defBody s_width_in) (defScope s_width_in) .none kV8 dc8 pm8 an8 cd8 ct8), sl8⟩) (c8 : PySem.W.codeIn K cd8 "width_in" = true) (k8 : PySem.W.keepIn K (.ref f8) = true)
    (a9 : PySem.W.nsIn K mainGlobals "gap_in" = some (some (.ref f9))) (l9 : K.lookup f9 = some ⟨oc9, od9, .func (PySem.W.fnOf "gap_in" "gap_in" (defArgs s_gap_in) (defBody s_gap_in) (defScope s_gap_in) .none kV9 dc9 pm9 an9 cd9 ct9), sl9⟩) (c9 : PySem.W.codeIn K cd9 "gap_in" = true) (k9 : PySem.W.keepIn K (.ref f9) = true)
    (a10 : PySem.W.nsIn K mainGlobals "last_looked" = some (some (.ref f10))) (l10 : K.lookup f10 = some ⟨oc10, od10, .func (PySem.W.fnOf "last_looked" "last_looked" (defArgs s_last_looked) (defBody s_last_looked) (defScope s_last_looked) .none kV10 dc10 pm10 an10 cd10 ct10), sl10⟩) (c10 : PySem.W.codeIn K cd10 "last_looked" = true) (k10 : PySem.W.keepIn K (.ref f10) = true)
    (a11 : PySem.W.nsIn K mainGlobals "first_looked" = some (some (.ref f11))) (l11 : K.lookup f11 = some ⟨oc11, od11, .func (PySem.W.fnOf "first_looked" "first_looked" (defArgs s_first_looked) (defBody s_first_looked) (defScope s_first_looked) .none kV11 dc11 pm11 an11 cd11 ct11), sl11⟩) (c11 : PySem.W.codeIn K cd11 "first_looked" = true) (k11 : PySem.W.keepIn K (.ref f11) = true)
    (a12 : PySem.W.nsIn K mainGlobals "away_in" = some (some (.ref f12))) (l12 : K.lookup f12 = some ⟨oc12, od12, .func (PySem.W.fnOf "away_in" "away_in" (defArgs s_away_in) (defBody s_away_in) (defScope s_away_in) .none kV12 dc12 pm12 an12 cd12 ct12), sl12⟩) (c12 : PySem.W.codeIn K cd12 "away_in" = true) (k12 : PySem.W.keepIn K (.ref f12) = true)
    (a13 : PySem.W.nsIn K mainGlobals "fresh_in" = some (some (.ref f13))) (l13 : K.lookup f13 = some ⟨oc13, od13, .func (PySem.W.fnOf "fresh_in" "fresh_in" (defArgs s_fresh_in) (defBody s_fresh_in) (defScope s_fresh_in) .none kV13 dc13 pm13 an13 cd13 ct13), sl13⟩) (c13 : PySem.W.codeIn K cd13 "fresh_in" = true) (k13 : PySem.W.keepIn K (.ref f13) = true)
    (a14 : PySem.W.nsIn K mainGlobals "gaps_in" = some (some (.ref f14))) (l14 : K.lookup f14 = some ⟨oc14, od14, .func (PySem.W.fnOf "gaps_in" "gaps_in" (defArgs s_gaps_in) (defBody s_gaps_in) (defScope s_gaps_in) .none kV14 dc14 pm14 an14 cd14 ct14), sl14⟩) (c14 : PySem.W.codeIn K cd14 "gaps_in" = true) (k14 : PySem.W.keepIn K (.ref f14) = true)
    (a15 : PySem.W.nsIn K mainGlobals "conflicts_in" = some (some (.ref f15))) (l15 : K.lookup f15 = some ⟨oc15, od15, .func (PySem.W.fnOf "conflicts_in" "conflicts_in" (defArgs s_conflicts_in) (defBody s_conflicts_in) (defScope s_conflicts_in) .none kV15 dc15 pm15 an15 cd15 ct15), sl15⟩) (c15 : PySem.W.codeIn K cd15 "conflicts_in" = true) (k15 : PySem.W.keepIn K (.ref f15) = true)
    (a16 : PySem.W.nsIn K mainGlobals "conflict_in" = some (some (.ref f16))) (l16 : K.lookup f16 = some ⟨oc16, od16, .func (PySem.W.fnOf "conflict_in" "conflict_in" (defArgs s_conflict_in) (defBody s_conflict_in) (defScope s_conflict_in) .none kV16 dc16 pm16 an16 cd16 ct16), sl16⟩) (c16 : PySem.W.codeIn K cd16 "conflict_in" = true) (k16 : PySem.W.keepIn K (.ref f16) = true)
    (a17 : PySem.W.nsIn K mainGlobals "need_possible" = some (some (.ref f17))) (l17 : K.lookup f17 = some ⟨oc17, od17, .func (PySem.W.fnOf "need_possible" "need_possible" (defArgs s_need_possible) (defBody s_need_possible) (defScope s_need_possible) .none kV17 dc17 pm17 an17 cd17 ct17), sl17⟩) (c17 : PySem.W.codeIn K cd17 "need_possible" = true) (k17 : PySem.W.keepIn K (.ref f17) = true)
    (a18 : PySem.W.nsIn K mainGlobals "away_of" = some (some (.ref f18))) (l18 : K.lookup f18 = some ⟨oc18, od18, .func (PySem.W.fnOf "away_of" "away_of" (defArgs s_away_of) (defBody s_away_of) (defScope s_away_of) .none kV18 dc18 pm18 an18 cd18 ct18), sl18⟩) (c18 : PySem.W.codeIn K cd18 "away_of" = true) (k18 : PySem.W.keepIn K (.ref f18) = true)
    (a19 : PySem.W.nsIn K mainGlobals "fresh_of" = some (some (.ref f19))) (l19 : K.lookup f19 = some ⟨oc19, od19, .func (PySem.W.fnOf "fresh_of" "fresh_of" (defArgs s_fresh_of) (defBody s_fresh_of) (defScope s_fresh_of) .none kV19 dc19 pm19 an19 cd19 ct19), sl19⟩) (c19 : PySem.W.codeIn K cd19 "fresh_of" = true) (k19 : PySem.W.keepIn K (.ref f19) = true)
    (a20 : PySem.W.nsIn K mainGlobals "all_gaps" = some (some (.ref f20))) (l20 : K.lookup f20 = some ⟨oc20, od20, .func (PySem.W.fnOf "all_gaps" "all_gaps" (defArgs s_all_gaps) (defBody s_all_gaps) (defScope s_all_gaps) .none kV20 dc20 pm20 an20 cd20 ct20), sl20⟩) (c20 : PySem.W.codeIn K cd20 "all_gaps" = true) (k20 : PySem.W.keepIn K (.ref f20) = true)
    (a21 : PySem.W.nsIn K mainGlobals "conflict_of" = some (some (.ref f21))) (l21 : K.lookup f21 = some ⟨oc21, od21, .func (PySem.W.fnOf "conflict_of" "conflict_of" (defArgs s_conflict_of) (defBody s_conflict_of) (defScope s_conflict_of) .none kV21 dc21 pm21 an21 cd21 ct21), sl21⟩) (c21 : PySem.W.codeIn K cd21 "conflict_of" = true) (k21 : PySem.W.keepIn K (.ref f21) = true)
    (a22 : PySem.W.nsIn K mainGlobals "most_in" = some (some (.ref f22))) (l22 : K.lookup f22 = some ⟨oc22, od22, .func (PySem.W.fnOf "most_in" "most_in" (defArgs s_most_in) (defBody s_most_in) (defScope s_most_in) .none kV22 dc22 pm22 an22 cd22 ct22), sl22⟩) (c22 : PySem.W.codeIn K cd22 "most_in" = true) (k22 : PySem.W.keepIn K (.ref f22) = true)
    (a23 : PySem.W.nsIn K mainGlobals "covers_in" = some (some (.ref f23))) (l23 : K.lookup f23 = some ⟨oc23, od23, .func (PySem.W.fnOf "covers_in" "covers_in" (defArgs s_covers_in) (defBody s_covers_in) (defScope s_covers_in) .none kV23 dc23 pm23 an23 cd23 ct23), sl23⟩) (c23 : PySem.W.codeIn K cd23 "covers_in" = true) (k23 : PySem.W.keepIn K (.ref f23) = true)
    (a24 : PySem.W.nsIn K mainGlobals "longer_in" = some (some (.ref f24))) (l24 : K.lookup f24 = some ⟨oc24, od24, .func (PySem.W.fnOf "longer_in" "longer_in" (defArgs s_longer_in) (defBody s_longer_in) (defScope s_longer_in) .none kV24 dc24 pm24 an24 cd24 ct24), sl24⟩) (c24 : PySem.W.codeIn K cd24 "longer_in" = true) (k24 : PySem.W.keepIn K (.ref f24) = true)
    (a25 : PySem.W.nsIn K mainGlobals "need_stretch" = some (some (.ref f25))) (l25 : K.lookup f25 = some ⟨oc25, od25, .func (PySem.W.fnOf "need_stretch" "need_stretch" (defArgs s_need_stretch) (defBody s_need_stretch) (defScope s_need_stretch) .none kV25 dc25 pm25 an25 cd25 ct25), sl25⟩) (c25 : PySem.W.codeIn K cd25 "need_stretch" = true) (k25 : PySem.W.keepIn K (.ref f25) = true)
    (a26 : PySem.W.nsIn K mainGlobals "longer_range" = some (some (.ref f26))) (l26 : K.lookup f26 = some ⟨oc26, od26, .func (PySem.W.fnOf "longer_range" "longer_range" (defArgs s_longer_range) (defBody s_longer_range) (defScope s_longer_range) .none kV26 dc26 pm26 an26 cd26 ct26), sl26⟩) (c26 : PySem.W.codeIn K cd26 "longer_range" = true) (k26 : PySem.W.keepIn K (.ref f26) = true)
    (a27 : PySem.W.nsIn K mainGlobals "new_in" = some (some (.ref f27))) (l27 : K.lookup f27 = some ⟨oc27, od27, .func (PySem.W.fnOf "new_in" "new_in" (defArgs s_new_in) (defBody s_new_in) (defScope s_new_in) .none kV27 dc27 pm27 an27 cd27 ct27), sl27⟩) (c27 : PySem.W.codeIn K cd27 "new_in" = true) (k27 : PySem.W.keepIn K (.ref f27) = true)
    (a28 : PySem.W.nsIn K mainGlobals "gone_in" = some (some (.ref f28))) (l28 : K.lookup f28 = some ⟨oc28, od28, .func (PySem.W.fnOf "gone_in" "gone_in" (defArgs s_gone_in) (defBody s_gone_in) (defScope s_gone_in) .none kV28 dc28 pm28 an28 cd28 ct28), sl28⟩) (c28 : PySem.W.codeIn K cd28 "gone_in" = true) (k28 : PySem.W.keepIn K (.ref f28) = true)
    (a29 : PySem.W.nsIn K mainGlobals "next_in" = some (some (.ref f29))) (l29 : K.lookup f29 = some ⟨oc29, od29, .func (PySem.W.fnOf "next_in" "next_in" (defArgs s_next_in) (defBody s_next_in) (defScope s_next_in) .none kV29 dc29 pm29 an29 cd29 ct29), sl29⟩) (c29 : PySem.W.codeIn K cd29 "next_in" = true) (k29 : PySem.W.keepIn K (.ref f29) = true)
    (a30 : PySem.W.nsIn K mainGlobals "new_range" = some (some (.ref f30))) (l30 : K.lookup f30 = some ⟨oc30, od30, .func (PySem.W.fnOf "new_range" "new_range" (defArgs s_new_range) (defBody s_new_range) (defScope s_new_range) .none kV30 dc30 pm30 an30 cd30 ct30), sl30⟩) (c30 : PySem.W.codeIn K cd30 "new_range" = true) (k30 : PySem.W.keepIn K (.ref f30) = true)
    (a31 : PySem.W.nsIn K mainGlobals "gone_range" = some (some (.ref f31))) (l31 : K.lookup f31 = some ⟨oc31, od31, .func (PySem.W.fnOf "gone_range" "gone_range" (defArgs s_gone_range) (defBody s_gone_range) (defScope s_gone_range) .none kV31 dc31 pm31 an31 cd31 ct31), sl31⟩) (c31 : PySem.W.codeIn K cd31 "gone_range" = true) (k31 : PySem.W.keepIn K (.ref f31) = true)
    (a32 : PySem.W.nsIn K mainGlobals "next_range" = some (some (.ref f32))) (l32 : K.lookup f32 = some ⟨oc32, od32, .func (PySem.W.fnOf "next_range" "next_range" (defArgs s_next_range) (defBody s_next_range) (defScope s_next_range) .none kV32 dc32 pm32 an32 cd32 ct32), sl32⟩) (c32 : PySem.W.codeIn K cd32 "next_range" = true) (k32 : PySem.W.keepIn K (.ref f32) = true)
    (a33 : PySem.W.nsIn K mainGlobals "_law_jar" = some (some (.ref f33))) (l33 : K.lookup f33 = some ⟨oc33, od33, .func (PySem.W.fnOf "_law_jar" "_law_jar" (defArgs s_L_jar) (defBody s_L_jar) (defScope s_L_jar) .none kV33 dc33 pm33 an33 cd33 ct33), sl33⟩) (c33 : PySem.W.codeIn K cd33 "_law_jar" = true) (k33 : PySem.W.keepIn K (.ref f33) = true)
    (a34 : PySem.W.nsIn K mainGlobals "_law_dip" = some (some (.ref f34))) (l34 : K.lookup f34 = some ⟨oc34, od34, .func (PySem.W.fnOf "_law_dip" "_law_dip" (defArgs s_L_dip) (defBody s_L_dip) (defScope s_L_dip) .none kV34 dc34 pm34 an34 cd34 ct34), sl34⟩) (c34 : PySem.W.codeIn K cd34 "_law_dip" = true) (k34 : PySem.W.keepIn K (.ref f34) = true)
    (a35 : PySem.W.nsIn K mainGlobals "_law_many" = some (some (.ref f35))) (l35 : K.lookup f35 = some ⟨oc35, od35, .func (PySem.W.fnOf "_law_many" "_law_many" (defArgs s_L_many) (defBody s_L_many) (defScope s_L_many) .none kV35 dc35 pm35 an35 cd35 ct35), sl35⟩) (c35 : PySem.W.codeIn K cd35 "_law_many" = true) (k35 : PySem.W.keepIn K (.ref f35) = true)
    (a36 : PySem.W.nsIn K mainGlobals "_law_days" = some (some (.ref f36))) (l36 : K.lookup f36 = some ⟨oc36, od36, .func (PySem.W.fnOf "_law_days" "_law_days" (defArgs s_L_days) (defBody s_L_days) (defScope s_L_days) .none kV36 dc36 pm36 an36 cd36 ct36), sl36⟩) (c36 : PySem.W.codeIn K cd36 "_law_days" = true) (k36 : PySem.W.keepIn K (.ref f36) = true)
    (a37 : PySem.W.nsIn K mainGlobals "_law_family" = some (some (.ref f37))) (l37 : K.lookup f37 = some ⟨oc37, od37, .func (PySem.W.fnOf "_law_family" "_law_family" (defArgs s_L_family) (defBody s_L_family) (defScope s_L_family) .none kV37 dc37 pm37 an37 cd37 ct37), sl37⟩) (c37 : PySem.W.codeIn K cd37 "_law_family" = true) (k37 : PySem.W.keepIn K (.ref f37) = true)
    (a38 : PySem.W.nsIn K mainGlobals "_law_sheet" = some (some (.ref f38))) (l38 : K.lookup f38 = some ⟨oc38, od38, .func (PySem.W.fnOf "_law_sheet" "_law_sheet" (defArgs s_L_sheet) (defBody s_L_sheet) (defScope s_L_sheet) .none kV38 dc38 pm38 an38 cd38 ct38), sl38⟩) (c38 : PySem.W.codeIn K cd38 "_law_sheet" = true) (k38 : PySem.W.keepIn K (.ref f38) = true)
    (a39 : PySem.W.nsIn K mainGlobals "_law_right" = some (some (.ref f39))) (l39 : K.lookup f39 = some ⟨oc39, od39, .func (PySem.W.fnOf "_law_right" "_law_right" (defArgs s_L_right) (defBody s_L_right) (defScope s_L_right) .none kV39 dc39 pm39 an39 cd39 ct39), sl39⟩) (c39 : PySem.W.codeIn K cd39 "_law_right" = true) (k39 : PySem.W.keepIn K (.ref f39) = true)
    (a40 : PySem.W.nsIn K mainGlobals "law" = some (some (.ref f40))) (l40 : K.lookup f40 = some ⟨oc40, od40, .func (PySem.W.fnOf "law" "law" (defArgs s_law) (defBody s_law) (defScope s_law) .none kV40 dc40 pm40 an40 cd40 ct40), sl40⟩) (c40 : PySem.W.codeIn K cd40 "law" = true) (k40 : PySem.W.keepIn K (.ref f40) = true)
    (v0 : PySem.W.nsIn K mainGlobals "MOST_DAYS" = some (some (.int 30 tk0)))
    (z0 : PySem.W.nsIn K mainGlobals "len" = some none)
    (z1 : PySem.W.nsIn K mainGlobals "sum" = some none)
    (z2 : PySem.W.nsIn K mainGlobals "all" = some none)
    (z3 : PySem.W.nsIn K mainGlobals "abs" = some none)
    (z4 : PySem.W.nsIn K mainGlobals "list" = some none)
    (z5 : PySem.W.nsIn K mainGlobals "tuple" = some none)
    (z6 : PySem.W.nsIn K mainGlobals "min" = some none)
    (z7 : PySem.W.nsIn K mainGlobals "max" = some none)
    (z8 : PySem.W.nsIn K mainGlobals "range" = some none)
    (z9 : PySem.W.nsIn K mainGlobals "enumerate" = some none)
    (z10 : PySem.W.nsIn K mainGlobals "zip" = some none)
    (z11 : PySem.W.nsIn K mainGlobals "sorted" = some none)
    (z12 : PySem.W.nsIn K mainGlobals "isinstance" = some none)
    (z13 : PySem.W.nsIn K mainGlobals "int" = some none)
    (z14 : PySem.W.nsIn K mainGlobals "bool" = some none)
    (XA0 : PySem.W.nsIn K mainGlobals "FaceError" = some (some (.ref C0)))
    (XA1 : PySem.W.nsIn K mainGlobals "InvalidSheet" = some (some (.ref C1)))
    (XA2 : PySem.W.nsIn K mainGlobals "InvalidDay" = some (some (.ref C2)))
    (XA3 : PySem.W.nsIn K mainGlobals "Impossible" = some (some (.ref C3)))
    (XCN : PySem.W.specialIn K (.builtin "object.__class__") "__get__" = some (some (.builtin "getset_descriptor.__get__")))
    (XCT : PySem.W.takesIn K (.builtin "object.__class__") = some true)
    (XK0 : PySem.W.keepIn K (.ref C0) = true)
    (XB0 : PySem.W.subIn K (.ref C0) (.type "BaseException") = some true)
    (XT0 : PySem.W.typeIn K (.ref C0) = some (.type "type"))
    (XI0 : PySem.W.isClsIn K C0 = true)
    (XH0 : PySem.W.hasDictIn K C0 = true)
    (XS0 : PySem.W.subIn K (.ref C0) (.ref C0) = some true)
    (XG0 : PySem.W.findIn K (.ref C0) "__getattribute__" = some (some (.builtin "BaseException.__getattribute__")))
    (XN0 : PySem.W.findIn K (.ref C0) "__getattr__" = some none)
    (XW0 : PySem.W.findIn K (.ref C0) "__class__" = some (some (.builtin "object.__class__")))
    (XM0 : PySem.W.mroIn K C0 (.type "object") = some true)
    (XZ0 : PySem.W.excIn K C0 [.type "ValueError", .type "Exception", .type "BaseException", .type "object"] "ValueError.__new__" = true)
    (XK1 : PySem.W.keepIn K (.ref C1) = true)
    (XB1 : PySem.W.subIn K (.ref C1) (.type "BaseException") = some true)
    (XT1 : PySem.W.typeIn K (.ref C1) = some (.type "type"))
    (XI1 : PySem.W.isClsIn K C1 = true)
    (XH1 : PySem.W.hasDictIn K C1 = true)
    (XS1 : PySem.W.subIn K (.ref C1) (.ref C1) = some true)
    (XG1 : PySem.W.findIn K (.ref C1) "__getattribute__" = some (some (.builtin "BaseException.__getattribute__")))
    (XN1 : PySem.W.findIn K (.ref C1) "__getattr__" = some none)
    (XW1 : PySem.W.findIn K (.ref C1) "__class__" = some (some (.builtin "object.__class__")))
    (XM1 : PySem.W.mroIn K C1 (.type "object") = some true)
    (XZ1 : PySem.W.excIn K C1 [.type "ValueError", .type "Exception", .type "BaseException", .type "object"] "ValueError.__new__" = true)
    (XK2 : PySem.W.keepIn K (.ref C2) = true)
    (XB2 : PySem.W.subIn K (.ref C2) (.type "BaseException") = some true)
    (XT2 : PySem.W.typeIn K (.ref C2) = some (.type "type"))
    (XI2 : PySem.W.isClsIn K C2 = true)
    (XH2 : PySem.W.hasDictIn K C2 = true)
    (XS2 : PySem.W.subIn K (.ref C2) (.ref C2) = some true)
    (XG2 : PySem.W.findIn K (.ref C2) "__getattribute__" = some (some (.builtin "BaseException.__getattribute__")))
    (XN2 : PySem.W.findIn K (.ref C2) "__getattr__" = some none)
    (XW2 : PySem.W.findIn K (.ref C2) "__class__" = some (some (.builtin "object.__class__")))
    (XM2 : PySem.W.mroIn K C2 (.type "object") = some true)
    (XZ2 : PySem.W.excIn K C2 [.type "ValueError", .type "Exception", .type "BaseException", .type "object"] "ValueError.__new__" = true)
    (XK3 : PySem.W.keepIn K (.ref C3) = true)
    (XB3 : PySem.W.subIn K (.ref C3) (.type "BaseException") = some true)
    (XT3 : PySem.W.typeIn K (.ref C3) = some (.type "type"))
    (XI3 : PySem.W.isClsIn K C3 = true)
    (XH3 : PySem.W.hasDictIn K C3 = true)
    (XS3 : PySem.W.subIn K (.ref C3) (.ref C3) = some true)
    (XG3 : PySem.W.findIn K (.ref C3) "__getattribute__" = some (some (.builtin "BaseException.__getattribute__")))
    (XN3 : PySem.W.findIn K (.ref C3) "__getattr__" = some none)
    (XW3 : PySem.W.findIn K (.ref C3) "__class__" = some (some (.builtin "object.__class__")))
    (XM3 : PySem.W.mroIn K C3 (.type "object") = some true)
    (XL3 : K.lookup C3 = some (excClassObj nm3 qq3 C3 N3 bs3 [.ref C0, .type "ValueError", .type "Exception", .type "BaseException", .type "object"] true sn3 sub3 ab3 col3 dd3 p3 m3 n3 o3 r3 "ValueError.__new__"))
    (XU3 : PySem.W.findIn K (.ref C3) "__setattr__" = some (some (.builtin "object.__setattr__")))
    (XF3_word : PySem.W.findIn K (.ref C3) "word" = some none)
    (XF3_first : PySem.W.findIn K (.ref C3) "first" = some none)
    (XF3_second : PySem.W.findIn K (.ref C3) "second" = some none)
    (XJ3 : PySem.W.findIn K (.ref C3) "__init__" = some (some (.ref I3)))
    (XY3 : PySem.W.typeIn K (.ref I3) = some (.type "function"))
    (JL3 : K.lookup I3 = some ⟨ocJ3, odJ3, .func (PySem.W.fnOf "__init__" "Impossible.__init__" (defArgs s_Impossible_init) (defBody s_Impossible_init) (defScope s_Impossible_init) .none kVJ3 dcJ3 pmJ3 anJ3 cdJ3 ctJ3), slJ3⟩)
    (JC3 : PySem.W.codeIn K cdJ3 "Impossible.__init__" = true)
    (JK3 : PySem.W.keepIn K (.ref I3) = true)
    (VG : PySem.W.specialIn K (.ref C0) "__getattribute__" = some (some (.builtin "type.__getattribute__")))
    (VR : PySem.W.readsIn K C0 (.type "type") = true)
    (VV : PySem.W.findCls K (.ref C0) (.type "type") "__init__" = some (.val (.builtin "ValueError.__init__"))) :
    ∃ fd : FuncData, (∀ (s : Shared) (v : Value), BindsTo s fd ⟨[v], []⟩ [("script", v)]) ∧ ∀ base : Heap, K.In base → base.Ns mainGlobals mg → FnOk l.prog w K mg base (L2.CX l.prog w) 9 fa fd ["script"] (spLaw K) := by
  have e := hfa.symm.trans (PySem.W.mg_of X G a40)
  cases e
  exact ⟨PySem.W.fnOf "law" "law" (defArgs s_law) (defBody s_law) (defScope s_law) .none kV40 dc40 pm40 an40 cd40 ct40, fun s v => .of_eq rfl, fun base _ _ => ok_law (tb_mk X G a0 l0 c0 k0 a1 l1 c1 k1 a2 l2 c2 k2 a3 l3 c3 k3 a4 l4 c4 k4 a5 l5 c5 k5 a6 l6 c6 k6 a7 l7 c7 k7 a8 l8 c8 k8 a9 l9 c9 k9 a10 l10 c10 k10 a11 l11 c11 k11 a12 l12 c12 k12 a13 l13 c13 k13 a14 l14 c14 k14 a15 l15 c15 k15 a16 l16 c16 k16 a17 l17 c17 k17 a18 l18 c18 k18 a19 l19 c19 k19 a20 l20 c20 k20 a21 l21 c21 k21 a22 l22 c22 k22 a23 l23 c23 k23 a24 l24 c24 k24 a25 l25 c25 k25 a26 l26 c26 k26 a27 l27 c27 k27 a28 l28 c28 k28 a29 l29 c29 k29 a30 l30 c30 k30 a31 l31 c31 k31 a32 l32 c32 k32 a33 l33 c33 k33 a34 l34 c34 k34 a35 l35 c35 k35 a36 l36 c36 k36 a37 l37 c37 k37 a38 l38 c38 k38 a39 l39 c39 k39 a40 l40 c40 k40 v0 z0 z1 z2 z3 z4 z5 z6 z7 z8 z9 z10 z11 z12 z13 z14 XA0 XA1 XA2 XA3 XCN XCT XK0 XB0 XT0 XI0 XH0 XS0 XG0 XN0 XW0 XM0 XZ0 XK1 XB1 XT1 XI1 XH1 XS1 XG1 XN1 XW1 XM1 XZ1 XK2 XB2 XT2 XI2 XH2 XS2 XG2 XN2 XW2 XM2 XZ2 XK3 XB3 XT3 XI3 XH3 XS3 XG3 XN3 XW3 XM3 XL3 XU3 XF3_word XF3_first XF3_second XJ3 XY3 JL3 JC3 JK3 VG VR VV)⟩
end FA.X.Y.V.J.K
open PySem PySem.W PyProof.Rows
set_option maxHeartbeats 0 in
theorem PySem.Challenge.cw_facesagain_k32_whole_one_more_day_holds : PySem.Challenge.rw_facesagain_k32_whole_one_more_day.Holds := by
  w_on; o_law; k_head; (case hw => w_witness2)
  k_fill
  refine L2.walk_of (l := PySem.Challenge.rw_facesagain_k32_whole_one_more_day) (n := 63) (k := 9) (x := "script") (CX := fun w => L2.CX PySem.Challenge.rw_facesagain_k32_whole_one_more_day.prog w) (sp := fun w => FA.X.Y.V.J.K.spLaw _) rfl (by decide) rfl ⟨rfl, by decide, by decide⟩ (fun w h Y => PySem.W.kIn_of Y) ?F (fun _ _ a ns hl _ hS => ⟨a, ns, rfl, hS, hl, fun _ => rfl⟩) (fun _ _ _ _ _ h => FA.X.Y.V.J.K.cx_never h)
  case F =>
    intro w mg fa h KX G hmg
    refine' FA.X.Y.V.J.K.all_mk KX G hmg ?a0 ?l0 ?c0 ?k0 ?a1 ?l1 ?c1 ?k1 ?a2 ?l2 ?c2 ?k2 ?a3 ?l3 ?c3 ?k3 ?a4 ?l4 ?c4 ?k4 ?a5 ?l5 ?c5 ?k5 ?a6 ?l6 ?c6 ?k6 ?a7 ?l7 ?c7 ?k7 ?a8 ?l8 ?c8 ?k8 ?a9 ?l9 ?c9 ?k9 ?a10 ?l10 ?c10 ?k10 ?a11 ?l11 ?c11 ?k11 ?a12 ?l12 ?c12 ?k12 ?a13 ?l13 ?c13 ?k13 ?a14 ?l14 ?c14 ?k14 ?a15 ?l15 ?c15 ?k15 ?a16 ?l16 ?c16 ?k16 ?a17 ?l17 ?c17 ?k17 ?a18 ?l18 ?c18 ?k18 ?a19 ?l19 ?c19 ?k19 ?a20 ?l20 ?c20 ?k20 ?a21 ?l21 ?c21 ?k21 ?a22 ?l22 ?c22 ?k22 ?a23 ?l23 ?c23 ?k23 ?a24 ?l24 ?c24 ?k24 ?a25 ?l25 ?c25 ?k25 ?a26 ?l26 ?c26 ?k26 ?a27 ?l27 ?c27 ?k27 ?a28 ?l28 ?c28 ?k28 ?a29 ?l29 ?c29 ?k29 ?a30 ?l30 ?c30 ?k30 ?a31 ?l31 ?c31 ?k31 ?a32 ?l32 ?c32 ?k32 ?a33 ?l33 ?c33 ?k33 ?a34 ?l34 ?c34 ?k34 ?a35 ?l35 ?c35 ?k35 ?a36 ?l36 ?c36 ?k36 ?a37 ?l37 ?c37 ?k37 ?a38 ?l38 ?c38 ?k38 ?a39 ?l39 ?c39 ?k39 ?a40 ?l40 ?c40 ?k40 ?v0 ?z0 ?z1 ?z2 ?z3 ?z4 ?z5 ?z6 ?z7 ?z8 ?z9 ?z10 ?z11 ?z12 ?z13 ?z14 ?XA0 ?XA1 ?XA2 ?XA3 ?XCN ?XCT ?XK0 ?XB0 ?XT0 ?XI0 ?XH0 ?XS0 ?XG0 ?XN0 ?XW0 ?XM0 ?XZ0 ?XK1 ?XB1 ?XT1 ?XI1 ?XH1 ?XS1 ?XG1 ?XN1 ?XW1 ?XM1 ?XZ1 ?XK2 ?XB2 ?XT2 ?XI2 ?XH2 ?XS2 ?XG2 ?XN2 ?XW2 ?XM2 ?XZ2 ?XK3 ?XB3 ?XT3 ?XI3 ?XH3 ?XS3 ?XG3 ?XN3 ?XW3 ?XM3 ?XL3 ?XU3 ?XF3_word ?XF3_first ?XF3_second ?XJ3 ?XY3 ?JL3 ?JC3 ?JK3 ?VG ?VR ?VV
    (case a0 => k_is); (case l0 => k_is); (case c0 => k_is); (case k0 => k_is); (case a1 => k_is); (case l1 => k_is); (case c1 => k_is); (case k1 => k_is); (case a2 => k_is); (case l2 => k_is); (case c2 => k_is); (case k2 => k_is); (case a3 => k_is); (case l3 => k_is); (case c3 => k_is); (case k3 => k_is); (case a4 => k_is); (case l4 => k_is); (case c4 => k_is); (case k4 => k_is); (case a5 => k_is); (case l5 => k_is); (case c5 => k_is); (case k5 => k_is); (case a6 => k_is); (case l6 => k_is); (case c6 => k_is); (case k6 => k_is); (case a7 => k_is); (case l7 => k_is); (case c7 => k_is); (case k7 => k_is); (case a8 => k_is); (case l8 => k_is); (case c8 => k_is); (case k8 => k_is); (case a9 => k_is); (case l9 => k_is); (case c9 => k_is); (case k9 => k_is); (case a10 => k_is); (case l10 => k_is); (case c10 => k_is); (case k10 => k_is); (case a11 => k_is); (case l11 => k_is); (case c11 => k_is); (case k11 => k_is); (case a12 => k_is); (case l12 => k_is); (case c12 => k_is); (case k12 => k_is); (case a13 => k_is); (case l13 => k_is); (case c13 => k_is); (case k13 => k_is); (case a14 => k_is); (case l14 => k_is); (case c14 => k_is); (case k14 => k_is); (case a15 => k_is); (case l15 => k_is); (case c15 => k_is); (case k15 => k_is); (case a16 => k_is); (case l16 => k_is); (case c16 => k_is); (case k16 => k_is); (case a17 => k_is); (case l17 => k_is); (case c17 => k_is); (case k17 => k_is); (case a18 => k_is); (case l18 => k_is); (case c18 => k_is); (case k18 => k_is); (case a19 => k_is); (case l19 => k_is); (case c19 => k_is); (case k19 => k_is); (case a20 => k_is); (case l20 => k_is); (case c20 => k_is); (case k20 => k_is); (case a21 => k_is); (case l21 => k_is); (case c21 => k_is); (case k21 => k_is); (case a22 => k_is); (case l22 => k_is); (case c22 => k_is); (case k22 => k_is); (case a23 => k_is); (case l23 => k_is); (case c23 => k_is); (case k23 => k_is); (case a24 => k_is); (case l24 => k_is); (case c24 => k_is); (case k24 => k_is); (case a25 => k_is); (case l25 => k_is); (case c25 => k_is); (case k25 => k_is); (case a26 => k_is); (case l26 => k_is); (case c26 => k_is); (case k26 => k_is); (case a27 => k_is); (case l27 => k_is); (case c27 => k_is); (case k27 => k_is); (case a28 => k_is); (case l28 => k_is); (case c28 => k_is); (case k28 => k_is); (case a29 => k_is); (case l29 => k_is); (case c29 => k_is); (case k29 => k_is); (case a30 => k_is); (case l30 => k_is); (case c30 => k_is); (case k30 => k_is); (case a31 => k_is); (case l31 => k_is); (case c31 => k_is); (case k31 => k_is); (case a32 => k_is); (case l32 => k_is); (case c32 => k_is); (case k32 => k_is); (case a33 => k_is); (case l33 => k_is); (case c33 => k_is); (case k33 => k_is); (case a34 => k_is); (case l34 => k_is); (case c34 => k_is); (case k34 => k_is); (case a35 => k_is); (case l35 => k_is); (case c35 => k_is); (case k35 => k_is); (case a36 => k_is); (case l36 => k_is); (case c36 => k_is); (case k36 => k_is); (case a37 => k_is); (case l37 => k_is); (case c37 => k_is); (case k37 => k_is); (case a38 => k_is); (case l38 => k_is); (case c38 => k_is); (case k38 => k_is); (case a39 => k_is); (case l39 => k_is); (case c39 => k_is); (case k39 => k_is); (case a40 => k_is); (case l40 => k_is); (case c40 => k_is); (case k40 => k_is); (case v0 => k_is); (case z0 => k_is); (case z1 => k_is); (case z2 => k_is); (case z3 => k_is); (case z4 => k_is); (case z5 => k_is); (case z6 => k_is); (case z7 => k_is); (case z8 => k_is); (case z9 => k_is); (case z10 => k_is); (case z11 => k_is); (case z12 => k_is); (case z13 => k_is); (case z14 => k_is); (case XA0 => k_is); (case XA1 => k_is); (case XA2 => k_is); (case XA3 => k_is); (case XCN => k_is); (case XCT => k_is); (case XK0 => k_is); (case XB0 => k_is); (case XT0 => k_is); (case XI0 => k_is); (case XH0 => k_is); (case XS0 => first | rfl | k_is); (case XG0 => k_is); (case XN0 => k_is); (case XW0 => k_is); (case XM0 => k_is); (case XZ0 => k_exc); (case XK1 => k_is); (case XB1 => k_is); (case XT1 => k_is); (case XI1 => k_is); (case XH1 => k_is); (case XS1 => first | rfl | k_is); (case XG1 => k_is); (case XN1 => k_is); (case XW1 => k_is); (case XM1 => k_is); (case XZ1 => k_exc); (case XK2 => k_is); (case XB2 => k_is); (case XT2 => k_is); (case XI2 => k_is); (case XH2 => k_is); (case XS2 => first | rfl | k_is); (case XG2 => k_is); (case XN2 => k_is); (case XW2 => k_is); (case XM2 => k_is); (case XZ2 => k_exc); (case XK3 => k_is); (case XB3 => k_is); (case XT3 => k_is); (case XI3 => k_is); (case XH3 => k_is); (case XS3 => first | rfl | k_is); (case XG3 => k_is); (case XN3 => k_is); (case XW3 => k_is); (case XM3 => k_is); (case XL3 => k_is); (case XU3 => k_is); (case XF3_word => k_is); (case XF3_first => k_is); (case XF3_second => k_is); (case XJ3 => k_is); (case XY3 => k_is); (case JL3 => k_is); (case JC3 => k_is); (case JK3 => k_is); (case VG => k_is); (case VR => k_is); (case VV => k_is)
