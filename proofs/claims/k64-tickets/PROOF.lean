import PyProof.Rows.All
import Wide.All
import OpenK.AllK
import Wide.FinOn
import HandS.ForMost
import HandS.ForExc
import HandS.ExcInit
import HandS.Property
import HandS.CallSlots
import HandS.Wide
import HandS.WideMore
import HandS.Style
import HandS.NoneIn
import HandS.IsInst
import HandS.Zip
import HandS.ExcIs
import PyProof.ReprLen
import HandS.OwnEq
import HandS.Ends
import HandS.WordsExc
import OpenK.KOps
import PySem.Challenge.RW_dueclocks_k64_tickets_taken_back
set_option Elab.async false
set_option linter.all false
set_option maxRecDepth 100000
set_option maxHeartbeats 4000000
namespace TL
open PySem PySem.Spec PyProof.Rows L2

inductive D where
  | non | bl (b : Bool) | int (i : Int) | str (x : Str)
  | tup (xs : List D) | lst (xs : List D) | scr (xs : List D)
  | ins (C : Addr) (ns : List Str) (xs : List D)
  | raw (v : V)

inductive MO where
  | lst (xs : List D)
  | ins (C : Addr) (ns : List Str) (xs : List D)

abbrev Sto := Addr → Option MO
def sset (μ : Sto) (a : Addr) (o : MO) : Sto := fun b => if b = a then some o else μ b
def sdel (μ : Sto) (a : Addr) : Sto := fun b => if b = a then none else μ b
theorem sset_same {μ : Sto} {a : Addr} {o : MO} : sset μ a o a = some o := if_pos rfl
theorem sset_ne {μ : Sto} {a b : Addr} {o : MO} (h : b ≠ a) : sset μ a o b = μ b := if_neg h
theorem sdel_same {μ : Sto} {a : Addr} : sdel μ a a = none := if_pos rfl
theorem sdel_ne {μ : Sto} {a b : Addr} (h : b ≠ a) : sdel μ a b = μ b := if_neg h
theorem sset_sset {μ : Sto} {a : Addr} {o o' : MO} : sset (sset μ a o) a o' = sset μ a o' := by
  funext b; unfold sset; split <;> rfl
theorem sset_self {μ : Sto} {a : Addr} {o : MO} (h : μ a = some o) : sset μ a o = μ := by
  funext b; unfold sset; split
  · rename_i e; rw [e, h]
  · rfl
theorem sset_comm {μ : Sto} {a b : Addr} {o o' : MO} (h : a ≠ b) : sset (sset μ a o) b o' = sset (sset μ b o') a o := by
  funext c; unfold sset
  by_cases e1 : c = a
  · subst e1; simp [h]
  · by_cases e2 : c = b
    · subst e2; simp [e1]
    · simp [e1, e2]
def Sub (μ' μ : Sto) : Prop := ∀ a o, μ' a = some o → μ a = some o
theorem Sub.refl (μ : Sto) : Sub μ μ := fun _ _ h => h
theorem Sub.trans {a b c : Sto} (h : Sub a b) (k : Sub b c) : Sub a c := fun x o e => k x o (h x o e)
theorem Sub.none {μ' μ : Sto} (s : Sub μ' μ) {a : Addr} (h : μ a = none) : μ' a = none := by
  cases e : μ' a with
  | none => rfl
  | some o => rw [s a o e] at h; cases h
theorem Sub.sset {μ' μ : Sto} (s : Sub μ' μ) (a : Addr) (o : MO) : Sub (sset μ' a o) (sset μ a o) := fun b x h => by
  unfold TL.sset at h ⊢
  split at h
  · rename_i e; rw [if_pos e]; exact h
  · rename_i e; rw [if_neg e]; exact s b x h
theorem Sub.out {μ' μ : Sto} (s : Sub μ' μ) {p : Addr} {o : MO} (h : μ' p = Option.none) : Sub μ' (TL.sset μ p o) := fun b x e => by
  have nb : b ≠ p := fun z => by rw [z, h] at e; cases e
  rw [sset_ne nb]; exact s b x e
theorem Sub.del {μ' μ : Sto} (s : Sub μ' μ) {p : Addr} (h : μ' p = Option.none) : Sub μ' (sdel μ p) := fun b x e => by
  have nb : b ≠ p := fun z => by rw [z, h] at e; cases e
  rw [sdel_ne nb]; exact s b x e

structure KZ where
  K : PySem.W.Frag
  Z : Addr → Prop
def KLs (K : KZ) (a : Addr) (xs : List V) : Prop := ∃ (o : Obj) (its : Array Value) (n : Nat), K.K.lookup a = some o ∧ o.cls = .type "list" ∧ o.dict = none ∧ o.data = .seq its n ∧ its.size ≤ sizeLine ∧ Vals xs its.toList
def KTp (K : KZ) (a : Addr) (xs : List V) : Prop := ∃ (o : Obj) (its : Array Value) (n : Nat), K.K.lookup a = some o ∧ o.cls = .type "tuple" ∧ o.data = .seq its n ∧ its.size ≤ sizeLine ∧ Vals xs its.toList
def Fr' (K : KZ) (μ : Sto) (a : Addr) : Prop := μ a = none ∧ ¬ K.Z a
def SL (K : KZ) (μ : Sto) (H : Hp) (a : Addr) (xs : List V) : Prop := H a = some (.lst xs) ∧ Fr' K μ a
def SLs (K : KZ) (μ : Sto) (H : Hp) (a : Addr) (xs : List V) : Prop := (Rd H a (.lst xs) ∧ Fr' K μ a) ∨ KLs K a xs
def ST (K : KZ) (μ : Sto) (H : Hp) (a : Addr) (xs : List V) : Prop := (Rd H a (.tup xs) ∧ Fr' K μ a) ∨ KTp K a xs
mutual
def Rp (K : KZ) (μ : Sto) (H : Hp) : D → V → Prop
  | .non, v => v = .non
  | .bl b, v => v = .bl b
  | .int i, v => v = .int i
  | .str x, v => v = .str x
  | .tup ds, v => ∃ a xs, v = .ref a ∧ ST K μ H a xs ∧ RpL K μ H ds xs
  | .lst ds, v => ∃ a xs, v = .ref a ∧ SL K μ H a xs ∧ RpL K μ H ds xs
  | .scr ds, v => ∃ a xs, v = .ref a ∧ SLs K μ H a xs ∧ RpL K μ H ds xs
  | .ins C ns ds, v => ∃ a dx xs, v = .ref a ∧ H a = some (.ins C dx (ns.zip xs)) ∧ Fr' K μ a ∧ ns.length = ds.length ∧ RpL K μ H ds xs
  | .raw w, v => v = w
def RpL (K : KZ) (μ : Sto) (H : Hp) : List D → List V → Prop
  | [], xs => xs = []
  | d :: ds, xs => ∃ v r, xs = v :: r ∧ Rp K μ H d v ∧ RpL K μ H ds r
end
theorem SL.seq {K : KZ} {μ : Sto} {H : Hp} {a : Addr} {xs : List V} (h : SL K μ H a xs) : SqL K.K H a xs := .inl (.inl h.1)
theorem SLs.seq {K : KZ} {μ : Sto} {H : Hp} {a : Addr} {xs : List V} (h : SLs K μ H a xs) : SqL K.K H a xs := h.elim (fun h => .inl h.1) fun h => .inr h
theorem ST.seq {K : KZ} {μ : Sto} {H : Hp} {a : Addr} {xs : List V} (h : ST K μ H a xs) : SqT K.K H a xs := h.elim (fun h => .inl h.1) fun h => .inr h

def Nx (μ : Sto) (H : Hp) (μ' : Sto) (H' : Hp) : Prop := ∀ a o, H a = some o → μ a = none → H' a = some o ∧ μ' a = none
theorem Nx.refl (μ : Sto) (H : Hp) : Nx μ H μ H := fun _ _ h m => ⟨h, m⟩
theorem Nx.trans {μ μ1 μ2 : Sto} {H H1 H2 : Hp} (a : Nx μ H μ1 H1) (b : Nx μ1 H1 μ2 H2) : Nx μ H μ2 H2 := fun c o h m => let ⟨h1, m1⟩ := a c o h m; b c o h1 m1
theorem Nx.rd {μ μ' : Sto} {H H' : Hp} (n : Nx μ H μ' H') {a : Addr} {u : HO} (h : Rd H a u) (m : μ a = none) : Rd H' a u ∧ μ' a = none := by
  rcases h with h | ⟨o, h⟩
  · obtain ⟨x, y⟩ := n a _ h m; exact ⟨.inl x, y⟩
  · obtain ⟨x, y⟩ := n a _ h m; exact ⟨.inr ⟨o, x⟩, y⟩
theorem Fr'.keep {K : KZ} {μ μ' : Sto} {H H' : Hp} {a : Addr} {o : HO} (n : Nx μ H μ' H') (h : H a = some o) (f : Fr' K μ a) : H' a = some o ∧ Fr' K μ' a := let ⟨x, y⟩ := n a o h f.1; ⟨x, y, f.2⟩
theorem SL.keep {K : KZ} {μ μ' : Sto} {H H' : Hp} {a : Addr} {xs : List V} (n : Nx μ H μ' H') (h : SL K μ H a xs) : SL K μ' H' a xs := h.2.keep n h.1
theorem SLs.keep {K : KZ} {μ μ' : Sto} {H H' : Hp} {a : Addr} {xs : List V} (n : Nx μ H μ' H') (h : SLs K μ H a xs) : SLs K μ' H' a xs := h.elim (fun h => let ⟨x, y⟩ := n.rd h.1 h.2.1; .inl ⟨x, y, h.2.2⟩) fun h => .inr h
theorem ST.keep {K : KZ} {μ μ' : Sto} {H H' : Hp} {a : Addr} {xs : List V} (n : Nx μ H μ' H') (h : ST K μ H a xs) : ST K μ' H' a xs := h.elim (fun h => let ⟨x, y⟩ := n.rd h.1 h.2.1; .inl ⟨x, y, h.2.2⟩) fun h => .inr h
mutual
theorem Rp.keep {K : KZ} {μ μ' : Sto} {H H' : Hp} (n : Nx μ H μ' H') : ∀ (d : D) (v : V), Rp K μ H d v → Rp K μ' H' d v
  | .non, v, h => by simpa only [Rp] using h
  | .bl b, v, h => by simpa only [Rp] using h
  | .int i, v, h => by simpa only [Rp] using h
  | .str x, v, h => by simpa only [Rp] using h
  | .raw w, v, h => by simpa only [Rp] using h
  | .tup ds, v, h => by
    simp only [Rp] at h ⊢
    obtain ⟨a, xs, e, s, r⟩ := h
    exact ⟨a, xs, e, s.keep n, RpL.keep n ds xs r⟩
  | .lst ds, v, h => by
    simp only [Rp] at h ⊢
    obtain ⟨a, xs, e, s, r⟩ := h
    exact ⟨a, xs, e, s.keep n, RpL.keep n ds xs r⟩
  | .scr ds, v, h => by
    simp only [Rp] at h ⊢
    obtain ⟨a, xs, e, s, r⟩ := h
    exact ⟨a, xs, e, s.keep n, RpL.keep n ds xs r⟩
  | .ins C ns ds, v, h => by
    simp only [Rp] at h ⊢
    obtain ⟨a, dx, xs, e, s, m, l, r⟩ := h
    obtain ⟨s', m'⟩ := m.keep n s
    exact ⟨a, dx, xs, e, s', m', l, RpL.keep n ds xs r⟩
theorem RpL.keep {K : KZ} {μ μ' : Sto} {H H' : Hp} (n : Nx μ H μ' H') : ∀ (ds : List D) (xs : List V), RpL K μ H ds xs → RpL K μ' H' ds xs
  | [], xs, h => by simpa only [RpL] using h
  | d :: ds, xs, h => by
    simp only [RpL] at h ⊢
    obtain ⟨v, r, e, h1, h2⟩ := h
    exact ⟨v, r, e, Rp.keep n d v h1, RpL.keep n ds r h2⟩
end
section
variable {K : KZ} {μ μ' : Sto} {H H' : Hp}
theorem rp_non {v : V} : Rp K μ H .non v ↔ v = .non := by simp only [Rp]
theorem rp_bl {b : Bool} {v : V} : Rp K μ H (.bl b) v ↔ v = .bl b := by simp only [Rp]
theorem rp_int {i : Int} {v : V} : Rp K μ H (.int i) v ↔ v = .int i := by simp only [Rp]
theorem rp_str {i : Str} {v : V} : Rp K μ H (.str i) v ↔ v = .str i := by simp only [Rp]
theorem rp_raw {w v : V} : Rp K μ H (.raw w) v ↔ v = w := by simp only [Rp]
theorem rp_tup {ds : List D} {v : V} : Rp K μ H (.tup ds) v ↔ ∃ a xs, v = .ref a ∧ ST K μ H a xs ∧ RpL K μ H ds xs := by simp only [Rp]
theorem rp_lst {ds : List D} {v : V} : Rp K μ H (.lst ds) v ↔ ∃ a xs, v = .ref a ∧ SL K μ H a xs ∧ RpL K μ H ds xs := by simp only [Rp]
theorem rp_scr {ds : List D} {v : V} : Rp K μ H (.scr ds) v ↔ ∃ a xs, v = .ref a ∧ SLs K μ H a xs ∧ RpL K μ H ds xs := by simp only [Rp]
theorem rp_ins {C : Addr} {ns : List Str} {ds : List D} {v : V} : Rp K μ H (.ins C ns ds) v ↔ ∃ a dx xs, v = .ref a ∧ H a = some (.ins C dx (ns.zip xs)) ∧ Fr' K μ a ∧ ns.length = ds.length ∧ RpL K μ H ds xs := by simp only [Rp]
theorem rpl_nil {xs : List V} : RpL K μ H [] xs ↔ xs = [] := by simp only [RpL]
theorem rpl_cons {d : D} {ds : List D} {xs : List V} : RpL K μ H (d :: ds) xs ↔ ∃ v r, xs = v :: r ∧ Rp K μ H d v ∧ RpL K μ H ds r := by simp only [RpL]
theorem RpL.cons {d : D} {ds : List D} {v : V} {xs : List V} (h : Rp K μ H d v) (t : RpL K μ H ds xs) : RpL K μ H (d :: ds) (v :: xs) := rpl_cons.mpr ⟨v, xs, rfl, h, t⟩
theorem RpL.nil : RpL K μ H [] [] := rpl_nil.mpr rfl
theorem RpL.length : ∀ {ds : List D} {xs : List V}, RpL K μ H ds xs → xs.length = ds.length
  | [], xs, h => by rw [rpl_nil.mp h]; rfl
  | d :: ds, xs, h => by
    obtain ⟨v, r, rfl, _, t⟩ := rpl_cons.mp h
    simp [RpL.length t]
theorem RpL.get : ∀ {ds : List D} {xs : List V} {i : Nat} {d : D}, RpL K μ H ds xs → ds[i]? = some d → ∃ v, xs[i]? = some v ∧ Rp K μ H d v
  | [], _, _, _, _, e => by simp at e
  | d :: ds, xs, 0, d', h, e => by
    obtain ⟨v, r, rfl, h1, _⟩ := rpl_cons.mp h
    simp at e; subst e; exact ⟨v, rfl, h1⟩
  | d :: ds, xs, i + 1, d', h, e => by
    obtain ⟨v, r, rfl, _, t⟩ := rpl_cons.mp h
    simpa using RpL.get (i := i) t (by simpa using e)
theorem RpL.getV : ∀ {ds : List D} {xs : List V} {i : Nat} {v : V}, RpL K μ H ds xs → xs[i]? = some v → ∃ d, ds[i]? = some d ∧ Rp K μ H d v
  | [], xs, i, v, h, e => by rw [rpl_nil.mp h] at e; simp at e
  | d :: ds, xs, 0, v', h, e => by
    obtain ⟨v, r, rfl, h1, _⟩ := rpl_cons.mp h
    simp at e; subst e; exact ⟨d, rfl, h1⟩
  | d :: ds, xs, i + 1, v', h, e => by
    obtain ⟨v, r, rfl, _, t⟩ := rpl_cons.mp h
    simpa using RpL.getV (i := i) t (by simpa using e)
theorem RpL.append : ∀ {ds es : List D} {xs ys : List V}, RpL K μ H ds xs → RpL K μ H es ys → RpL K μ H (ds ++ es) (xs ++ ys)
  | [], es, xs, ys, h, t => by rw [rpl_nil.mp h]; exact t
  | d :: ds, es, xs, ys, h, t => by
    obtain ⟨v, r, rfl, h1, h2⟩ := rpl_cons.mp h
    exact RpL.cons h1 (h2.append t)
theorem RpL.set {d : D} {v : V} (hd : Rp K μ H d v) : ∀ {ds : List D} {xs : List V} (i : Nat), RpL K μ H ds xs → RpL K μ H (ds.set i d) (xs.set i v)
  | [], xs, i, h => by rw [rpl_nil.mp h]; simpa using RpL.nil
  | e :: ds, xs, 0, h => by
    obtain ⟨w, r, rfl, h1, h2⟩ := rpl_cons.mp h
    exact RpL.cons hd h2
  | e :: ds, xs, i + 1, h => by
    obtain ⟨w, r, rfl, h1, h2⟩ := rpl_cons.mp h
    exact RpL.cons h1 (RpL.set hd i h2)
theorem RpL.take : ∀ {ds : List D} {xs : List V} (i : Nat), RpL K μ H ds xs → RpL K μ H (ds.take i) (xs.take i)
  | ds, xs, 0, h => by simpa using RpL.nil
  | [], xs, i + 1, h => by rw [rpl_nil.mp h]; simpa using RpL.nil
  | e :: ds, xs, i + 1, h => by
    obtain ⟨w, r, rfl, h1, h2⟩ := rpl_cons.mp h
    exact RpL.cons h1 (RpL.take i h2)
theorem RpL.drop : ∀ {ds : List D} {xs : List V} (i : Nat), RpL K μ H ds xs → RpL K μ H (ds.drop i) (xs.drop i)
  | ds, xs, 0, h => by simpa using h
  | [], xs, i + 1, h => by rw [rpl_nil.mp h]; simpa using RpL.nil
  | e :: ds, xs, i + 1, h => by
    obtain ⟨w, r, rfl, h1, h2⟩ := rpl_cons.mp h
    simpa using RpL.drop i h2
theorem RpL.reverse : ∀ {ds : List D} {xs : List V}, RpL K μ H ds xs → RpL K μ H ds.reverse xs.reverse
  | [], xs, h => by rw [rpl_nil.mp h]; simpa using RpL.nil
  | e :: ds, xs, h => by
    obtain ⟨w, r, rfl, h1, h2⟩ := rpl_cons.mp h
    rw [List.reverse_cons, List.reverse_cons]
    exact h2.reverse.append (RpL.cons h1 RpL.nil)
theorem RpL.dropLast {ds : List D} {xs : List V} (h : RpL K μ H ds xs) : RpL K μ H ds.dropLast xs.dropLast := by
  rw [List.dropLast_eq_take, List.dropLast_eq_take, h.length]
  exact h.take _
theorem RpL.ints : ∀ {ns : List Int} {xs : List V}, RpL K μ H (ns.map D.int) xs ↔ xs = ns.map V.int
  | [], xs => by simpa using rpl_nil
  | n :: ns, xs => by
    rw [List.map_cons, List.map_cons, rpl_cons]
    constructor
    · rintro ⟨v, r, rfl, h1, h2⟩
      rw [rp_int.mp h1, RpL.ints.mp h2]
    · rintro rfl
      exact ⟨_, _, rfl, rp_int.mpr rfl, RpL.ints.mpr rfl⟩

def CoR (K : KZ) (μ : Sto) (H : Hp) (a : Addr) : MO → Prop
  | .lst ds => ∃ xs, H a = some (.lst xs) ∧ RpL K μ H ds xs
  | .ins C ns ds => ∃ dx xs, H a = some (.ins C dx (ns.zip xs)) ∧ ns.length = ds.length ∧ RpL K μ H ds xs
def Rel (K : KZ) (μ : Sto) (H : Hp) : Prop := (∀ a o, μ a = some o → CoR K μ H a o ∧ ¬ K.Z a) ∧ ∀ a, K.Z a → H a ≠ none
theorem CoR.some {a : Addr} {o : MO} (h : CoR K μ H a o) : ∃ u, H a = some u := by
  cases o with
  | lst ds => obtain ⟨xs, e, _⟩ := h; exact ⟨_, e⟩
  | ins C ns ds => obtain ⟨dx, xs, e, _⟩ := h; exact ⟨_, e⟩
theorem Rel.co (r : Rel K μ H) {a : Addr} {o : MO} (h : μ a = some o) : CoR K μ H a o := (r.1 a o h).1
theorem Rel.free (r : Rel K μ H) {p : Addr} (h : H p = none) : μ p = none := by
  cases e : μ p with
  | none => rfl
  | some o =>
    obtain ⟨u, q⟩ := (r.co e).some
    rw [h] at q; cases q
theorem Rel.frz (r : Rel K μ H) {p : Addr} (h : H p = none) : Fr' K μ p := ⟨r.free h, fun z => r.2 p z h⟩
theorem CoR.keep {a : Addr} {o : MO} (h : CoR K μ H a o) (n : Nx μ H μ' H') (e : H' a = H a) : CoR K μ' H' a o := by
  cases o with
  | lst ds => obtain ⟨xs, q, r⟩ := h; exact ⟨xs, e.trans q, RpL.keep n _ _ r⟩
  | ins C ns ds => obtain ⟨dx, xs, q, l, r⟩ := h; exact ⟨dx, xs, e.trans q, l, RpL.keep n _ _ r⟩
theorem Nx.sub (s : Sub μ' μ) : Nx μ H μ' H := fun _ _ h m => ⟨h, s.none m⟩
theorem Rel.sub (r : Rel K μ H) (s : Sub μ' μ) : Rel K μ' H := ⟨fun a o e => ⟨(r.co (s a o e)).keep (Nx.sub s) rfl, (r.1 a o (s a o e)).2⟩, r.2⟩
theorem upd_some {a p : Addr} {o : HO} (h : H a ≠ none) : upd H p o a ≠ none := by
  by_cases e : a = p
  · subst e; rw [upd_same]; simp
  · rw [upd_ne e]; exact h
theorem Nx.new {p : Addr} {o : HO} (r : Rel K μ H) (h : H p = none) : Nx μ H μ (upd H p o) := fun a u e m => ⟨by rw [upd_ne (ne_of_none e h)]; exact e, m⟩
theorem Rel.new {p : Addr} {o : HO} (r : Rel K μ H) (h : H p = none) : Rel K μ (upd H p o) := ⟨fun a x e => ⟨(r.co e).keep (Nx.new r h) (by
  obtain ⟨u, q⟩ := (r.co e).some
  rw [upd_ne (ne_of_none q h)]), (r.1 a x e).2⟩, fun a z => upd_some (r.2 a z)⟩
theorem Nx.newM {p : Addr} {o : HO} {x : MO} (r : Rel K μ H) (h : H p = none) : Nx μ H (sset μ p x) (upd H p o) := fun a u e m => by
  have ne := ne_of_none e h
  exact ⟨by rw [upd_ne ne]; exact e, by rw [sset_ne ne]; exact m⟩
theorem Rel.newM {p : Addr} {o : HO} {x : MO} (r : Rel K μ H) (h : H p = none) (c : CoR K (sset μ p x) (upd H p o) p x) : Rel K (sset μ p x) (upd H p o) := ⟨fun a y e => by
  by_cases z : a = p
  · subst z; rw [sset_same] at e; cases e; exact ⟨c, (r.frz h).2⟩
  · rw [sset_ne z] at e
    exact ⟨(r.co e).keep (Nx.newM r h) (upd_ne z), (r.1 a y e).2⟩, fun a z => upd_some (r.2 a z)⟩
theorem Nx.wr {p : Addr} {o : HO} {x y : MO} (e : μ p = some x) : Nx μ H (sset μ p y) (upd H p o) := fun a u h m => by
  have ne : a ≠ p := fun z => by rw [z, e] at m; cases m
  exact ⟨by rw [upd_ne ne]; exact h, by rw [sset_ne ne]; exact m⟩
theorem Rel.wr {p : Addr} {o : HO} {x y : MO} (r : Rel K μ H) (e : μ p = some x) (c : CoR K (sset μ p y) (upd H p o) p y) : Rel K (sset μ p y) (upd H p o) := ⟨fun a z h => by
  by_cases q : a = p
  · subst q; rw [sset_same] at h; cases h; exact ⟨c, (r.1 a _ e).2⟩
  · rw [sset_ne q] at h
    exact ⟨(r.co h).keep (Nx.wr e) (upd_ne q), (r.1 a z h).2⟩, fun a z => upd_some (r.2 a z)⟩
end

abbrev SD := List (Option D)
def Sl (K : KZ) (μ : Sto) (H : Hp) (σ : SD) (σv : L2.St) : Prop := σ.length = σv.length ∧ ∀ (i : Nat) (d : D), σ[i]? = some (some d) → ∃ v, σv[i]? = some (some v) ∧ Rp K μ H d v
structure GI where
  p : KZ → Sto → Hp → Prop
  st : ∀ {K μ H μ' H'}, p K μ H → Nx μ H μ' H' → p K μ' H'
def G0 : GI := ⟨fun _ _ _ => True, fun _ _ => trivial⟩
structure RS (K : KZ) (G : GI) (σ : SD) (μ : Sto) (σv : L2.St) (H : Hp) : Prop where
  rel : Rel K μ H
  sl : Sl K μ H σ σv
  g : G.p K μ H
section
variable {K : KZ} {μ μ' μ1 : Sto} {H H' H1 : Hp} {σ : SD} {σv : L2.St} {G : GI}
theorem Sl.keep (s : Sl K μ H σ σv) (n : Nx μ H μ' H') : Sl K μ' H' σ σv := ⟨s.1, fun i d e => let ⟨v, h, r⟩ := s.2 i d e; ⟨v, h, Rp.keep n d v r⟩⟩
theorem Sl.set {d : D} {v : V} (s : Sl K μ H σ σv) (i : Nat) (r : Rp K μ H d v) : Sl K μ H (σ.set i (some d)) (σv.set i (some v)) := by
  refine ⟨by simpa using s.1, fun j e h => ?_⟩
  by_cases q : j = i
  · subst q
    have hj : j < σ.length := by
      have := List.getElem?_eq_some_iff.mp h
      obtain ⟨z, _⟩ := this
      simpa using z
    rw [List.getElem?_set_self hj] at h
    cases h
    exact ⟨v, by rw [List.getElem?_set_self (by rw [← s.1]; exact hj)], r⟩
  · rw [List.getElem?_set_ne (Ne.symm q)] at h
    rw [List.getElem?_set_ne (Ne.symm q)]
    exact s.2 j e h
theorem RS.go (r : RS K G σ μ σv H) (n : Nx μ H μ1 H1) (q : Rel K μ1 H1) : RS K G σ μ1 σv H1 := ⟨q, r.sl.keep n, G.st r.g n⟩
end
def SubS : SD → SD → Prop
  | [], [] => True
  | x :: r, y :: t => (x = none ∨ x = y) ∧ SubS r t
  | _, _ => False
theorem SubS.len : ∀ {a b : SD}, SubS a b → a.length = b.length
  | [], [], _ => rfl
  | x :: r, y :: t, h => by simp [SubS.len h.2]
  | [], _ :: _, h => h.elim
  | _ :: _, [], h => h.elim
theorem SubS.get : ∀ {a b : SD}, SubS a b → ∀ {i : Nat} {d : D}, a[i]? = some (some d) → b[i]? = some (some d)
  | [], [], _, i, d, e => by simp at e
  | x :: r, y :: t, h, 0, d, e => by
    simp at e; subst e
    rcases h.1 with q | q
    · cases q
    · simp [← q]
  | x :: r, y :: t, h, i + 1, d, e => by
    simpa using SubS.get h.2 (i := i) (by simpa using e)
  | [], _ :: _, h, _, _, _ => h.elim
  | _ :: _, [], h, _, _, _ => h.elim
theorem SubS.refl : ∀ (a : SD), SubS a a
  | [] => trivial
  | _ :: r => ⟨.inr rfl, SubS.refl r⟩
theorem Sl.sub {K : KZ} {μ : Sto} {H : Hp} {σ σ' : SD} {σv : L2.St} (s : Sl K μ H σ σv) (b : SubS σ' σ) : Sl K μ H σ' σv := ⟨b.len.trans s.1, fun i d e => s.2 i d (b.get e)⟩
theorem RS.sub {K : KZ} {G : GI} {μ μ' : Sto} {H : Hp} {σ σ' : SD} {σv : L2.St} (r : RS K G σ μ σv H) (b : SubS σ' σ) (s : Sub μ' μ) : RS K G σ' μ' σv H :=
  ⟨r.rel.sub s, (r.sl.sub b).keep (Nx.sub s), G.st r.g (Nx.sub s)⟩

def tS (X : Cx) (e : Expr) : TE := fun σ H Q => ∀ pins s, Inv X pins σ H s → wpAny (model X.prog X.w) X.A (eval e X.env) (EP X pins σ Q) X.xe s
def aS (X : Cx) (es : List Expr) : TA := fun σ H Q => ∀ pos pins s, Inv X pins σ H s → wpAny (model X.prog X.w) X.A (spliced (backTo pos (starEach es X.env))) (AP X pins σ Q) X.xe s
def bS (X : Cx) (e : Expr) : TT := fun σ H Q => ∀ pins s, Inv X pins σ H s → wpAny (model X.prog X.w) X.A (isTrue e X.env (eval e X.env)) (TP X pins σ Q) X.xe s
def wS (X : Cx) (e : Expr) : TT := fun σ H Q => ∀ whole pins s, Inv X pins σ H s → wpAny (model X.prog X.w) X.A (isTrue e X.env whole) (TP X pins σ Q) X.xe s
def sS (X : Cx) (st : Stmt) : TS := fun D σ H => ∀ pins s, Inv X pins σ H s → wpAny (model X.prog X.w) X.A (exec st X.env) (SP X pins D) X.xe s
def ssS (X : Cx) (st : List Stmt) : TS := fun D σ H => ∀ pins s, Inv X pins σ H s → wpAny (model X.prog X.w) X.A (execs st X.env) (SP X pins D) X.xe s
section
variable {X : Cx} {e : Expr} {es : List Expr} {st : Stmt} {sts : List Stmt} {σ : L2.St} {H : Hp}
theorem pS : PE X e (tS X e) := ⟨fun pins s σ H Q I h => h pins s I⟩
theorem paS : PA X es (aS X es) := ⟨fun pos pins s σ H Q I h => h pos pins s I⟩
theorem ptS : PT X e (bS X e) := ⟨fun pins s σ H Q I h => h pins s I⟩
theorem pwS : PW X e (wS X e) := ⟨fun wh pins s σ H Q I h => h wh pins s I⟩
theorem psS : PS X st (sS X st) := ⟨fun pins s σ H Q I h => h pins s I⟩
theorem pssS : PSs X sts (ssS X sts) := ⟨fun pins s σ H Q I h => h pins s I⟩
theorem toE {t : TE} (h : PE X e t) {Q : VK} (q : t σ H Q) : tS X e σ H Q := fun pins s I => h.run pins s σ H Q I q
theorem toA {t : TA} (h : PA X es t) {Q : List V → Hp → Prop} (q : t σ H Q) : aS X es σ H Q := fun pos pins s I => h.run pos pins s σ H Q I q
theorem toB {t : TT} (h : PT X e t) {Q : Bool → Hp → Prop} (q : t σ H Q) : bS X e σ H Q := fun pins s I => h.run pins s σ H Q I q
theorem toW {t : TT} (h : PW X e t) {Q : Bool → Hp → Prop} (q : t σ H Q) : wS X e σ H Q := fun wh pins s I => h.run wh pins s σ H Q I q
theorem toS {t : TS} (h : PS X st t) {Dn : Ends} (q : t Dn σ H) : sS X st Dn σ H := fun pins s I => h.run pins s σ H Dn I q
theorem toSs {t : TS} (h : PSs X sts t) {Dn : Ends} (q : t Dn σ H) : ssS X sts Dn σ H := fun pins s I => h.run pins s σ H Dn I q
theorem tS.mono {Q Q' : VK} (h : tS X e σ H Q) (k : ∀ v H', Q v H' → Q' v H') : tS X e σ H Q' := fun pins s I => thn (h pins s I) fun u s' ⟨v, H', I', r, q⟩ => ⟨v, H', I', r, k v H' q⟩
theorem aS.mono {Q Q' : List V → Hp → Prop} (h : aS X es σ H Q) (k : ∀ v H', Q v H' → Q' v H') : aS X es σ H Q' := fun pos pins s I => thn (h pos pins s I) fun u s' ⟨v, H', I', r, q⟩ => ⟨v, H', I', r, k v H' q⟩
theorem bS.mono {Q Q' : Bool → Hp → Prop} (h : bS X e σ H Q) (k : ∀ v H', Q v H' → Q' v H') : bS X e σ H Q' := fun pins s I => thn (h pins s I) fun u s' ⟨H', I', q⟩ => ⟨H', I', k u H' q⟩
theorem wS.mono {Q Q' : Bool → Hp → Prop} (h : wS X e σ H Q) (k : ∀ v H', Q v H' → Q' v H') : wS X e σ H Q' := fun wh pins s I => thn (h wh pins s I) fun u s' ⟨H', I', q⟩ => ⟨H', I', k u H' q⟩
structure EndsLe (D D' : Ends) : Prop where
  nx : ∀ σ H, D.nx σ H → D'.nx σ H
  rt : ∀ v H, D.rt v H → D'.rt v H
  bk : ∀ σ H, D.bk σ H → D'.bk σ H
  ct : ∀ σ H, D.ct σ H → D'.ct σ H
theorem SP.mono {D D' : Ends} (l : EndsLe D D') {pins : List (Addr × Obj)} {f : Flow} {s' : Shared} (h : SP X pins D f s') : SP X pins D' f s' := by
  cases f with
  | next => obtain ⟨σ', H', I, q⟩ := h; exact ⟨σ', H', I, l.nx _ _ q⟩
  | brk => obtain ⟨σ', H', I, q⟩ := h; exact ⟨σ', H', I, l.bk _ _ q⟩
  | cont => obtain ⟨σ', H', I, q⟩ := h; exact ⟨σ', H', I, l.ct _ _ q⟩
  | ret u => obtain ⟨v, σ', H', I, r, q⟩ := h; exact ⟨v, σ', H', I, r, l.rt _ _ q⟩
theorem sS.mono {D D' : Ends} (h : sS X st D σ H) (l : EndsLe D D') : sS X st D' σ H := fun pins s I => thn (h pins s I) fun _ _ q => SP.mono l q
theorem ssS.mono {D D' : Ends} (h : ssS X sts D σ H) (l : EndsLe D D') : ssS X sts D' σ H := fun pins s I => thn (h pins s I) fun _ _ q => SP.mono l q
end

abbrev ExD := Addr → D → Sto → Prop
abbrev QD := D → Sto → Prop
abbrev ME := SD → Sto → QD → ExD → Prop
abbrev MA := SD → Sto → (List D → Sto → Prop) → ExD → Prop
abbrev MT := SD → Sto → (Bool → Sto → Prop) → ExD → Prop
structure DE where
  nx : SD → Sto → Prop
  rt : QD
  bk : SD → Sto → Prop := fun _ _ => False
  ct : SD → Sto → Prop := fun _ _ => False
  ex : Addr → D → SD → Sto → Prop
abbrev MS := DE → SD → Sto → Prop

section
variable (K : KZ) (G : GI) (μ : Sto) (H : Hp)
def QE (Q : QD) : VK := fun v H' => ∃ d μ', Q d μ' ∧ Nx μ H μ' H' ∧ Rel K μ' H' ∧ Rp K μ' H' d v
def QA (Q : List D → Sto → Prop) : List V → Hp → Prop := fun vs H' => ∃ ds μ', Q ds μ' ∧ Nx μ H μ' H' ∧ Rel K μ' H' ∧ RpL K μ' H' ds vs
def QB (Q : Bool → Sto → Prop) : Bool → Hp → Prop := fun b H' => ∃ μ', Q b μ' ∧ Nx μ H μ' H' ∧ Rel K μ' H'
def ExAt (μ' : Sto) (H' : Hp) (dd : Addr) (val : D) : Prop := μ' dd = none ∧ ∃ w, H' dd = some (.xd [(("value" : Str), w)]) ∧ Rp K μ' H' val w
def XW (E : ExD) (W : XK) : Prop := ∀ C val μ' H' dd, E C val μ' → Nx μ H μ' H' → Rel K μ' H' → ExAt K μ' H' dd val → W (.ref C) (some dd) H'
def XWs (E : Addr → D → SD → Sto → Prop) (W : WX) : Prop := ∀ C val σ' μ' σv' H' dd, E C val σ' μ' → Nx μ H μ' H' → RS K G σ' μ' σv' H' → ExAt K μ' H' dd val → W (.ref C) (some dd) σv' H'
def QS (Q : SD → Sto → Prop) : L2.St → Hp → Prop := fun σv' H' => ∃ σ' μ', Q σ' μ' ∧ Nx μ H μ' H' ∧ RS K G σ' μ' σv' H'
def EndsOf (Dn : DE) : Ends where
  nx := QS K G μ H Dn.nx
  rt := QE K μ H Dn.rt
  bk := QS K G μ H Dn.bk
  ct := QS K G μ H Dn.ct
end
section
variable {K : KZ} {G : GI} {μ μ1 : Sto} {H H1 : Hp}
theorem QE.back {Q : QD} (n : Nx μ H μ1 H1) {v : V} {H' : Hp} (h : QE K μ1 H1 Q v H') : QE K μ H Q v H' := let ⟨d, μ', q, nx, r, p⟩ := h; ⟨d, μ', q, n.trans nx, r, p⟩
theorem QA.back {Q : List D → Sto → Prop} (n : Nx μ H μ1 H1) {v : List V} {H' : Hp} (h : QA K μ1 H1 Q v H') : QA K μ H Q v H' := let ⟨d, μ', q, nx, r, p⟩ := h; ⟨d, μ', q, n.trans nx, r, p⟩
theorem QB.back {Q : Bool → Sto → Prop} (n : Nx μ H μ1 H1) {v : Bool} {H' : Hp} (h : QB K μ1 H1 Q v H') : QB K μ H Q v H' := let ⟨μ', q, nx, r⟩ := h; ⟨μ', q, n.trans nx, r⟩
theorem QS.back {Q : SD → Sto → Prop} (n : Nx μ H μ1 H1) {v : L2.St} {H' : Hp} (h : QS K G μ1 H1 Q v H') : QS K G μ H Q v H' := let ⟨σ', μ', q, nx, r⟩ := h; ⟨σ', μ', q, n.trans nx, r⟩
theorem ends_back {Dn : DE} (n : Nx μ H μ1 H1) : EndsLe (EndsOf K G μ1 H1 Dn) (EndsOf K G μ H Dn) := ⟨fun _ _ h => h.back n, fun _ _ h => h.back n, fun _ _ h => h.back n, fun _ _ h => h.back n⟩
theorem XW.on {E : ExD} {W : XK} (x : XW K μ H E W) (n : Nx μ H μ1 H1) : XW K μ1 H1 E W := fun C val μ' H' dd e nx r a => x C val μ' H' dd e (n.trans nx) r a
theorem XWs.on {E : Addr → D → SD → Sto → Prop} {W : WX} (x : XWs K G μ H E W) (n : Nx μ H μ1 H1) : XWs K G μ1 H1 E W := fun C val σ' μ' σv' H' dd e nx r a => x C val σ' μ' σv' H' dd e (n.trans nx) r a
theorem XWs.at {E : Addr → D → SD → Sto → Prop} {W : WX} {σ : SD} {σv : L2.St} (x : XWs K G μ H E W) (R : RS K G σ μ σv H) : XW K μ H (fun C val μ' => E C val σ μ') (fun c d H' => W c d σv H') :=
  fun C val μ' H' dd e nx r a => x C val σ μ' σv H' dd e nx (R.go nx r) a
end

abbrev kz (X : Cx) (Z : Addr → Prop) : KZ := ⟨X.K, Z⟩
structure EJ (X : Cx) (G : GI) (W : WX) (e : Expr) (m : ME) : Prop where
  run : ∀ σ μ Q E, m σ μ Q E → ∀ Z σv H, RS (kz X Z) G σ μ σv H → XW (kz X Z) μ H E (fun c d H' => W c d σv H') → tS X e σv H (QE (kz X Z) μ H Q)
structure AJ (X : Cx) (G : GI) (W : WX) (es : List Expr) (m : MA) : Prop where
  run : ∀ σ μ Q E, m σ μ Q E → ∀ Z σv H, RS (kz X Z) G σ μ σv H → XW (kz X Z) μ H E (fun c d H' => W c d σv H') → aS X es σv H (QA (kz X Z) μ H Q)
structure TJ (X : Cx) (G : GI) (W : WX) (e : Expr) (m : MT) : Prop where
  run : ∀ σ μ Q E, m σ μ Q E → ∀ Z σv H, RS (kz X Z) G σ μ σv H → XW (kz X Z) μ H E (fun c d H' => W c d σv H') → bS X e σv H (QB (kz X Z) μ H Q)
structure WJ (X : Cx) (G : GI) (W : WX) (e : Expr) (m : MT) : Prop where
  run : ∀ σ μ Q E, m σ μ Q E → ∀ Z σv H, RS (kz X Z) G σ μ σv H → XW (kz X Z) μ H E (fun c d H' => W c d σv H') → wS X e σv H (QB (kz X Z) μ H Q)
structure SJ (X : Cx) (G : GI) (W : WX) (st : Stmt) (m : MS) : Prop where
  run : ∀ Dn σ μ, m Dn σ μ → ∀ Z σv H, RS (kz X Z) G σ μ σv H → XWs (kz X Z) G μ H Dn.ex W → sS X st (EndsOf (kz X Z) G μ H Dn) σv H
structure SJs (X : Cx) (G : GI) (W : WX) (st : List Stmt) (m : MS) : Prop where
  run : ∀ Dn σ μ, m Dn σ μ → ∀ Z σv H, RS (kz X Z) G σ μ σv H → XWs (kz X Z) G μ H Dn.ex W → ssS X st (EndsOf (kz X Z) G μ H Dn) σv H

section
variable {X : Cx} {G : GI} {W : WX}
theorem EJ.then {e : Expr} {m : ME} (h : EJ X G W e m) {σ : SD} {μ : Sto} {E : ExD} {Z : Addr → Prop} {σv : L2.St} {H : Hp} {P : QD} {Q : VK} (hm : m σ μ P E) (R : RS (kz X Z) G σ μ σv H) (x : XW (kz X Z) μ H E (fun c d H' => W c d σv H'))
    (k : ∀ d μ1 v H1, P d μ1 → Nx μ H μ1 H1 → RS (kz X Z) G σ μ1 σv H1 → XW (kz X Z) μ1 H1 E (fun c d H' => W c d σv H') → Rp (kz X Z) μ1 H1 d v → Q v H1) : tS X e σv H Q :=
  (h.run σ μ P E hm Z σv H R x).mono fun v H1 ⟨d, μ1, p, n, r, q⟩ => k d μ1 v H1 p n (R.go n r) (x.on n) q
theorem AJ.then {e : List Expr} {m : MA} (h : AJ X G W e m) {σ : SD} {μ : Sto} {E : ExD} {Z : Addr → Prop} {σv : L2.St} {H : Hp} {P : List D → Sto → Prop} {Q : List V → Hp → Prop} (hm : m σ μ P E) (R : RS (kz X Z) G σ μ σv H) (x : XW (kz X Z) μ H E (fun c d H' => W c d σv H'))
    (k : ∀ d μ1 v H1, P d μ1 → Nx μ H μ1 H1 → RS (kz X Z) G σ μ1 σv H1 → XW (kz X Z) μ1 H1 E (fun c d H' => W c d σv H') → RpL (kz X Z) μ1 H1 d v → Q v H1) : aS X e σv H Q :=
  (h.run σ μ P E hm Z σv H R x).mono fun v H1 ⟨d, μ1, p, n, r, q⟩ => k d μ1 v H1 p n (R.go n r) (x.on n) q
theorem TJ.then {e : Expr} {m : MT} (h : TJ X G W e m) {σ : SD} {μ : Sto} {E : ExD} {Z : Addr → Prop} {σv : L2.St} {H : Hp} {P : Bool → Sto → Prop} {Q : Bool → Hp → Prop} (hm : m σ μ P E) (R : RS (kz X Z) G σ μ σv H) (x : XW (kz X Z) μ H E (fun c d H' => W c d σv H'))
    (k : ∀ b μ1 H1, P b μ1 → Nx μ H μ1 H1 → RS (kz X Z) G σ μ1 σv H1 → XW (kz X Z) μ1 H1 E (fun c d H' => W c d σv H') → Q b H1) : bS X e σv H Q :=
  (h.run σ μ P E hm Z σv H R x).mono fun v H1 ⟨μ1, p, n, r⟩ => k v μ1 H1 p n (R.go n r) (x.on n)
theorem WJ.then {e : Expr} {m : MT} (h : WJ X G W e m) {σ : SD} {μ : Sto} {E : ExD} {Z : Addr → Prop} {σv : L2.St} {H : Hp} {P : Bool → Sto → Prop} {Q : Bool → Hp → Prop} (hm : m σ μ P E) (R : RS (kz X Z) G σ μ σv H) (x : XW (kz X Z) μ H E (fun c d H' => W c d σv H'))
    (k : ∀ b μ1 H1, P b μ1 → Nx μ H μ1 H1 → RS (kz X Z) G σ μ1 σv H1 → XW (kz X Z) μ1 H1 E (fun c d H' => W c d σv H') → Q b H1) : wS X e σv H Q :=
  (h.run σ μ P E hm Z σv H R x).mono fun v H1 ⟨μ1, p, n, r⟩ => k v μ1 H1 p n (R.go n r) (x.on n)

def mName (i : Nat) : ME := fun σ μ Q _ => match σ[i]? with
  | some (some d) => Q d μ
  | _ => False
def mC (d : D) : ME := fun _ μ Q _ => Q d μ
variable {pos : Pos} {e a b c : Expr} {ma mb mc : ME} {es : List Expr} {mas : MA}
theorem ej_name (i : Nat) {x : Str} (hN : X.N[i]? = some x := by rfl) (hv : Vis X.env.scope x := by first | exact Or.inl rfl | exact Or.inr (Or.inl rfl) | exact Or.inr (Or.inr rfl)) (hd : (x == ("__debug__" : Str)) = false := by decide)
    (hcd : (x == ("__classdict__" : Str)) = false := by decide) : EJ X G W (.Name x pos) (mName i) := ⟨fun σ μ Q E hm Z σv H R x => by
  unfold mName at hm
  split at hm
  · rename_i d e
    obtain ⟨v, ev, r⟩ := R.sl.2 i d e
    exact toE (pe_var hN hv hd hcd) ⟨v, ev, d, μ, hm, Nx.refl _ _, R.rel, r⟩
  · exact hm.elim⟩
theorem EJ.const {t : TE} {d : D} {v : V} (h : PE X e t) (ht : ∀ σ H (Q : VK), Q v H → t σ H Q) (hr : ∀ K μ H, Rp K μ H d v) : EJ X G W e (mC d) := ⟨fun σ μ Q E hm Z σv H R x =>
  toE h (ht _ _ _ ⟨d, μ, hm, Nx.refl _ _, R.rel, hr _ _ _⟩)⟩
end
end TL

namespace TL
open PySem PySem.Spec PyProof.Rows L2

def viewL (μ : Sto) : D → Option (List D)
  | .lst ds => some ds
  | .scr ds => some ds
  | .raw (.ref a) => match μ a with
    | some (.lst ds) => some ds
    | _ => none
  | _ => none
def viewM (μ : Sto) : D → Option (List D)
  | .lst ds => some ds
  | .raw (.ref a) => match μ a with
    | some (.lst ds) => some ds
    | _ => none
  | _ => none
def viewQ (μ : Sto) (d : D) : Option (List D) := match d with
  | .tup ds => some ds
  | d => viewL μ d
def viewI (μ : Sto) : D → Option (Addr × List Str × List D)
  | .ins C ns ds => some (C, ns, ds)
  | .raw (.ref a) => match μ a with
    | some (.ins C ns ds) => some (C, ns, ds)
    | _ => none
  | _ => none
section
variable {K : KZ} {μ : Sto} {H : Hp}
theorem viewL_ok {d : D} {ds : List D} {v : V} (R : Rel K μ H) (e : viewL μ d = some ds) (r : Rp K μ H d v) : ∃ a xs, v = .ref a ∧ SqL K.K H a xs ∧ RpL K μ H ds xs := by
  cases d with
  | lst es =>
    cases e
    obtain ⟨a, xs, ev, s, q⟩ := rp_lst.mp r
    exact ⟨a, xs, ev, s.seq, q⟩
  | scr es =>
    cases e
    obtain ⟨a, xs, ev, s, q⟩ := rp_scr.mp r
    exact ⟨a, xs, ev, s.seq, q⟩
  | raw w =>
    cases w with
    | ref a =>
      simp only [viewL] at e
      split at e
      · rename_i x ds' hm
        cases e
        obtain ⟨xs, eH, q⟩ := R.co hm
        exact ⟨a, xs, rp_raw.mp r, .inl (.inl eH), q⟩
      · cases e
    | _ => cases e
  | _ => cases e
theorem viewM_ok {d : D} {ds : List D} {v : V} (R : Rel K μ H) (e : viewM μ d = some ds) (r : Rp K μ H d v) : ∃ a xs, v = .ref a ∧ H a = some (.lst xs) ∧ RpL K μ H ds xs := by
  cases d with
  | lst es =>
    cases e
    obtain ⟨a, xs, ev, s, q⟩ := rp_lst.mp r
    exact ⟨a, xs, ev, s.1, q⟩
  | raw w =>
    cases w with
    | ref a =>
      simp only [viewM] at e
      split at e
      · rename_i x ds' hm
        cases e
        obtain ⟨xs, eH, q⟩ := R.co hm
        exact ⟨a, xs, rp_raw.mp r, eH, q⟩
      · cases e
    | _ => cases e
  | _ => cases e
theorem viewQ_ok {d : D} {ds : List D} {v : V} (R : Rel K μ H) (e : viewQ μ d = some ds) (r : Rp K μ H d v) : ∃ a xs, v = .ref a ∧ (SqL K.K H a xs ∨ SqT K.K H a xs) ∧ RpL K μ H ds xs := by
  unfold viewQ at e
  split at e
  · cases e
    obtain ⟨a, xs, ev, s, q⟩ := rp_tup.mp r
    exact ⟨a, xs, ev, .inr s.seq, q⟩
  · obtain ⟨a, xs, ev, s, q⟩ := viewL_ok R e r
    exact ⟨a, xs, ev, .inl s, q⟩
theorem viewI_ok {d : D} {C : Addr} {ns : List Str} {ds : List D} {v : V} (R : Rel K μ H) (e : viewI μ d = some (C, ns, ds)) (r : Rp K μ H d v) :
    ∃ a dx xs, v = .ref a ∧ H a = some (.ins C dx (ns.zip xs)) ∧ ns.length = ds.length ∧ RpL K μ H ds xs := by
  cases d with
  | ins C' ns' ds' =>
    cases e
    obtain ⟨a, dx, xs, ev, s, _, l, q⟩ := rp_ins.mp r
    exact ⟨a, dx, xs, ev, s, l, q⟩
  | raw w =>
    cases w with
    | ref a =>
      simp only [viewI] at e
      split at e
      · rename_i x C' ns' ds' hm
        cases e
        obtain ⟨dx, xs, eH, l, q⟩ := R.co hm
        exact ⟨a, dx, xs, rp_raw.mp r, eH, l, q⟩
      · cases e
    | _ => cases e
  | _ => cases e
end

abbrev R2D := D → D → Sto → QD → Prop
def mBin (r : R2D) (ma mb : ME) : ME := fun σ μ Q E => ma σ μ (fun x μ1 => mb σ μ1 (fun y μ2 => r x y μ2 Q) E) E
def rInt2 (g : Int → Int → D) : R2D := fun x y μ Q => match x, y with
  | .int i, .int j => Q (g i j) μ
  | _, _ => False
def rInt2C (C : Int → Int → Prop) (g : Int → Int → D) : R2D := fun x y μ Q => match x, y with
  | .int i, .int j => C i j ∧ Q (g i j) μ
  | _, _ => False
section
variable {X : Cx} {G : GI} {W : WX} {pos : Pos} {e a b c : Expr} {ma mb mc : ME} {es : List Expr} {mas : MA}
theorem QE.fin {K : KZ} {μ : Sto} {H : Hp} {Q : QD} {d : D} {v : V} (R : Rel K μ H) (q : Q d μ) (r : Rp K μ H d v) : QE K μ H Q v H := ⟨d, μ, q, Nx.refl _ _, R, r⟩
structure OpD (X : Cx) (f : Value → Value → Sem Value) (r : R2D) where
  rv : R2
  op : OpR X f rv
  sim : ∀ (Z : Addr → Prop) (μ : Sto) (H : Hp) (d1 d2 : D) (x y : V) (Q : QD) (Q' : VK), Rel (kz X Z) μ H → Rp (kz X Z) μ H d1 x → Rp (kz X Z) μ H d2 y → r d1 d2 μ Q → (∀ v H', QE (kz X Z) μ H Q v H' → Q' v H') → rv x y H Q'
theorem ej_binG {f : Value → Value → Sem Value} {r : R2D} (o : OpD X f r) (hp : ∀ {ta tb : TE}, PE X a ta → PE X b tb → PE X e (tOp o.rv ta tb))
    (ha : EJ X G W a ma) (hb : EJ X G W b mb) : EJ X G W e (mBin r ma mb) := ⟨fun σ μ Q E h Z σv H R x => by
  refine toE (hp pS pS) ?_
  refine ha.then h R x fun d1 μ1 v1 H1 h1 n1 R1 x1 r1 => ?_
  refine hb.then h1 R1 x1 fun d2 μ2 v2 H2 h2 n2 R2 x2 r2 => ?_
  exact o.sim Z μ2 H2 d1 d2 v1 v2 Q _ R2.rel (Rp.keep n2 _ _ r1) r2 h2 (fun v H' q => q.back (n1.trans n2))⟩
theorem ej_op {op : Operator} {r : R2D} (o : OpD X (binaryOp op) r) (ha : EJ X G W a ma) (hb : EJ X G W b mb) : EJ X G W (.BinOp a op b pos) (mBin r ma mb) :=
  ej_binG o (fun h1 h2 => pe_op o.op h1 h2) ha hb
theorem ej_cmp {op : CmpOp} {r : R2D} (o : OpD X (compareOp op) r) (ha : EJ X G W a ma) (hb : EJ X G W b mb) (hm : behindInMarks op b = false := by first | exact nomark _ | rfl) : EJ X G W (.Compare a [op] [b] pos) (mBin r ma mb) :=
  ej_binG o (fun h1 h2 => pe_cmpR o.op h1 h2 hm) ha hb
def od_int0 {f : Value → Value → Sem Value} {g : Int → Int → V} {gd : Int → Int → D} (h : OpR X f (rI0 g)) (hr : ∀ K μ H i j, Rp K μ H (gd i j) (g i j)) : OpD X f (rInt2 gd) where
  rv := rI0 g
  op := h
  sim := fun Z μ H d1 d2 x y Q Q' R r1 r2 q k => by
    unfold rInt2 at q
    split at q
    · rename_i i j
      exact ⟨i, j, rp_int.mp r1, rp_int.mp r2, k _ _ (QE.fin R q (hr _ _ _ _ _))⟩
    · exact q.elim
def od_intC {f : Value → Value → Sem Value} {C : Int → Int → Prop} {g : Int → Int → V} {gd : Int → Int → D} (h : OpR X f (rI C g)) (hr : ∀ K μ H i j, Rp K μ H (gd i j) (g i j)) : OpD X f (rInt2C C gd) where
  rv := rI C g
  op := h
  sim := fun Z μ H d1 d2 x y Q Q' R r1 r2 q k => by
    unfold rInt2C at q
    split at q
    · rename_i i j
      exact ⟨i, j, rp_int.mp r1, rp_int.mp r2, q.1, k _ _ (QE.fin R q.2 (hr _ _ _ _ _))⟩
    · exact q.elim
theorem rp_int' {K : KZ} {μ : Sto} {H : Hp} {i : Int} : Rp K μ H (.int i) (.int i) := rp_int.mpr rfl
theorem rp_bl' {K : KZ} {μ : Sto} {H : Hp} {i : Bool} : Rp K μ H (.bl i) (.bl i) := rp_bl.mpr rfl
theorem rp_non' {K : KZ} {μ : Sto} {H : Hp} : Rp K μ H .non .non := rp_non.mpr rfl
theorem rp_str' {K : KZ} {μ : Sto} {H : Hp} {i : Str} : Rp K μ H (.str i) (.str i) := rp_str.mpr rfl
theorem rp_raw' {K : KZ} {μ : Sto} {H : Hp} {v : V} : Rp K μ H (.raw v) v := rp_raw.mpr rfl
theorem ej_int {i : Int} {j} : EJ X G W (.Constant (.int i) j pos) (mC (.int i)) := EJ.const pe_int (fun _ _ _ q => q) fun _ _ _ => rp_int'
theorem ej_bl {i : Bool} {j} : EJ X G W (.Constant (.bool i) j pos) (mC (.bl i)) := EJ.const pe_bl (fun _ _ _ q => q) fun _ _ _ => rp_bl'
theorem ej_non {j} : EJ X G W (.Constant .none j pos) (mC .non) := EJ.const pe_non (fun _ _ _ q => q) fun _ _ _ => rp_non'
theorem ej_str {i : Str} {j} : EJ X G W (.Constant (.str i) j pos) (mC (.str i)) := EJ.const pe_str (fun _ _ _ q => q) fun _ _ _ => rp_str'
theorem ej_glob {x : Str} {v : V} {u : Value} {d : D} (hg : Gl X x) (hm : X.mg x = some u) (r : RelV v u) (hr : ∀ K μ H, Rp K μ H d v) (hd : (x == ("__debug__" : Str)) = false := by decide) : EJ X G W (.Name x pos) (mC d) :=
  EJ.const (pe_glob hg hm r hd) (fun _ _ _ q => q) hr

def od_sub : OpD X (binaryOp .Sub) (rInt2 fun i j => .int (i - j)) := od_int0 op_sub fun _ _ _ _ _ => rp_int'
def od_mulI : OpD X (binaryOp .Mult) (rInt2C CMulW fun i j => .int (i * j)) := od_intC op_mulW fun _ _ _ _ _ => rp_int'
def od_fdiv : OpD X (binaryOp .FloorDiv) (rInt2C CDivW fun i j => .int (i / j)) := od_intC op_fdivW fun _ _ _ _ _ => rp_int'
def od_mod : OpD X (binaryOp .Mod) (rInt2C (fun _ j => 0 < j) fun i j => .int (i % j)) := od_intC op_mod fun _ _ _ _ _ => rp_int'
def od_lt : OpD X (compareOp .Lt) (rInt2 fun i j => .bl (decide (i < j))) := od_int0 op_lt fun _ _ _ _ _ => rp_bl'
def od_le : OpD X (compareOp .LtE) (rInt2 fun i j => .bl (decide (i ≤ j))) := od_int0 op_le fun _ _ _ _ _ => rp_bl'
def od_gt : OpD X (compareOp .Gt) (rInt2 fun i j => .bl (decide (j < i))) := od_int0 op_gt fun _ _ _ _ _ => rp_bl'
def od_ge : OpD X (compareOp .GtE) (rInt2 fun i j => .bl (decide (j ≤ i))) := od_int0 op_ge fun _ _ _ _ _ => rp_bl'
def CPowW (i j : Int) : Prop := 0 < j ∧ j ≤ 1000 ∧ i.natAbs.log2 < 100000
theorem op_powW : OpR X (binaryOp .Pow) (rI CPowW fun i j => .int (i ^ j.toNat)) := opI fun i j t u s Q E hc q => by
  have h0 : 0 < j := hc.1
  have h1 : j ≤ 1000 := hc.2.1
  have h2 : i.natAbs.log2 < 100000 := hc.2.2
  have hj0 : ¬ (j == 0) = true := by simp; omega
  by_cases c1 : (i == 0 || i == 1) = true
  · refine PySem.AutoIntOps.pow_1 (by omega) hj0 c1 ?_
    have e : i ^ j.toNat = i := by
      simp at c1
      rcases c1 with rfl | rfl
      · rw [Int.zero_pow (by omega)]
      · rw [Int.one_pow]
    rw [e] at q
    exact q
  · by_cases c2 : (i == -1) = true
    · refine PySem.AutoIntOps.pow_2 (by omega) hj0 c1 c2 ?_
      have e : (if (j % 2 == 0) = true then (1 : Int) else -1) = i ^ j.toNat := by
        simp at c2
        subst c2
        by_cases par : j % 2 = 0
        · rw [if_pos (by simp [par])]
          obtain ⟨k, hk⟩ : ∃ k : Nat, j.toNat = 2 * k := ⟨j.toNat / 2, by omega⟩
          rw [hk, Int.pow_mul]
          simp [Int.one_pow]
        · rw [if_neg (by simp [par])]
          obtain ⟨k, hk⟩ : ∃ k : Nat, j.toNat = 2 * k + 1 := ⟨j.toNat / 2, by omega⟩
          rw [hk, Int.pow_succ, Int.pow_mul]
          simp [Int.one_pow]
      rw [e]
      exact q
    · refine PySem.AutoIntOps.pow_4 (by omega) hj0 c1 c2 ?_ q
      intro z
      unfold Builtin.Int.intTooBig at z
      have z3 := of_decide_eq_true z
      have e : bitsLine = 134217728 := by decide
      have hb : Builtin.Int.intBits i ≤ 100000 := by
        unfold Builtin.Int.intBits
        split <;> omega
      rw [e] at z3
      have m : ((Builtin.Int.intBits i : Nat) : Int) * j ≤ 100000 * 1000 := Int.mul_le_mul (by omega) h1 (by omega) (by omega)
      omega
def od_pow : OpD X (binaryOp .Pow) (rInt2C CPowW fun i j => .int (i ^ j.toNat)) := od_intC op_powW fun _ _ _ _ _ => rp_int'
end

def mkL (b : Bool) (ds : List D) (μ : Sto) (Q : QD) : Prop := match b with
  | false => Q (.lst ds) μ
  | true => ∀ p, μ p = none → Q (.raw (.ref p)) (sset μ p (.lst ds))
section
variable {K : KZ} {μ : Sto} {H : Hp}
theorem mkL_ok {b : Bool} {ds : List D} {xs : List V} {Q : QD} {p : Addr} (R : Rel K μ H) (hp : H p = none) (r : RpL K μ H ds xs) (q : mkL b ds μ Q) : QE K μ H Q (.ref p) (upd H p (.lst xs)) := by
  cases b with
  | false =>
    exact ⟨.lst ds, μ, q, Nx.new R hp, R.new hp, rp_lst.mpr ⟨p, xs, rfl, ⟨upd_same, R.frz hp⟩, RpL.keep (Nx.new R hp) _ _ r⟩⟩
  | true =>
    have c : CoR K (sset μ p (.lst ds)) (upd H p (.lst xs)) p (.lst ds) := ⟨xs, upd_same, RpL.keep (Nx.newM R hp) _ _ r⟩
    exact ⟨.raw (.ref p), _, q p (R.free hp), Nx.newM R hp, R.newM hp c, rp_raw'⟩
theorem mkT_ok {ds : List D} {xs : List V} {Q : QD} {p : Addr} (R : Rel K μ H) (hp : H p = none) (r : RpL K μ H ds xs) (q : Q (.tup ds) μ) : QE K μ H Q (.ref p) (upd H p (.tup xs)) :=
  ⟨.tup ds, μ, q, Nx.new R hp, R.new hp, rp_tup.mpr ⟨p, xs, rfl, .inl ⟨.inl upd_same, R.frz hp⟩, RpL.keep (Nx.new R hp) _ _ r⟩⟩
end
def rAddL (b : Bool) : R2D := fun x y μ Q => match viewM μ x, viewM μ y with
  | some xs, some ys => xs.length + ys.length ≤ sizeLine ∧ mkL b (xs ++ ys) μ Q
  | _, _ => False
def rAddS : R2D := fun x y μ Q => match x, y with
  | .str i, .str j => i.length + j.length ≤ sizeLine ∧ Q (.str (i ++ j)) μ
  | _, _ => False
def rRepL (b : Bool) : R2D := fun x y μ Q => match viewM μ x, y with
  | some xs, .int k => k < 2 ^ 63 ∧ -(2 ^ 63) ≤ k ∧ xs.length * k.toNat ≤ sizeLine ∧ mkL b (List.replicate k.toNat xs).flatten μ Q
  | _, _ => False
section
variable {X : Cx} {G : GI} {W : WX} {pos : Pos} {e a b c : Expr} {ma mb mc : ME} {es : List Expr} {mas : MA}
def od_addI : OpD X (binaryOp .Add) (rInt2 fun i j => .int (i + j)) := od_int0 op_add fun _ _ _ _ _ => rp_int'
def od_addL (b : Bool) : OpD X (binaryOp .Add) (rAddL b) where
  rv := _
  op := op_cat
  sim := fun Z μ H d1 d2 x y Q Q' R r1 r2 q k => by
    unfold rAddL at q
    split at q
    · rename_i xs ys e1 e2
      obtain ⟨a1, v1, rfl, h1, q1⟩ := viewM_ok R e1 r1
      obtain ⟨a2, v2, rfl, h2, q2⟩ := viewM_ok R e2 r2
      exact ⟨a1, a2, v1, v2, rfl, rfl, h1, h2, by rw [q1.length, q2.length]; exact q.1, fun p hp => k _ _ (mkL_ok R hp (q1.append q2) q.2)⟩
    · exact q.elim
def od_addS : OpD X (binaryOp .Add) rAddS where
  rv := _
  op := op_add_str
  sim := fun Z μ H d1 d2 x y Q Q' R r1 r2 q k => by
    unfold rAddS at q
    split at q
    · rename_i i j
      exact ⟨i, j, rp_str.mp r1, rp_str.mp r2, q.1, k _ _ (QE.fin R q.2 rp_str')⟩
    · exact q.elim
theorem RpL.rep {K : KZ} {μ : Sto} {H : Hp} {ds : List D} {xs : List V} (h : RpL K μ H ds xs) : ∀ k : Nat, RpL K μ H (List.replicate k ds).flatten (List.replicate k xs).flatten
  | 0 => RpL.nil
  | k + 1 => by
    rw [List.replicate_succ, List.replicate_succ, List.flatten_cons, List.flatten_cons]
    exact h.append (h.rep k)
def od_repL (b : Bool) : OpD X (binaryOp .Mult) (rRepL b) where
  rv := _
  op := op_rep
  sim := fun Z μ H d1 d2 x y Q Q' R r1 r2 q k => by
    unfold rRepL at q
    split at q
    · rename_i xs n e1
      obtain ⟨a1, v1, rfl, h1, q1⟩ := viewM_ok R e1 r1
      exact ⟨a1, n, v1, rfl, rp_int.mp r2, h1, q.2.1, q.1, by rw [q1.length]; exact q.2.2.1, fun p hp => k _ _ (mkL_ok R hp (q1.rep _) q.2.2.2)⟩
    · exact q.elim

def sclD : D → D → Option Bool
  | .non, .non => some true | .non, .int _ => some false | .int _, .non => some false | .non, .str _ => some false | .str _, .non => some false
  | .non, .bl _ => some false | .bl _, .non => some false
  | .int i, .int j => some (decide (i = j)) | .bl i, .bl j => some (decide (i = j)) | .str i, .str j => some (decide (i = j))
  | .int _, .str _ => some false | .str _, .int _ => some false
  | _, _ => none
def rEqD : R2D := fun x y μ Q => match sclD x y with
  | some r => Q (.bl r) μ
  | none => False
def rNeD : R2D := fun x y μ Q => match sclD x y with
  | some r => Q (.bl (!r)) μ
  | none => False
theorem sclD_ok {K : KZ} {μ : Sto} {H : Hp} {d1 d2 : D} {x y : V} {r : Bool} (h : sclD d1 d2 = some r) (r1 : Rp K μ H d1 x) (r2 : Rp K μ H d2 y) : scal x y = true ∧ decide (x = y) = r := by
  unfold sclD at h
  split at h <;> first
    | (cases h; done)
    | (cases h; simp only [rp_non, rp_int, rp_str, rp_bl] at r1 r2; subst r1; subst r2; exact ⟨rfl, by simp⟩)
def od_eq : OpD X (compareOp .Eq) rEqD where
  rv := _
  op := op_eq
  sim := fun Z μ H d1 d2 x y Q Q' R r1 r2 q k => by
    unfold rEqD at q
    split at q
    · rename_i r e
      obtain ⟨h1, h2⟩ := sclD_ok e r1 r2
      refine ⟨h1, k _ _ ?_⟩
      rw [h2]
      exact QE.fin R q rp_bl'
    · exact q.elim
def od_ne : OpD X (compareOp .NotEq) rNeD where
  rv := _
  op := op_ne
  sim := fun Z μ H d1 d2 x y Q Q' R r1 r2 q k => by
    unfold rNeD at q
    split at q
    · rename_i r e
      obtain ⟨h1, h2⟩ := sclD_ok e r1 r2
      refine ⟨h1, k _ _ ?_⟩
      rw [h2]
      exact QE.fin R q rp_bl'
    · exact q.elim
def isNon : D → Bool
  | .non => true
  | _ => false
def isN? : D → Option Bool
  | .non => some true
  | .raw _ => none
  | _ => some false
theorem isN_ok {K : KZ} {μ : Sto} {H : Hp} {d : D} {x : V} {r : Bool} (h : isN? d = some r) (q : Rp K μ H d x) : decide (x = .non) = r := by
  cases d with
  | non => cases h; rw [rp_non.mp q]; simp
  | bl b => cases h; rw [rp_bl.mp q]; simp
  | int b => cases h; rw [rp_int.mp q]; simp
  | str b => cases h; rw [rp_str.mp q]; simp
  | tup b => cases h; obtain ⟨a, _, e, _⟩ := rp_tup.mp q; rw [e]; simp
  | lst b => cases h; obtain ⟨a, _, e, _⟩ := rp_lst.mp q; rw [e]; simp
  | scr b => cases h; obtain ⟨a, _, e, _⟩ := rp_scr.mp q; rw [e]; simp
  | ins C ns ds => cases h; obtain ⟨a, _, _, e, _⟩ := rp_ins.mp q; rw [e]; simp
  | raw v => cases h
def rIsND : R2D := fun x y μ Q => match y, isN? x with
  | .non, some r => Q (.bl r) μ
  | _, _ => False
def rNotND : R2D := fun x y μ Q => match y, isN? x with
  | .non, some r => Q (.bl (!r)) μ
  | _, _ => False
def od_isN : OpD X (compareOp .Is) rIsND where
  rv := _
  op := op_isN
  sim := fun Z μ H d1 d2 x y Q Q' R r1 r2 q k => by
    unfold rIsND at q
    split at q
    · rename_i r e
      refine ⟨rp_non.mp r2, k _ _ ?_⟩
      rw [isN_ok e r1]
      exact QE.fin R q rp_bl'
    · exact q.elim
def od_notN : OpD X (compareOp .IsNot) rNotND where
  rv := _
  op := op_notN
  sim := fun Z μ H d1 d2 x y Q Q' R r1 r2 q k => by
    unfold rNotND at q
    split at q
    · rename_i r e
      refine ⟨rp_non.mp r2, k _ _ ?_⟩
      rw [isN_ok e r1]
      exact QE.fin R q rp_bl'
    · exact q.elim
def mChain (g g' : Int → Int → Bool) (ma mb mc : ME) : ME := fun σ μ Q E => ma σ μ (fun x μ1 => mb σ μ1 (fun y μ2 => match x, y with
  | .int i, .int j => if g i j = true then mc σ μ2 (fun z μ3 => match z with
      | .int k => Q (.bl (g' j k)) μ3
      | _ => False) E else Q (.bl false) μ2
  | _, _ => False) E) E
theorem ej_chain {op op' : CmpOp} {g g' : Int → Int → Bool} (o : OpR X (compareOp op) (rI0 fun i j => .bl (g i j))) (o' : OpR X (compareOp op') (rI0 fun i j => .bl (g' i j))) (ha : EJ X G W a ma) (hb : EJ X G W b mb) (hc : EJ X G W c mc)
    (hm : lastMarks [op, op'] [b, c] = false := by with_unfolding_all rfl) : EJ X G W (.Compare a [op, op'] [b, c] pos) (mChain g g' ma mb mc) := ⟨fun σ μ Q E h Z σv H R x => by
  refine toE (pe_chain o o' pS pS pS hm) ?_
  refine ha.then h R x fun d1 μ1 v1 H1 h1 n1 R1 x1 r1 => ?_
  refine hb.then h1 R1 x1 fun d2 μ2 v2 H2 h2 n2 R2 x2 r2 => ?_
  split at h2
  · rename_i i j
    refine ⟨i, j, rp_int.mp (Rp.keep n2 _ _ r1), rp_int.mp r2, g i j, rfl, ?_⟩
    by_cases z : g i j = true
    · rw [if_pos z] at h2 ⊢
      refine hc.then h2 R2 x2 fun d3 μ3 v3 H3 h3 n3 R3 x3 r3 => ?_
      split at h3
      · rename_i k
        exact ⟨j, k, rp_int.mp (Rp.keep n3 _ _ r2), rp_int.mp r3, ⟨_, μ3, h3, n1.trans (n2.trans n3), R3.rel, rp_bl'⟩⟩
      · exact h3.elim
    · rw [if_neg z] at h2 ⊢
      exact ⟨_, μ2, h2, n1.trans n2, R2.rel, rp_bl'⟩
  · exact h2.elim⟩
end

def mB (m : ME) : MT := fun σ μ Q E => m σ μ (fun d μ1 => match d with
  | .bl b => Q b μ1
  | _ => False) E
def truD (μ : Sto) : D → Option Bool
  | .non => some false
  | .bl b => some b
  | .int i => some (i != 0)
  | .str x => if x.length ≤ sizeLine then some ((x.length : Int) != 0) else none
  | d => (viewQ μ d).map fun ds => !ds.isEmpty
def mTru (m : ME) : MT := fun σ μ Q E => m σ μ (fun d μ1 => match truD μ1 d with
  | some b => Q b μ1
  | none => False) E
def mAnd (m k : MT) : MT := fun σ μ Q E => m σ μ (fun b μ1 => if b = true then k σ μ1 Q E else Q false μ1) E
def mOr (m k : MT) : MT := fun σ μ Q E => m σ μ (fun b μ1 => if b = true then Q true μ1 else k σ μ1 Q E) E
def mNot (m : MT) : MT := fun σ μ Q E => m σ μ (fun b μ1 => Q (!b) μ1) E
def mAndV (m k : ME) : ME := fun σ μ Q E => m σ μ (fun d μ1 => match d with
  | .bl b => if b = true then k σ μ1 Q E else Q (.bl false) μ1
  | _ => False) E
def mOrV (m k : ME) : ME := fun σ μ Q E => m σ μ (fun d μ1 => match d with
  | .bl b => if b = true then Q (.bl true) μ1 else k σ μ1 Q E
  | _ => False) E
def mNotV (m : ME) : ME := fun σ μ Q E => m σ μ (fun d μ1 => match d with
  | .bl b => Q (.bl (!b)) μ1
  | _ => False) E
def mIf (t : MT) (m k : ME) : ME := fun σ μ Q E => t σ μ (fun b μ1 => if b = true then m σ μ1 Q E else k σ μ1 Q E) E
section
variable {X : Cx} {G : GI} {W : WX} {pos : Pos} {e a b c : Expr} {ma mb mc : ME} {es rest : List Expr} {mas : MA} {mt mu : MT}
theorem tj_cmpG {f : Value → Value → Sem Value} {r : R2D} (o : OpD X f r) (hp : ∀ {ta tb : TE}, PE X a ta → PE X b tb → PT X e (tTest (tOp o.rv ta tb)))
    (ha : EJ X G W a ma) (hb : EJ X G W b mb) : TJ X G W e (mB (mBin r ma mb)) := ⟨fun σ μ Q E h Z σv H R x => by
  refine toB (hp pS pS) ?_
  refine ha.then h R x fun d1 μ1 v1 H1 h1 n1 R1 x1 r1 => ?_
  refine hb.then h1 R1 x1 fun d2 μ2 v2 H2 h2 n2 R2 x2 r2 => ?_
  refine o.sim Z μ2 H2 d1 d2 v1 v2 _ _ R2.rel (Rp.keep n2 _ _ r1) r2 h2 (fun v H' q => ?_)
  obtain ⟨d, μ', q, n, rl, rp⟩ := q
  split at q
  · exact ⟨_, rp_bl.mp rp, μ', q, n1.trans (n2.trans n), rl⟩
  · exact q.elim⟩
theorem tj_cmp {op : CmpOp} {r : R2D} (o : OpD X (compareOp op) r) (ha : EJ X G W a ma) (hb : EJ X G W b mb) (hm : behindInMarks op b = false := by first | exact nomark _ | rfl) : TJ X G W (.Compare a [op] [b] pos) (mB (mBin r ma mb)) :=
  tj_cmpG o (fun h1 h2 => pt_cmpR o.op h1 h2 hm) ha hb
theorem tj_chain {op op' : CmpOp} {g g' : Int → Int → Bool} (o : OpR X (compareOp op) (rI0 fun i j => .bl (g i j))) (o' : OpR X (compareOp op') (rI0 fun i j => .bl (g' i j))) (ha : EJ X G W a ma) (hb : EJ X G W b mb) (hc : EJ X G W c mc)
    (hm : lastMarks [op, op'] [b, c] = false := by with_unfolding_all rfl) : TJ X G W (.Compare a [op, op'] [b, c] pos) (mB (mChain g g' ma mb mc)) := ⟨fun σ μ Q E h Z σv H R x => by
  refine toB (pt_chain o o' pS pS pS hm) ?_
  refine ha.then h R x fun d1 μ1 v1 H1 h1 n1 R1 x1 r1 => ?_
  refine hb.then h1 R1 x1 fun d2 μ2 v2 H2 h2 n2 R2 x2 r2 => ?_
  split at h2
  · rename_i i j
    refine ⟨i, j, rp_int.mp (Rp.keep n2 _ _ r1), rp_int.mp r2, g i j, rfl, ?_⟩
    by_cases z : g i j = true
    · rw [if_pos z] at h2 ⊢
      refine hc.then h2 R2 x2 fun d3 μ3 v3 H3 h3 n3 R3 x3 r3 => ?_
      split at h3
      · rename_i k
        exact ⟨j, k, rp_int.mp (Rp.keep n3 _ _ r2), rp_int.mp r3, _, rfl, μ3, h3, n1.trans (n2.trans n3), R3.rel⟩
      · exact h3.elim
    · rw [if_neg z] at h2 ⊢
      exact ⟨_, rfl, μ2, h2, n1.trans n2, R2.rel⟩
  · exact h2.elim⟩
theorem tj_val (ha : EJ X G W e ma) (he : ∀ whole, isTrue e X.env whole = (do let v ← whole; standAt e.pos; holding [v] (truthy v)) := by intro _; rfl) : TJ X G W e (mB ma) := ⟨fun σ μ Q E h Z σv H R x => by
  refine toB (pt_val pS he) ?_
  refine ha.then h R x fun d1 μ1 v1 H1 h1 n1 R1 x1 r1 => ?_
  split at h1
  · exact ⟨_, rp_bl.mp r1, μ1, h1, n1, R1.rel⟩
  · exact h1.elim⟩
theorem truD_ok {K : KZ} {μ : Sto} {H : Hp} {d : D} {x : V} {r : Bool} (R : Rel K μ H) (h : truD μ d = some r) (q : Rp K μ H d x) : TruV K.K x H r := by
  unfold truD at h
  split at h
  · cases h; rw [rp_non.mp q]; exact rfl
  · cases h; rw [rp_bl.mp q]; exact rfl
  · cases h; rw [rp_int.mp q]; exact rfl
  · split at h
    · rename_i hl
      cases h; rw [rp_str.mp q]; exact ⟨hl, rfl⟩
    · cases h
  · cases e : viewQ μ d with
    | none => rw [e] at h; cases h
    | some ds =>
      rw [e] at h
      obtain ⟨a, xs, rfl, s, l⟩ := viewQ_ok R e q
      have e2 : r = !xs.isEmpty := by
        have e3 : (!ds.isEmpty) = r := by simpa using h
        rw [← e3]
        have := l.length
        cases ds <;> cases xs <;> simp_all
      rcases s with s | s
      · exact .inl ⟨xs, s, e2⟩
      · exact .inr (.inl ⟨xs, s, e2⟩)
theorem tj_tru (ha : EJ X G W e ma) (he : ∀ whole, isTrue e X.env whole = (do let v ← whole; standAt e.pos; holding [v] (truthy v)) := by intro _; rfl) : TJ X G W e (mTru ma) := ⟨fun σ μ Q E h Z σv H R x => by
  refine toB (pt_truth pS he) ?_
  refine ha.then h R x fun d1 μ1 v1 H1 h1 n1 R1 x1 r1 => ?_
  split at h1
  · rename_i r e
    exact ⟨r, truD_ok R1.rel e r1, μ1, h1, n1, R1.rel⟩
  · exact h1.elim⟩
theorem WJ.tj (h : WJ X G W e mt) : TJ X G W e mt := ⟨fun σ μ Q E q Z σv H R x pins s I => h.run σ μ Q E q Z σv H R x _ pins s I⟩
theorem wj_and1 (ha : TJ X G W a mt) : WJ X G W (.BoolOp .And [a] pos) mt := ⟨fun σ μ Q E q Z σv H R x => toW (pw_and1 ptS) (ha.run σ μ Q E q Z σv H R x)⟩
theorem wj_or1 (ha : TJ X G W a mt) : WJ X G W (.BoolOp .Or [a] pos) mt := ⟨fun σ μ Q E q Z σv H R x => toW (pw_or1 ptS) (ha.run σ μ Q E q Z σv H R x)⟩
theorem wj_and (ha : TJ X G W a mt) (hb : WJ X G W (.BoolOp .And (b :: rest) pos) mu) : WJ X G W (.BoolOp .And (a :: b :: rest) pos) (mAnd mt mu) := ⟨fun σ μ Q E q Z σv H R x => by
  refine toW (pw_and ptS pwS) ?_
  refine ha.then q R x fun c μ1 H1 h1 n1 R1 x1 => ?_
  by_cases z : c = true
  · rw [if_pos z] at h1 ⊢
    exact (hb.run σ μ1 Q E h1 Z σv H1 R1 x1).mono fun v H' q => q.back n1
  · rw [if_neg z] at h1 ⊢
    exact ⟨μ1, h1, n1, R1.rel⟩⟩
theorem wj_or (ha : TJ X G W a mt) (hb : WJ X G W (.BoolOp .Or (b :: rest) pos) mu) : WJ X G W (.BoolOp .Or (a :: b :: rest) pos) (mOr mt mu) := ⟨fun σ μ Q E q Z σv H R x => by
  refine toW (pw_or ptS pwS) ?_
  refine ha.then q R x fun c μ1 H1 h1 n1 R1 x1 => ?_
  by_cases z : c = true
  · rw [if_pos z] at h1 ⊢
    exact ⟨μ1, h1, n1, R1.rel⟩
  · rw [if_neg z] at h1 ⊢
    exact (hb.run σ μ1 Q E h1 Z σv H1 R1 x1).mono fun v H' q => q.back n1⟩
theorem tj_not (ha : TJ X G W a mt) : TJ X G W (.UnaryOp .Not a pos) (mNot mt) := ⟨fun σ μ Q E q Z σv H R x => by
  refine toB (pt_not ptS) ?_
  exact ha.then q R x fun c μ1 H1 h1 n1 R1 x1 => ⟨μ1, h1, n1, R1.rel⟩⟩
theorem ej_one {op} (h : EJ X G W a ma) : EJ X G W (.BoolOp op [a] pos) ma := ⟨fun σ μ Q E q Z σv H R x => toE (pe_one pS) (h.run σ μ Q E q Z σv H R x)⟩
theorem ej_and (ha : EJ X G W a ma) (hb : EJ X G W (.BoolOp .And (b :: rest) pos) mb) : EJ X G W (.BoolOp .And (a :: b :: rest) pos) (mAndV ma mb) := ⟨fun σ μ Q E q Z σv H R x => by
  refine toE (pe_and pS pS) ?_
  refine ha.then q R x fun d μ1 v1 H1 h1 n1 R1 x1 r1 => ?_
  split at h1
  · rename_i k
    refine ⟨k, rp_bl.mp r1, ?_⟩
    by_cases z : k = true
    · rw [if_pos z] at h1 ⊢
      exact (hb.run σ μ1 Q E h1 Z σv H1 R1 x1).mono fun v H' q => q.back n1
    · rw [if_neg z] at h1 ⊢
      exact ⟨_, μ1, h1, n1, R1.rel, rp_bl'⟩
  · exact h1.elim⟩
theorem ej_or (ha : EJ X G W a ma) (hb : EJ X G W (.BoolOp .Or (b :: rest) pos) mb) : EJ X G W (.BoolOp .Or (a :: b :: rest) pos) (mOrV ma mb) := ⟨fun σ μ Q E q Z σv H R x => by
  refine toE (pe_or pS pS) ?_
  refine ha.then q R x fun d μ1 v1 H1 h1 n1 R1 x1 r1 => ?_
  split at h1
  · rename_i k
    refine ⟨k, rp_bl.mp r1, ?_⟩
    by_cases z : k = true
    · rw [if_pos z] at h1 ⊢
      exact ⟨_, μ1, h1, n1, R1.rel, rp_bl'⟩
    · rw [if_neg z] at h1 ⊢
      exact (hb.run σ μ1 Q E h1 Z σv H1 R1 x1).mono fun v H' q => q.back n1
  · exact h1.elim⟩
theorem ej_not (ha : EJ X G W a ma) : EJ X G W (.UnaryOp .Not a pos) (mNotV ma) := ⟨fun σ μ Q E q Z σv H R x => by
  refine toE (pe_not pS) ?_
  refine ha.then q R x fun d μ1 v1 H1 h1 n1 R1 x1 r1 => ?_
  split at h1
  · exact ⟨_, rp_bl.mp r1, ⟨_, μ1, h1, n1, R1.rel, rp_bl'⟩⟩
  · exact h1.elim⟩
theorem ej_ifExp (hc : TJ X G W c mt) (ha : EJ X G W a ma) (hb : EJ X G W b mb) : EJ X G W (.IfExp c a b pos) (mIf mt ma mb) := ⟨fun σ μ Q E q Z σv H R x => by
  refine toE (pe_ifExp ptS pS pS) ?_
  refine hc.then q R x fun k μ1 H1 h1 n1 R1 x1 => ?_
  by_cases z : k = true
  · rw [if_pos z] at h1 ⊢
    exact (ha.run σ μ1 Q E h1 Z σv H1 R1 x1).mono fun v H' q => q.back n1
  · rw [if_neg z] at h1 ⊢
    exact (hb.run σ μ1 Q E h1 Z σv H1 R1 x1).mono fun v H' q => q.back n1⟩
theorem ej_neg (ha : EJ X G W a ma) : EJ X G W (.UnaryOp .USub a pos) (fun σ μ Q E => ma σ μ (fun d μ1 => match d with
    | .int i => Q (.int (-i)) μ1
    | _ => False) E) := ⟨fun σ μ Q E q Z σv H R x => by
  refine toE (pe_un un_neg pS) ?_
  refine ha.then q R x fun d μ1 v1 H1 h1 n1 R1 x1 r1 => ?_
  split at h1
  · exact ⟨_, rp_int.mp r1, ⟨_, μ1, h1, n1, R1.rel, rp_int'⟩⟩
  · exact h1.elim⟩

def mNil : MA := fun _ μ Q _ => Q [] μ
def mCons (m : ME) (k : MA) : MA := fun σ μ Q E => m σ μ (fun d μ1 => k σ μ1 (fun ds μ2 => Q (d :: ds) μ2) E) E
theorem aj_nil : AJ X G W [] mNil := ⟨fun σ μ Q E q Z σv H R x => toA pa_nil ⟨[], μ, q, Nx.refl _ _, R.rel, RpL.nil⟩⟩
theorem aj_cons (ha : EJ X G W e ma) (hr : AJ X G W es mas) (hs : starEach (e :: es) X.env = (false, eval e X.env) :: starEach es X.env := by rfl) : AJ X G W (e :: es) (mCons ma mas) := ⟨fun σ μ Q E q Z σv H R x => by
  refine toA (pa_cons pS paS hs) ?_
  refine ha.then q R x fun d μ1 v1 H1 h1 n1 R1 x1 r1 => ?_
  exact hr.then h1 R1 x1 fun ds μ2 vs H2 h2 n2 R2 x2 r2 => ⟨_, μ2, h2, n1.trans n2, R2.rel, RpL.cons (Rp.keep n2 _ _ r1) r2⟩⟩
def mTup (m : MA) : ME := fun σ μ Q E => m σ μ (fun ds μ1 => ds.length ≤ sizeLine ∧ Q (.tup ds) μ1) E
def mLst (b : Bool) (m : MA) : ME := fun σ μ Q E => m σ μ (fun ds μ1 => ds.length ≤ sizeLine ∧ mkL b ds μ1 Q) E
theorem ej_tup {x1} (h : AJ X G W es mas) : EJ X G W (.Tuple es x1 pos) (mTup mas) := ⟨fun σ μ Q E q Z σv H R x => by
  refine toE (pe_tup paS) ?_
  exact h.then q R x fun ds μ1 vs H1 h1 n1 R1 x1 r1 => ⟨by rw [r1.length]; exact h1.1, fun p hp => (mkT_ok R1.rel hp r1 h1.2).back n1⟩⟩
theorem ej_lst (b : Bool) (h : AJ X G W es mas) : EJ X G W (.List es pos) (mLst b mas) := ⟨fun σ μ Q E q Z σv H R x => by
  refine toE (pe_lst paS) ?_
  exact h.then q R x fun ds μ1 vs H1 h1 n1 R1 x1 r1 => ⟨by rw [r1.length]; exact h1.1, fun p hp => (mkL_ok R1.rel hp r1 h1.2).back n1⟩⟩

def rIxD : R2D := fun x y μ Q => match viewQ μ x, y with
  | some ds, .int i => match atI ds i with
    | some d => Q d μ
    | none => False
  | _, _ => False
theorem RpL.atI {K : KZ} {μ : Sto} {H : Hp} {ds : List D} {xs : List V} {i : Int} {d : D} (h : RpL K μ H ds xs) (e : L2.atI ds i = some d) : ∃ v, L2.atI xs i = some v ∧ Rp K μ H d v := by
  unfold L2.atI at e ⊢
  rw [h.length]
  cases z : ixN ds.length i with
  | none => rw [z] at e; cases e
  | some j =>
    rw [z] at e
    exact h.get e
theorem ej_ix (ha : EJ X G W a ma) (hb : EJ X G W b mb) (hs : PlainIx b := by intro _ _; rfl) : EJ X G W (.Subscript a b pos) (mBin rIxD ma mb) := ⟨fun σ μ Q E q Z σv H R x => by
  refine toE (pe_ix ix_seq pS pS hs) ?_
  refine ha.then q R x fun d1 μ1 v1 H1 h1 n1 R1 x1 r1 => ?_
  refine hb.then h1 R1 x1 fun d2 μ2 v2 H2 h2 n2 R2 x2 r2 => ?_
  unfold rIxD at h2
  split at h2
  · rename_i ds i e
    split at h2
    · rename_i d ei
      obtain ⟨p, xs, rfl, s, l⟩ := viewQ_ok R2.rel e (Rp.keep n2 _ _ r1)
      obtain ⟨v, ev, rv⟩ := l.atI ei
      have fin : QE (kz X Z) μ H Q v H2 := ⟨d, μ2, h2, n1.trans n2, R2.rel, rv⟩
      rcases s with s | s
      · exact .inl ⟨p, xs, i, v, rfl, rp_int.mp r2, s, ev, fin⟩
      · exact .inr (.inl ⟨p, xs, i, v, rfl, rp_int.mp r2, s, ev, fin⟩)
    · exact h2.elim
  · exact h2.elim⟩
def cutD (xs : List D) (lo hi : Option Int) : List D := (xs.drop (HT.sIx xs.length 0 lo)).take (HT.sIx xs.length xs.length hi - HT.sIx xs.length 0 lo)
theorem RpL.cut {K : KZ} {μ : Sto} {H : Hp} {ds : List D} {xs : List V} (h : RpL K μ H ds xs) (lo hi : Option Int) : RpL K μ H (cutD ds lo hi) (cutV xs lo hi) := by
  unfold cutD cutV
  rw [h.length]
  exact (h.drop _).take _
abbrev MO' := SD → Sto → (Option Int → Sto → Prop) → ExD → Prop
def oS (X : Cx) (e : Option Expr) : TO := fun σ H Q => match e with
  | none => Q none H
  | some e => tS X e σ H fun x H1 => ∃ i, x = .int i ∧ Q (some i) H1
theorem poS {o : Option Expr} : PO X o (oS X o) := by
  cases o with
  | none => exact po_none
  | some e => exact po_some pS
structure OJ (X : Cx) (G : GI) (W : WX) (e : Option Expr) (m : MO') : Prop where
  run : ∀ σ μ Q E, m σ μ Q E → ∀ Z σv H, RS (kz X Z) G σ μ σv H → XW (kz X Z) μ H E (fun c d H' => W c d σv H') → ∀ Q' : Option Int → Hp → Prop, (∀ i μ' H', Q i μ' → Nx μ H μ' H' → Rel (kz X Z) μ' H' → Q' i H') → oS X e σv H Q'
theorem oj_none : OJ X G W none (fun _ μ Q _ => Q none μ) := ⟨fun σ μ Q E q Z σv H R x Q' k => k _ _ _ q (Nx.refl _ _) R.rel⟩
theorem oj_some (h : EJ X G W e ma) : OJ X G W (some e) (fun σ μ Q E => ma σ μ (fun d μ1 => match d with
    | .int i => Q (some i) μ1
    | _ => False) E) := ⟨fun σ μ Q E q Z σv H R x Q' k => by
  refine h.then q R x fun d μ1 v1 H1 h1 n1 R1 x1 r1 => ?_
  split at h1
  · exact ⟨_, rp_int.mp r1, k _ _ _ h1 n1 R1.rel⟩
  · exact h1.elim⟩
def mSl (b : Bool) (m : ME) (lo hi : MO') : ME := fun σ μ Q E => m σ μ (fun d μ1 => lo σ μ1 (fun i μ2 => hi σ μ2 (fun j μ3 => match viewL μ3 d with
  | some ds => mkL b (cutD ds i j) μ3 Q
  | none => False) E) E) E
theorem ej_slice (b : Bool) {lo hi : Option Expr} {mlo mhi : MO'} {p2 : Pos} (ha : EJ X G W e ma) (hl : OJ X G W lo mlo) (hh : OJ X G W hi mhi) : EJ X G W (.Subscript e (.Slice lo hi none p2) pos) (mSl b ma mlo mhi) := ⟨fun σ μ Q E q Z σv H R x => by
  refine toE (pe_slice sl_list pS poS poS) ?_
  refine ha.then q R x fun d μ1 v1 H1 h1 n1 R1 x1 r1 => ?_
  refine hl.run σ μ1 _ E h1 Z σv H1 R1 x1 _ fun i μ2 H2 h2 n2 rl2 => ?_
  have R2 := R1.go n2 rl2
  refine hh.run σ μ2 _ E h2 Z σv H2 R2 (x1.on n2) _ fun j μ3 H3 h3 n3 rl3 => ?_
  split at h3
  · rename_i ds ev
    obtain ⟨a, xs, rfl, s, l⟩ := viewL_ok rl3 ev (Rp.keep (n2.trans n3) _ _ r1)
    exact ⟨a, xs, rfl, s, fun p hp => (mkL_ok rl3 hp (l.cut i j) h3).back (n1.trans (n2.trans n3))⟩
  · exact h3.elim⟩
def mRev (b : Bool) (m : ME) : ME := fun σ μ Q E => m σ μ (fun d μ1 => match viewL μ1 d with
  | some ds => mkL b ds.reverse μ1 Q
  | none => False) E
theorem ej_rev (b : Bool) {k : Nat} {p1 p2 p3 : Pos} (ha : EJ X G W e ma) : EJ X G W (.Subscript e (.Slice none none (some (.UnaryOp .USub (.Constant (.int 1) k p1) p2)) p3) pos) (mRev b ma) := ⟨fun σ μ Q E q Z σv H R x => by
  refine toE (pe_revL pS) ?_
  refine ha.then q R x fun d μ1 v1 H1 h1 n1 R1 x1 r1 => ?_
  split at h1
  · rename_i ds ev
    obtain ⟨a, xs, rfl, s, l⟩ := viewL_ok R1.rel ev r1
    exact ⟨a, xs, rfl, s, fun p hp => (mkL_ok R1.rel hp l.reverse h1).back n1⟩
  · exact h1.elim⟩
end
end TL

namespace TL
open PySem PySem.Spec PyProof.Rows L2

section
variable {K : PySem.W.Frag} {Z : Addr → Prop} {μ : Sto} {H H' : Hp} {p : Addr} {o : HO}
def hid (Z : Addr → Prop) (p : Addr) : Addr → Prop := fun a => Z a ∨ a = p
mutual
theorem Rp.hide (hp : H p = none) : ∀ (d : D) (v : V), Rp ⟨K, Z⟩ μ H d v → Rp ⟨K, hid Z p⟩ μ (upd H p o) d v
  | .non, v, h => by simpa only [Rp] using h
  | .bl b, v, h => by simpa only [Rp] using h
  | .int i, v, h => by simpa only [Rp] using h
  | .str x, v, h => by simpa only [Rp] using h
  | .raw w, v, h => by simpa only [Rp] using h
  | .tup ds, v, h => by
    simp only [Rp] at h ⊢
    obtain ⟨a, xs, e, s, r⟩ := h
    refine ⟨a, xs, e, ?_, RpL.hide hp ds xs r⟩
    rcases s with ⟨s, f⟩ | s
    · have ne : a ≠ p := by rcases s with s | ⟨q, s⟩ <;> exact ne_of_none s hp
      refine .inl ⟨?_, f.1, fun z => z.elim f.2 ne⟩
      unfold Rd
      rw [upd_ne ne]; exact s
    · exact .inr s
  | .lst ds, v, h => by
    simp only [Rp] at h ⊢
    obtain ⟨a, xs, e, s, r⟩ := h
    have ne : a ≠ p := ne_of_none s.1 hp
    exact ⟨a, xs, e, ⟨by rw [upd_ne ne]; exact s.1, s.2.1, fun z => z.elim s.2.2 ne⟩, RpL.hide hp ds xs r⟩
  | .scr ds, v, h => by
    simp only [Rp] at h ⊢
    obtain ⟨a, xs, e, s, r⟩ := h
    refine ⟨a, xs, e, ?_, RpL.hide hp ds xs r⟩
    rcases s with ⟨s, f⟩ | s
    · have ne : a ≠ p := by rcases s with s | ⟨q, s⟩ <;> exact ne_of_none s hp
      refine .inl ⟨?_, f.1, fun z => z.elim f.2 ne⟩
      unfold Rd
      rw [upd_ne ne]; exact s
    · exact .inr s
  | .ins C ns ds, v, h => by
    simp only [Rp] at h ⊢
    obtain ⟨a, dx, xs, e, s, f, l, r⟩ := h
    have ne : a ≠ p := ne_of_none s hp
    exact ⟨a, dx, xs, e, by rw [upd_ne ne]; exact s, ⟨f.1, fun z => z.elim f.2 ne⟩, l, RpL.hide hp ds xs r⟩
theorem RpL.hide (hp : H p = none) : ∀ (ds : List D) (xs : List V), RpL ⟨K, Z⟩ μ H ds xs → RpL ⟨K, hid Z p⟩ μ (upd H p o) ds xs
  | [], xs, h => by simpa only [RpL] using h
  | d :: ds, xs, h => by
    simp only [RpL] at h ⊢
    obtain ⟨v, r, e, h1, h2⟩ := h
    exact ⟨v, r, e, Rp.hide hp d v h1, RpL.hide hp ds r h2⟩
end
mutual
theorem Rp.unhide : ∀ (d : D) (v : V), Rp ⟨K, hid Z p⟩ μ H d v → Rp ⟨K, Z⟩ μ H d v
  | .non, v, h => by simpa only [Rp] using h
  | .bl b, v, h => by simpa only [Rp] using h
  | .int i, v, h => by simpa only [Rp] using h
  | .str x, v, h => by simpa only [Rp] using h
  | .raw w, v, h => by simpa only [Rp] using h
  | .tup ds, v, h => by
    simp only [Rp] at h ⊢
    obtain ⟨a, xs, e, s, r⟩ := h
    exact ⟨a, xs, e, s.elim (fun s => .inl ⟨s.1, s.2.1, fun z => s.2.2 (.inl z)⟩) .inr, RpL.unhide ds xs r⟩
  | .lst ds, v, h => by
    simp only [Rp] at h ⊢
    obtain ⟨a, xs, e, s, r⟩ := h
    exact ⟨a, xs, e, ⟨s.1, s.2.1, fun z => s.2.2 (.inl z)⟩, RpL.unhide ds xs r⟩
  | .scr ds, v, h => by
    simp only [Rp] at h ⊢
    obtain ⟨a, xs, e, s, r⟩ := h
    exact ⟨a, xs, e, s.elim (fun s => .inl ⟨s.1, s.2.1, fun z => s.2.2 (.inl z)⟩) .inr, RpL.unhide ds xs r⟩
  | .ins C ns ds, v, h => by
    simp only [Rp] at h ⊢
    obtain ⟨a, dx, xs, e, s, f, l, r⟩ := h
    exact ⟨a, dx, xs, e, s, ⟨f.1, fun z => f.2 (.inl z)⟩, l, RpL.unhide ds xs r⟩
theorem RpL.unhide : ∀ (ds : List D) (xs : List V), RpL ⟨K, hid Z p⟩ μ H ds xs → RpL ⟨K, Z⟩ μ H ds xs
  | [], xs, h => by simpa only [RpL] using h
  | d :: ds, xs, h => by
    simp only [RpL] at h ⊢
    obtain ⟨v, r, e, h1, h2⟩ := h
    exact ⟨v, r, e, Rp.unhide d v h1, RpL.unhide ds r h2⟩
end
theorem SL.hide (hp : H p = none) {a : Addr} {xs : List V} (s : SL ⟨K, Z⟩ μ H a xs) : SL ⟨K, hid Z p⟩ μ (upd H p o) a xs := by
  have ne : a ≠ p := ne_of_none s.1 hp
  exact ⟨by rw [upd_ne ne]; exact s.1, s.2.1, fun z => z.elim s.2.2 ne⟩
theorem SLs.hide (hp : H p = none) {a : Addr} {xs : List V} (s : SLs ⟨K, Z⟩ μ H a xs) : SLs ⟨K, hid Z p⟩ μ (upd H p o) a xs := by
  rcases s with ⟨s, f⟩ | s
  · have ne : a ≠ p := by rcases s with s | ⟨q, s⟩ <;> exact ne_of_none s hp
    refine .inl ⟨?_, f.1, fun z => z.elim f.2 ne⟩
    unfold Rd
    rw [upd_ne ne]; exact s
  · exact .inr s
theorem ST.hide (hp : H p = none) {a : Addr} {xs : List V} (s : ST ⟨K, Z⟩ μ H a xs) : ST ⟨K, hid Z p⟩ μ (upd H p o) a xs := by
  rcases s with ⟨s, f⟩ | s
  · have ne : a ≠ p := by rcases s with s | ⟨q, s⟩ <;> exact ne_of_none s hp
    refine .inl ⟨?_, f.1, fun z => z.elim f.2 ne⟩
    unfold Rd
    rw [upd_ne ne]; exact s
  · exact .inr s
theorem SL.hup {u : HO} {a : Addr} {xs : List V} (s : SL ⟨K, hid Z p⟩ μ H a xs) : SL ⟨K, hid Z p⟩ μ (upd H p u) a xs := by
  have ne : a ≠ p := fun z => s.2.2 (.inr z)
  exact ⟨by rw [upd_ne ne]; exact s.1, s.2⟩
theorem SLs.hup {u : HO} {a : Addr} {xs : List V} (s : SLs ⟨K, hid Z p⟩ μ H a xs) : SLs ⟨K, hid Z p⟩ μ (upd H p u) a xs := by
  rcases s with ⟨s, f⟩ | s
  · have ne : a ≠ p := fun z => f.2 (.inr z)
    refine .inl ⟨?_, f⟩
    unfold Rd
    rw [upd_ne ne]; exact s
  · exact .inr s
theorem ST.hup {u : HO} {a : Addr} {xs : List V} (s : ST ⟨K, hid Z p⟩ μ H a xs) : ST ⟨K, hid Z p⟩ μ (upd H p u) a xs := by
  rcases s with ⟨s, f⟩ | s
  · have ne : a ≠ p := fun z => f.2 (.inr z)
    refine .inl ⟨?_, f⟩
    unfold Rd
    rw [upd_ne ne]; exact s
  · exact .inr s
theorem CoR.hide (hp : H p = none) {a : Addr} {x : MO} (h : CoR ⟨K, Z⟩ μ H a x) : CoR ⟨K, hid Z p⟩ μ (upd H p o) a x := by
  cases x with
  | lst ds =>
    obtain ⟨xs, e, r⟩ := h
    exact ⟨xs, by rw [upd_ne (ne_of_none e hp)]; exact e, RpL.hide hp _ _ r⟩
  | ins C ns ds =>
    obtain ⟨dx, xs, e, l, r⟩ := h
    exact ⟨dx, xs, by rw [upd_ne (ne_of_none e hp)]; exact e, l, RpL.hide hp _ _ r⟩
theorem CoR.unhide {a : Addr} {x : MO} (h : CoR ⟨K, hid Z p⟩ μ H a x) : CoR ⟨K, Z⟩ μ H a x := by
  cases x with
  | lst ds => obtain ⟨xs, e, r⟩ := h; exact ⟨xs, e, RpL.unhide _ _ r⟩
  | ins C ns ds => obtain ⟨dx, xs, e, l, r⟩ := h; exact ⟨dx, xs, e, l, RpL.unhide _ _ r⟩
theorem Rel.hide (hp : H p = none) (R : Rel ⟨K, Z⟩ μ H) : Rel ⟨K, hid Z p⟩ μ (upd H p o) := by
  refine ⟨fun a x e => ⟨CoR.hide hp (R.co e), fun z => ?_⟩, fun a z => ?_⟩
  · rcases z with z | z
    · exact (R.1 a x e).2 z
    · obtain ⟨u, q⟩ := (R.co e).some
      rw [z, hp] at q; cases q
  · rcases z with z | z
    · exact upd_some (R.2 a z)
    · rw [z, upd_same]; simp
theorem Rel.unhide (R : Rel ⟨K, hid Z p⟩ μ H) : Rel ⟨K, Z⟩ μ H := ⟨fun a x e => ⟨(R.co e).unhide, fun z => (R.1 a x e).2 (.inl z)⟩, fun a z => R.2 a (.inl z)⟩
mutual
theorem Rp.hup {u : HO} : ∀ (d : D) (v : V), Rp ⟨K, hid Z p⟩ μ H d v → Rp ⟨K, hid Z p⟩ μ (upd H p u) d v
  | .non, v, h => by simpa only [Rp] using h
  | .bl b, v, h => by simpa only [Rp] using h
  | .int i, v, h => by simpa only [Rp] using h
  | .str x, v, h => by simpa only [Rp] using h
  | .raw w, v, h => by simpa only [Rp] using h
  | .tup ds, v, h => by
    simp only [Rp] at h ⊢
    obtain ⟨a, xs, e, s, r⟩ := h
    refine ⟨a, xs, e, ?_, RpL.hup ds xs r⟩
    rcases s with ⟨s, f⟩ | s
    · have ne : a ≠ p := fun z => f.2 (.inr z)
      refine .inl ⟨?_, f⟩
      unfold Rd
      rw [upd_ne ne]; exact s
    · exact .inr s
  | .lst ds, v, h => by
    simp only [Rp] at h ⊢
    obtain ⟨a, xs, e, s, r⟩ := h
    have ne : a ≠ p := fun z => s.2.2 (.inr z)
    exact ⟨a, xs, e, ⟨by rw [upd_ne ne]; exact s.1, s.2⟩, RpL.hup ds xs r⟩
  | .scr ds, v, h => by
    simp only [Rp] at h ⊢
    obtain ⟨a, xs, e, s, r⟩ := h
    refine ⟨a, xs, e, ?_, RpL.hup ds xs r⟩
    rcases s with ⟨s, f⟩ | s
    · have ne : a ≠ p := fun z => f.2 (.inr z)
      refine .inl ⟨?_, f⟩
      unfold Rd
      rw [upd_ne ne]; exact s
    · exact .inr s
  | .ins C ns ds, v, h => by
    simp only [Rp] at h ⊢
    obtain ⟨a, dx, xs, e, s, f, l, r⟩ := h
    have ne : a ≠ p := fun z => f.2 (.inr z)
    exact ⟨a, dx, xs, e, by rw [upd_ne ne]; exact s, f, l, RpL.hup ds xs r⟩
theorem RpL.hup {u : HO} : ∀ (ds : List D) (xs : List V), RpL ⟨K, hid Z p⟩ μ H ds xs → RpL ⟨K, hid Z p⟩ μ (upd H p u) ds xs
  | [], xs, h => by simpa only [RpL] using h
  | d :: ds, xs, h => by
    simp only [RpL] at h ⊢
    obtain ⟨v, r, e, h1, h2⟩ := h
    exact ⟨v, r, e, Rp.hup d v h1, RpL.hup ds r h2⟩
end
theorem Rel.hup {u : HO} (R : Rel ⟨K, hid Z p⟩ μ H) : Rel ⟨K, hid Z p⟩ μ (upd H p u) := by
  refine ⟨fun a x e => ⟨?_, (R.1 a x e).2⟩, fun a z => upd_some (R.2 a z)⟩
  have ne : a ≠ p := fun z => (R.1 a x e).2 (.inr z)
  have c := R.co e
  cases x with
  | lst ds => obtain ⟨xs, q, r⟩ := c; exact ⟨xs, by rw [upd_ne ne]; exact q, RpL.hup _ _ r⟩
  | ins C ns ds => obtain ⟨dx, xs, q, l, r⟩ := c; exact ⟨dx, xs, by rw [upd_ne ne]; exact q, l, RpL.hup _ _ r⟩
end

abbrev MG := D → SD → Sto → (SD → Sto → Prop) → Prop
abbrev MGs := List D → SD → Sto → (SD → Sto → Prop) → Prop
def gS (X : Cx) (tg : Expr) : TG := fun v σ H Q => ∀ pins s u, Inv X pins σ H s → RelV v u → wpAny (model X.prog X.w) X.A (assign tg X.env u) (fun _ s' => ∃ σ' H', Inv X pins σ' H' s' ∧ Q σ' H') X.xe s
def gsS (X : Cx) (ts : List Expr) : TGs := fun vs σ H Q => ∀ pins s us, Inv X pins σ H s → Vals vs us → wpAny (model X.prog X.w) X.A (assignInOrder ((assignEach ts X.env).map (·.2)) us) (fun _ s' => ∃ σ' H', Inv X pins σ' H' s' ∧ Q σ' H') X.xe s
structure GJ (X : Cx) (G : GI) (tg : Expr) (g : MG) : Prop where
  run : ∀ d σ μ Q, g d σ μ Q → ∀ Z σv H v, RS (kz X Z) G σ μ σv H → Rp (kz X Z) μ H d v → gS X tg v σv H (QS (kz X Z) G μ H Q)
structure GJs (X : Cx) (G : GI) (ts : List Expr) (g : MGs) : Prop where
  run : ∀ ds σ μ Q, g ds σ μ Q → ∀ Z σv H vs, RS (kz X Z) G σ μ σv H → RpL (kz X Z) μ H ds vs → gsS X ts vs σv H (QS (kz X Z) G μ H Q)
section
variable {X : Cx} {G : GI} {W : WX} {pos : Pos} {tg e : Expr} {ts : List Expr} {ma : ME} {g : MG} {gs : MGs} {σ : L2.St} {H : Hp}
theorem pgS : PG X tg (gS X tg) := ⟨fun pins s σ H v u Q I r h => h pins s u I r⟩
theorem pgsS : PGs X ts (gsS X ts) := ⟨fun pins s σ H vs us Q I r h => h pins s us I r⟩
theorem toG {t : TG} (h : PG X tg t) {v : V} {Q : L2.St → Hp → Prop} (q : t v σ H Q) : gS X tg v σ H Q := fun pins s u I r => h.run pins s σ H v u Q I r q
theorem toGs {t : TGs} (h : PGs X ts t) {v : List V} {Q : L2.St → Hp → Prop} (q : t v σ H Q) : gsS X ts v σ H Q := fun pins s u I r => h.run pins s σ H v u Q I r q
theorem gS.mono {v : V} {Q Q' : L2.St → Hp → Prop} (h : gS X tg v σ H Q) (k : ∀ σ' H', Q σ' H' → Q' σ' H') : gS X tg v σ H Q' := fun pins s u I r => thn (h pins s u I r) fun _ s' ⟨σ', H', I', q⟩ => ⟨σ', H', I', k _ _ q⟩
theorem gsS.mono {v : List V} {Q Q' : L2.St → Hp → Prop} (h : gsS X ts v σ H Q) (k : ∀ σ' H', Q σ' H' → Q' σ' H') : gsS X ts v σ H Q' := fun pins s u I r => thn (h pins s u I r) fun _ s' ⟨σ', H', I', q⟩ => ⟨σ', H', I', k _ _ q⟩
def gN (i : Nat) : MG := fun d σ μ Q => Q (σ.set i (some d)) μ
theorem RS.set {K : KZ} {σ : SD} {μ : Sto} {σv : L2.St} {H : Hp} {d : D} {v : V} (R : RS K G σ μ σv H) (i : Nat) (r : Rp K μ H d v) : RS K G (σ.set i (some d)) μ (σv.set i (some v)) H := ⟨R.rel, R.sl.set i r, R.g⟩
theorem gj_name (i : Nat) {x : Str} (hN : X.N.Nodup) (hi : X.N[i]? = some x := by rfl) (hx : Loc X.env.scope x := by first | exact Or.inl rfl | exact Or.inr rfl) (hf : X.fn x = true ∨ X.env.scope.names.lookup x = some .local := by first | exact .inl rfl | exact .inr rfl | assumption) : GJ X G (.Name x pos) (gN i) :=
  ⟨fun d σ μ Q q Z σv H v R r => toG (pg_name hN hi hx hf) ⟨_, μ, q, Nx.refl _ _, R.set i r⟩⟩
def gNilD : MGs := fun ds σ μ Q => match ds with
  | [] => Q σ μ
  | _ => False
def gConsD (g : MG) (k : MGs) : MGs := fun ds σ μ Q => match ds with
  | d :: r => g d σ μ (fun σ1 μ1 => k r σ1 μ1 Q)
  | [] => False
theorem gjs_nil : GJs X G [] gNilD := ⟨fun ds σ μ Q q Z σv H vs R r => by
  refine toGs pgs_nil ?_
  cases ds with
  | nil => exact ⟨rpl_nil.mp r, _, μ, q, Nx.refl _ _, R⟩
  | cons d ds => exact q.elim⟩
theorem gjs_cons (h1 : GJ X G tg g) (h2 : GJs X G ts gs) (hs : (assignEach (tg :: ts) X.env).map (·.2) = assign tg X.env :: (assignEach ts X.env).map (·.2) := by rfl) : GJs X G (tg :: ts) (gConsD g gs) := ⟨fun ds σ μ Q q Z σv H vs R r => by
  refine toGs (pgs_cons pgS pgsS hs) ?_
  cases ds with
  | nil => exact q.elim
  | cons d ds =>
    obtain ⟨v, vr, rfl, r1, r2⟩ := rpl_cons.mp r
    refine ⟨v, vr, rfl, (h1.run d σ μ _ q Z σv H v R r1).mono fun σ' H' ⟨σ1, μ1, q1, n1, R1⟩ => ?_⟩
    exact (h2.run ds σ1 μ1 Q q1 Z σ' H' vr R1 (RpL.keep n1 _ _ r2)).mono fun σ2 H2 q => q.back n1⟩
def gT (n : Nat) (gs : MGs) : MG := fun d σ μ Q => match d with
  | .tup ds => ds.length = n ∧ gs ds σ μ Q
  | _ => False
def gL (n : Nat) (gs : MGs) : MG := fun d σ μ Q => match viewL μ d with
  | some ds => ds.length = n ∧ gs ds σ μ Q
  | none => False
theorem gj_tup {k n : Nat} (hc : X.calm = true) (h : GJs X G ts gs) (hn : (assignEach ts X.env).length = n := by rfl) (hst : (assignEach ts X.env).findIdx? (·.1) = none := by rfl) : GJ X G (.Tuple ts k pos) (gT n gs) := ⟨fun d σ μ Q q Z σv H v R r => by
  refine toG (pg_tup hc pgsS hn hst) ?_
  unfold gT at q
  split at q
  · rename_i ds
    obtain ⟨a, xs, rfl, s, l⟩ := rp_tup.mp r
    exact ⟨a, xs, rfl, s.seq, by rw [l.length]; exact q.1, h.run ds σ μ Q q.2 Z σv H xs R l⟩
  · exact q.elim⟩
theorem gj_unl {k n : Nat} (hc : X.calm = true) (h : GJs X G ts gs) (hn : (assignEach ts X.env).length = n := by rfl) (hst : (assignEach ts X.env).findIdx? (·.1) = none := by rfl) : GJ X G (.Tuple ts k pos) (gL n gs) := ⟨fun d σ μ Q q Z σv H v R r => by
  refine toG (pg_unl hc pgsS hn hst) ?_
  unfold gL at q
  split at q
  · rename_i ds e
    obtain ⟨a, xs, rfl, s, l⟩ := viewL_ok R.rel e r
    exact ⟨a, xs, rfl, s, by rw [l.length]; exact q.1, h.run ds σ μ Q q.2 Z σv H xs R l⟩
  · exact q.elim⟩

def mNext : MS := fun Dn σ μ => Dn.nx σ μ
def mSeq (m k : MS) : MS := fun Dn σ μ => m { Dn with nx := k Dn } σ μ
variable {st : Stmt} {sts : List Stmt} {m k : MS}
theorem ends_nx {K : KZ} {μ : Sto} {H : Hp} {Dn : DE} {q : SD → Sto → Prop} {nx' : L2.St → Hp → Prop} (h : ∀ σ' H', QS K G μ H q σ' H' → nx' σ' H') : EndsLe (EndsOf K G μ H { Dn with nx := q }) { EndsOf K G μ H Dn with nx := nx' } := ⟨h, fun _ _ h => h, fun _ _ h => h, fun _ _ h => h⟩
theorem sjs_nil : SJs X G W [] mNext := ⟨fun Dn σ μ q Z σv H R x => toSs pss_nil ⟨σ, μ, q, Nx.refl _ _, R⟩⟩
theorem sjs_cons (h1 : SJ X G W st m) (h2 : SJs X G W sts k) : SJs X G W (st :: sts) (mSeq m k) := ⟨fun Dn σ μ q Z σv H R x => by
  refine toSs (pss_cons psS pssS) ?_
  refine (h1.run { Dn with nx := k Dn } σ μ q Z σv H R x).mono (ends_nx fun σ' H' ⟨σ1, μ1, q1, n1, R1⟩ => ?_)
  exact (h2.run Dn σ1 μ1 q1 Z σ' H' R1 (x.on n1)).mono (ends_back n1)⟩
theorem sjs_one (h1 : SJ X G W st m) : SJs X G W [st] m := ⟨fun Dn σ μ q Z σv H R x => toSs (pss_one psS) (h1.run Dn σ μ q Z σv H R x)⟩
theorem sj_pass : SJ X G W (.Pass pos) mNext := ⟨fun Dn σ μ q Z σv H R x => toS ps_pass ⟨σ, μ, q, Nx.refl _ _, R⟩⟩
def mBreak : MS := fun Dn σ μ => Dn.bk σ μ
def mCont : MS := fun Dn σ μ => Dn.ct σ μ
theorem sj_break : SJ X G W (.Break pos) mBreak := ⟨fun Dn σ μ q Z σv H R x => toS ps_break ⟨σ, μ, q, Nx.refl _ _, R⟩⟩
theorem sj_continue : SJ X G W (.Continue pos) mCont := ⟨fun Dn σ μ q Z σv H R x => toS ps_continue ⟨σ, μ, q, Nx.refl _ _, R⟩⟩
def exAt (Dn : DE) (σ : SD) : ExD := fun C v μ => Dn.ex C v σ μ
def mExpr (m : ME) : MS := fun Dn σ μ => m σ μ (fun _ μ1 => Dn.nx σ μ1) (exAt Dn σ)
theorem sj_expr (he : EJ X G W e ma) (hs : swapsWith e none pos.line X.env = pure false := by rfl) : SJ X G W (.Expr e pos) (mExpr ma) := ⟨fun Dn σ μ q Z σv H R x => by
  refine toS (ps_expr pS hs) ?_
  exact he.then q R (x.at R) fun d μ1 v1 H1 h1 n1 R1 x1 r1 => ⟨σ, μ1, h1, n1, R1⟩⟩
def mRet (m : ME) : MS := fun Dn σ μ => m σ μ Dn.rt (exAt Dn σ)
theorem sj_ret (he : EJ X G W e ma) : SJ X G W (.Return (some e) pos) (mRet ma) := ⟨fun Dn σ μ q Z σv H R x => toS (ps_ret pS) (he.run σ μ _ _ q Z σv H R (x.at R))⟩
def mRetN : MS := fun Dn _ μ => Dn.rt .non μ
theorem sj_retN : SJ X G W (.Return none pos) mRetN := ⟨fun Dn σ μ q Z σv H R x => toS ps_retN ⟨.non, μ, q, Nx.refl _ _, R.rel, rp_non'⟩⟩
def mIfS (t : MT) (m k : MS) : MS := fun Dn σ μ => t σ μ (fun b μ1 => if b = true then m Dn σ μ1 else k Dn σ μ1) (exAt Dn σ)
theorem sj_if {c : Expr} {a b : List Stmt} {mt : MT} (hc : TJ X G W c mt) (ha : SJs X G W a m) (hb : SJs X G W b k) : SJ X G W (.If c a b pos) (mIfS mt m k) := ⟨fun Dn σ μ q Z σv H R x => by
  refine toS (ps_if ptS pssS pssS) ?_
  refine hc.then q R (x.at R) fun c μ1 H1 h1 n1 R1 x1 => ?_
  by_cases z : c = true
  · rw [if_pos z] at h1 ⊢
    exact (ha.run Dn σ μ1 h1 Z σv H1 R1 (x.on n1)).mono (ends_back n1)
  · rw [if_neg z] at h1 ⊢
    exact (hb.run Dn σ μ1 h1 Z σv H1 R1 (x.on n1)).mono (ends_back n1)⟩
theorem sj_never : SJ X G W st (fun _ _ _ => False) := ⟨fun Dn σ μ q Z σv H R x => q.elim⟩
def mAsg (m : ME) (g : MG) : MS := fun Dn σ μ => m σ μ (fun d μ1 => g d σ μ1 Dn.nx) (exAt Dn σ)
theorem sj_asg (he : EJ X G W e ma) (hg : GJ X G tg g) (hs : swapsWithSole [tg] e pos.line X.env = pure false := by rfl) (hw : swappedStores [tg] e X.env = pure none := by rfl)
    (h1 : (assignEach [tg] X.env).map (·.2) = [assign tg X.env] := by rfl) : SJ X G W (.Assign [tg] e pos) (mAsg ma g) := ⟨fun Dn σ μ q Z σv H R x => by
  refine toS (ps_asg pS pgS hs hw h1) ?_
  refine he.then q R (x.at R) fun d μ1 v1 H1 h1 n1 R1 x1 r1 => ?_
  exact (hg.run d σ μ1 _ h1 Z σv H1 v1 R1 r1).mono fun σ2 H2 q => q.back n1⟩
theorem sj_set {i : Nat} {x : Str} {pos' : Pos} (hN : X.N.Nodup) (he : EJ X G W e ma) (hi : X.N[i]? = some x := by rfl) (hx : Loc X.env.scope x := by first | exact Or.inl rfl | exact Or.inr rfl) (hs : swapsWith e (some (.Name x pos')) pos.line X.env = pure false := by rfl)
    (hf : X.fn x = true ∨ X.env.scope.names.lookup x = some .local := by first | exact .inl rfl | exact .inr rfl | assumption) : SJ X G W (.Assign [.Name x pos'] e pos) (mAsg ma (gN i)) := ⟨fun Dn σ μ q Z σv H R x => by
  refine toS (ps_set hN hi hx pS hs hf) ?_
  exact he.then q R (x.at R) fun d μ1 v1 H1 h1 n1 R1 x1 r1 => ⟨_, μ1, h1, n1, R1.set i r1⟩⟩
def mPar (i j : Nat) (ma : MA) : MS := fun Dn σ μ => ma σ μ (fun ds μ1 => match ds with
  | [d, e] => Dn.nx ((σ.set i (some d)).set j (some e)) μ1
  | _ => False) (exAt Dn σ)
theorem sj_par {i j : Nat} {x y : Str} {a b : Expr} {mas : MA} {px py pt : Pos} {kt k2 pt2} (hc : X.calm = true) (hN : X.N.Nodup) (hij : i ≠ j) (ha : AJ X G W [a, b] mas) (hi : X.N[i]? = some x := by rfl) (hj : X.N[j]? = some y := by rfl)
    (hx : X.env.scope.names.lookup x = some .local := by rfl) (hy : X.env.scope.names.lookup y = some .local := by rfl)
    (hw : swappedStores [.Tuple [.Name x px, .Name y py] kt pt] (.Tuple [a, b] k2 pt2) X.env = pure (some [x, y]) := by rfl)
    (hs : swapsWithSole [.Tuple [.Name x px, .Name y py] kt pt] (.Tuple [a, b] k2 pt2) pos.line X.env = pure false := by rfl) :
    SJ X G W (.Assign [.Tuple [.Name x px, .Name y py] kt pt] (.Tuple [a, b] k2 pt2) pos) (mPar i j mas) := ⟨fun Dn σ μ q Z σv H R x => by
  refine toS (ps_par hc hN hi hj hij hx hy paS hw hs) ?_
  refine ha.then q R (x.at R) fun ds μ1 vs H1 h1 n1 R1 x1 r1 => ?_
  split at h1
  · rename_i d e
    obtain ⟨v, r, rfl, q1, q2⟩ := rpl_cons.mp r1
    obtain ⟨w, r', rfl, q3, q4⟩ := rpl_cons.mp q2
    cases rpl_nil.mp q4
    exact ⟨v, w, rfl, _, μ1, h1, n1, (R1.set i q1).set j q3⟩
  · exact h1.elim⟩
def mPar3 (i j l : Nat) (ma : MA) : MS := fun Dn σ μ => ma σ μ (fun ds μ1 => match ds with
  | [d, e, f] => Dn.nx (((σ.set i (some d)).set j (some e)).set l (some f)) μ1
  | _ => False) (exAt Dn σ)
theorem sj_par3 {i j l : Nat} {x y z : Str} {a b c : Expr} {mas : MA} {px py pz pt : Pos} {kt k2 pt2} (hc : X.calm = true) (hN : X.N.Nodup) (hij : i ≠ j) (hil : i ≠ l) (hjl : j ≠ l) (ha : AJ X G W [a, b, c] mas) (hi : X.N[i]? = some x := by rfl) (hj : X.N[j]? = some y := by rfl) (hl : X.N[l]? = some z := by rfl)
    (hx : X.env.scope.names.lookup x = some .local := by rfl) (hy : X.env.scope.names.lookup y = some .local := by rfl) (hz : X.env.scope.names.lookup z = some .local := by rfl)
    (hw : swappedStores [.Tuple [.Name x px, .Name y py, .Name z pz] kt pt] (.Tuple [a, b, c] k2 pt2) X.env = pure (some [x, y, z]) := by rfl)
    (hs : swapsWithSole [.Tuple [.Name x px, .Name y py, .Name z pz] kt pt] (.Tuple [a, b, c] k2 pt2) pos.line X.env = pure false := by rfl) :
    SJ X G W (.Assign [.Tuple [.Name x px, .Name y py, .Name z pz] kt pt] (.Tuple [a, b, c] k2 pt2) pos) (mPar3 i j l mas) := ⟨fun Dn σ μ q Z σv H R x => by
  refine toS (ps_par3 hc hN hi hj hl hij hil hjl hx hy hz paS hw hs) ?_
  refine ha.then q R (x.at R) fun ds μ1 vs H1 h1 n1 R1 x1 r1 => ?_
  split at h1
  · rename_i d e f
    obtain ⟨v, r, rfl, q1, q2⟩ := rpl_cons.mp r1
    obtain ⟨w, r', rfl, q3, q4⟩ := rpl_cons.mp q2
    obtain ⟨w', r'', rfl, q5, q6⟩ := rpl_cons.mp q4
    cases rpl_nil.mp q6
    exact ⟨v, w, w', rfl, _, μ1, h1, n1, ((R1.set i q1).set j q3).set l q5⟩
  · exact h1.elim⟩
end
end TL

namespace TL
open PySem PySem.Spec PyProof.Rows L2

def fpN (f : Str) : List Str → List Str
  | [] => [f]
  | g :: r => if g = f then g :: r else g :: fpN f r
def fpD {α : Type} (f : Str) (d : α) : List Str → List α → List α
  | g :: r, x :: xs => if g = f then d :: xs else x :: fpD f d r xs
  | _, _ => [d]
theorem putF_zip (f : Str) (v : V) : ∀ {ns : List Str} {xs : List V}, ns.length = xs.length → putF f v (ns.zip xs) = (fpN f ns).zip (fpD f v ns xs)
  | [], [], _ => rfl
  | g :: r, x :: xs, h => by
    have h' : r.length = xs.length := by simpa using h
    show (if g = f then (g, v) :: r.zip xs else (g, x) :: putF f v (r.zip xs)) = (if g = f then g :: r else g :: fpN f r).zip (if g = f then v :: xs else x :: fpD f v r xs)
    by_cases e : g = f
    · rw [if_pos e, if_pos e, if_pos e]; rfl
    · rw [if_neg e, if_neg e, if_neg e, putF_zip f v h']; rfl
  | [], _ :: _, h => by simp at h
  | _ :: _, [], h => by simp at h
theorem fpD_len {α : Type} (f : Str) (d : α) : ∀ {ns : List Str} {xs : List α}, ns.length = xs.length → (fpN f ns).length = (fpD f d ns xs).length
  | [], [], _ => rfl
  | g :: r, x :: xs, h => by
    have h' : r.length = xs.length := by simpa using h
    show (if g = f then g :: r else g :: fpN f r).length = (if g = f then d :: xs else x :: fpD f d r xs).length
    by_cases e : g = f
    · rw [if_pos e, if_pos e]; simpa using h'
    · rw [if_neg e, if_neg e]; simpa using fpD_len f d h'
  | [], _ :: _, h => by simp at h
  | _ :: _, [], h => by simp at h
theorem RpL.fp {K : KZ} {μ : Sto} {H : Hp} (f : Str) {d : D} {v : V} (hd : Rp K μ H d v) : ∀ {ns : List Str} {ds : List D} {xs : List V}, ns.length = ds.length → RpL K μ H ds xs → RpL K μ H (fpD f d ns ds) (fpD f v ns xs)
  | [], [], xs, _, h => by rw [rpl_nil.mp h]; exact RpL.cons hd RpL.nil
  | g :: r, x :: ds, xs, l, h => by
    obtain ⟨w, t, rfl, h1, h2⟩ := rpl_cons.mp h
    have l' : r.length = ds.length := by simpa using l
    show RpL K μ H (if g = f then d :: ds else x :: fpD f d r ds) (if g = f then v :: t else w :: fpD f v r t)
    by_cases e : g = f
    · rw [if_pos e, if_pos e]; exact RpL.cons hd h2
    · rw [if_neg e, if_neg e]; exact RpL.cons h1 (RpL.fp f hd l' h2)
  | [], _ :: _, _, h, _ => by simp at h
  | _ :: _, [], _, h, _ => by simp at h
def fget (f : Str) : List Str → List D → Option D
  | g :: r, x :: xs => if f = g then some x else fget f r xs
  | _, _ => none
theorem fget_ok {K : KZ} {μ : Sto} {H : Hp} {f : Str} {d : D} : ∀ {ns : List Str} {ds : List D} {xs : List V}, RpL K μ H ds xs → fget f ns ds = some d → ∃ v, (ns.zip xs).lookup f = some v ∧ Rp K μ H d v
  | g :: r, x :: ds, xs, h, e => by
    obtain ⟨w, t, rfl, h1, h2⟩ := rpl_cons.mp h
    unfold fget at e
    show ∃ v, List.lookup f ((g, w) :: r.zip t) = some v ∧ _
    by_cases q : f = g
    · rw [if_pos q] at e
      cases e
      subst q
      exact ⟨w, by simp [List.lookup], h1⟩
    · rw [if_neg q] at e
      obtain ⟨v, l, rv⟩ := fget_ok h2 e
      have : (f == g) = false := beq_eq_false_iff_ne.mpr q
      exact ⟨v, by simp [List.lookup, this, l], rv⟩
  | [], _, _, _, e => by unfold fget at e; cases e
  | _ :: _, [], _, _, e => by unfold fget at e; cases e
theorem fget_none {f : Str} {xs : List V} : ∀ {ns : List Str}, f ∉ ns → (ns.zip xs).lookup f = none := fun {ns} h => by
  induction ns generalizing xs with
  | nil => rfl
  | cons g r ih =>
    cases xs with
    | nil => rfl
    | cons x xs =>
      have h1 : f ≠ g := fun e => h (by simp [e])
      have : (f == g) = false := beq_eq_false_iff_ne.mpr h1
      show List.lookup f ((g, x) :: r.zip xs) = none
      simp only [List.lookup, this]
      exact ih fun e => h (List.mem_cons_of_mem _ e)
def mFld (P : Addr → Prop) (f : Str) (m : ME) : ME := fun σ μ Q E => m σ μ (fun d μ1 => ∃ C ns ds x, viewI μ1 d = some (C, ns, ds) ∧ P C ∧ fget f ns ds = some x ∧ Q x μ1) E
def mSFld (P : Addr → Prop) (f : Str) (me mo : ME) : MS := fun Dn σ μ => me σ μ (fun y μ1 => mo σ μ1 (fun d μ2 => ∃ p C ns ds, d = .raw (.ref p) ∧ μ2 p = some (.ins C ns ds) ∧ P C ∧ ns.length < 900 ∧ Dn.nx σ (sset μ2 p (.ins C (fpN f ns) (fpD f y ns ds)))) (exAt Dn σ)) (exAt Dn σ)
section
variable {X : Cx} {G : GI} {W : WX} {pos : Pos} {tg e o : Expr} {ts : List Expr} {ma mo : ME} {g : MG} {gs : MGs} {P : Addr → Prop} {f : Str}
theorem ej_fld (hP : ∀ C, P C → Cls X.K C ∧ NoAttr X.K C f) (he : EJ X G W e ma) (hb : attributeBase e f X.env (eval e X.env) = eval e X.env := by rfl) : EJ X G W (.Attribute e f pos) (mFld P f ma) := ⟨fun σ μ Q E q Z σv H R x => by
  refine toE (pe_fld pS hb) ?_
  refine he.then q R x fun d μ1 v1 H1 h1 n1 R1 x1 r1 => ?_
  obtain ⟨C, ns, ds, y, hv, pC, hf, hq⟩ := h1
  obtain ⟨a, dx, xs, rfl, hH, l, rl⟩ := viewI_ok R1.rel hv r1
  obtain ⟨v, lv, rv⟩ := fget_ok rl hf
  exact ⟨a, C, dx, _, v, rfl, hH, (hP C pC).1, (hP C pC).2, lv, ⟨y, μ1, hq, n1, R1.rel, rv⟩⟩⟩
theorem sj_fld {pos' : Pos} (hP : ∀ C, P C → Cls X.K C ∧ NoAttr X.K C f) (ho : EJ X G W o mo) (he : EJ X G W e ma) (hs : swapsWith e (some (.Attribute o f pos')) pos.line X.env = pure false := by rfl) : SJ X G W (.Assign [.Attribute o f pos'] e pos) (mSFld P f ma mo) := ⟨fun Dn σ μ q Z σv H R x => by
  refine toS (ps_fld pS pS hs) ?_
  refine he.then q R (x.at R) fun d μ1 v1 H1 h1 n1 R1 x1 r1 => ?_
  refine ho.then h1 R1 x1 fun d2 μ2 v2 H2 h2 n2 R2 x2 r2 => ?_
  obtain ⟨p, C, ns, ds, rfl, hm, pC, hl, hq⟩ := h2
  obtain ⟨dx, xs, hH, l, rl⟩ := R2.rel.co hm
  cases rp_raw.mp r2
  have lx : ns.length = xs.length := l.trans rl.length.symm
  refine ⟨p, C, dx, _, rfl, hH, (hP C pC).1, (hP C pC).2, ?_, ?_⟩
  · rw [List.length_zip]; omega
  · have n3 : Nx μ2 H2 (sset μ2 p (.ins C (fpN f ns) (fpD f d ns ds))) (upd H2 p (.ins C dx (putF f v1 (ns.zip xs)))) := Nx.wr hm
    refine ⟨σ, _, hq, n1.trans (n2.trans n3), R2.go n3 (R2.rel.wr hm ⟨dx, _, by rw [upd_same, putF_zip f v1 lx], fpD_len f d l, RpL.fp f (Rp.keep (n2.trans n3) _ _ r1) l (RpL.keep n3 _ _ rl)⟩)⟩⟩

def mAug (i : Nat) (f : Int → Int → Int) (m : ME) : MS := fun Dn σ μ => match σ[i]? with
  | some (some (.int a)) => m σ μ (fun d μ1 => match d with
    | .int b => Dn.nx (σ.set i (some (.int (f a b)))) μ1
    | _ => False) (exAt Dn σ)
  | _ => False
theorem sj_aug {i : Nat} {x : Str} {op : Operator} {f : Int → Int → Int} {pos' : Pos} (hN : X.N.Nodup) (ho : PIp X op (ipI f)) (he : EJ X G W e ma) (hi : X.N[i]? = some x := by rfl) (hx : Loc X.env.scope x := by first | exact Or.inl rfl | exact Or.inr rfl)
    (hf : X.fn x = true ∨ X.env.scope.names.lookup x = some .local := by first | exact .inl rfl | exact .inr rfl | assumption) : SJ X G W (.AugAssign (.Name x pos') op e pos) (mAug i f ma) := ⟨fun Dn σ μ q Z σv H R x => by
  refine toS (ps_aug hN hi hx pS ho hf) ?_
  unfold mAug at q
  split at q
  · rename_i a e
    obtain ⟨v, ev, rv⟩ := R.sl.2 i _ e
    cases rp_int.mp rv
    refine ⟨_, ev, he.then q R (x.at R) fun d μ1 v1 H1 h1 n1 R1 x1 r1 => ?_⟩
    split at h1
    · exact ⟨a, _, rfl, rp_int.mp r1, _, μ1, h1, n1, R1.set i rp_int'⟩
    · exact h1.elim
  · exact q.elim⟩
def mSub (me mo mi : ME) : MS := fun Dn σ μ => me σ μ (fun y μ1 => mo σ μ1 (fun d μ2 => mi σ μ2 (fun k μ3 => ∃ p ds i j, d = .raw (.ref p) ∧ k = .int i ∧ μ3 p = some (.lst ds) ∧ ixN ds.length i = some j ∧ Dn.nx σ (sset μ3 p (.lst (ds.set j y)))) (exAt Dn σ)) (exAt Dn σ)) (exAt Dn σ)
theorem sj_sub {i : Expr} {mi : ME} {pos' : Pos} (ho : EJ X G W o mo) (hi : EJ X G W i mi) (he : EJ X G W e ma)
    (ha : ∀ v, assign (.Subscript o i pos') X.env v = (do
      let ov ← holding [v] (eval o X.env)
      let iv ← holding [v, ov] (eval i X.env)
      standAt pos'
      holding [v, ov, iv] (setItem ov iv v)
      release [v, ov, iv] []) := by intro _; rfl)
    (hs : swapsWithSole [.Subscript o i pos'] e pos.line X.env = pure false := by rfl) (hw : swappedStores [.Subscript o i pos'] e X.env = pure none := by rfl)
    (h1 : (assignEach [.Subscript o i pos'] X.env).map (·.2) = [assign (.Subscript o i pos') X.env] := by rfl) : SJ X G W (.Assign [.Subscript o i pos'] e pos) (mSub ma mo mi) := ⟨fun Dn σ μ q Z σv H R x => by
  refine toS (ps_asg pS (pg_sub pS pS set_list ha) hs hw h1) ?_
  refine he.then q R (x.at R) fun y μ1 v1 H1 h1 n1 R1 x1 r1 => ?_
  refine ho.then h1 R1 x1 fun d μ2 v2 H2 h2 n2 R2 x2 r2 => ?_
  refine hi.then h2 R2 x2 fun k μ3 v3 H3 h3 n3 R3 x3 r3 => ?_
  obtain ⟨p, ds, i, j, rfl, rfl, hm, hj, hq⟩ := h3
  obtain ⟨xs, hH, rl⟩ := R3.rel.co hm
  cases rp_raw.mp r2
  have n4 : Nx μ3 H3 (sset μ3 p (.lst (ds.set j y))) (upd H3 p (.lst (xs.set j v1))) := Nx.wr hm
  refine ⟨p, xs, i, j, rfl, rp_int.mp r3, hH, by rw [rl.length]; exact hj, σ, _, hq, n1.trans (n2.trans (n3.trans n4)), R3.go n4 (R3.rel.wr hm ⟨_, upd_same, RpL.set (Rp.keep (n2.trans (n3.trans n4)) _ _ r1) j (RpL.keep n4 _ _ rl)⟩)⟩⟩
end

structure ItSim (K : PySem.W.Frag) (J : It) (ds : List D) (Ok : (Addr → Prop) → Sto → Hp → Prop) : Prop where
  st : ∀ {Z μ H μ' H'}, Ok Z μ H → Nx μ H μ' H' → Ok Z μ' H'
  go : ∀ {Z} {i : Nat} {μ H}, i < ds.length → Ok Z μ H → J.go i H
  stop : ∀ {Z μ H}, Ok Z μ H → J.stop ds.length H
  yld : ∀ {Z} {i : Nat} {μ H d x H'}, ds[i]? = some d → Rel ⟨K, Z⟩ μ H → Ok Z μ H → J.yld i H x H' → Nx μ H μ H' ∧ Rel ⟨K, Z⟩ μ H' ∧ Rp ⟨K, Z⟩ μ H' d x
  hide : ∀ {Z μ H p o}, H p = none → Ok Z μ H → Ok (hid Z p) μ (upd H p o)
  hup : ∀ {Z μ H p u}, Ok (hid Z p) μ H → Ok (hid Z p) μ (upd H p u)
abbrev MI := SD → Sto → (List D → Sto → Prop) → ExD → Prop
def iS (X : Cx) (tg iter : Expr) : TI := fun σ H R => ∀ pins s, Inv X pins σ H s → wpAny (model X.prog X.w) X.A (eval iter X.env) (fun v s1 => wpAny (model X.prog X.w) X.A (pyIter v) (PIE X pins σ tg R) X.xe s1) X.xe s
def QI (K : KZ) (μ : Sto) (H : Hp) (P : List D → Sto → Prop) : It → Hp → Prop := fun J H' => ∃ ds μ' Ok, P ds μ' ∧ Nx μ H μ' H' ∧ Rel K μ' H' ∧ Ok K.Z μ' H' ∧ ItSim K.K J ds Ok
structure IJ (X : Cx) (G : GI) (W : WX) (tg iter : Expr) (m : MI) : Prop where
  run : ∀ σ μ P E, m σ μ P E → ∀ Z σv H, RS (kz X Z) G σ μ σv H → XW (kz X Z) μ H E (fun c d H' => W c d σv H') → iS X tg iter σv H (QI (kz X Z) μ H P)
section
variable {X : Cx} {G : GI} {W : WX} {pos : Pos} {tg e o iter : Expr} {ts es : List Expr} {ma mo : ME} {mas : MA} {g : MG} {gs : MGs} {σ : L2.St} {H : Hp}
theorem piS : PI X tg iter (iS X tg iter) := ⟨fun pins s σ H R I h => h pins s I⟩
theorem toI {t : TI} (h : PI X tg iter t) {R : It → Hp → Prop} (q : t σ H R) : iS X tg iter σ H R := fun pins s I => h.run pins s σ H R I q
theorem sim_list {K : PySem.W.Frag} {a : Addr} {ds : List D} {xs : List V} : ItSim K (Itl K a) ds (fun Z μ H => (SL ⟨K, Z⟩ μ H a xs ∨ SLs ⟨K, Z⟩ μ H a xs) ∧ RpL ⟨K, Z⟩ μ H ds xs) where
  hide := fun hp h => ⟨h.1.elim (fun h => .inl (h.hide hp)) fun h => .inr (h.hide hp), RpL.hide hp _ _ h.2⟩
  hup := fun h => ⟨h.1.elim (fun h => .inl h.hup) fun h => .inr h.hup, RpL.hup _ _ h.2⟩
  st := fun h n => ⟨h.1.elim (fun h => .inl (h.keep n)) fun h => .inr (h.keep n), RpL.keep n _ _ h.2⟩
  go := fun {Z i μ H} h ok => by
    have hs : SqL K H a xs := ok.1.elim SL.seq SLs.seq
    have hl := ok.2.length
    exact ⟨xs, xs[i]'(by omega), hs, List.getElem?_eq_getElem _⟩
  stop := fun {Z μ H} ok => ⟨xs, ok.1.elim SL.seq SLs.seq, by rw [ok.2.length]; exact Nat.le_refl _⟩
  yld := fun {Z i μ H d x H'} e R ok y => by
    obtain ⟨eH, y⟩ := y
    subst eH
    obtain ⟨v, hv, rv⟩ := ok.2.get e
    have := y xs (ok.1.elim SL.seq SLs.seq)
    rw [hv] at this
    cases this
    exact ⟨Nx.refl _ _, R, rv⟩
def mIL (m : ME) : MI := fun σ μ P E => m σ μ (fun d μ1 => match d with
  | .lst ds => P ds μ1
  | .scr ds => P ds μ1
  | _ => False) E
theorem ij_list (he : EJ X G W e ma) : IJ X G W tg e (mIL ma) := ⟨fun σ μ P E q Z σv H R x => by
  refine toI (pi_list pS) ?_
  refine he.then q R x fun d μ1 v1 H1 h1 n1 R1 x1 r1 => ?_
  split at h1
  · rename_i ds
    obtain ⟨a, xs, rfl, s, l⟩ := rp_lst.mp r1
    exact ⟨a, rfl, ⟨xs, s.seq⟩, ds, μ1, _, h1, n1, R1.rel, ⟨.inl s, l⟩, sim_list⟩
  · rename_i ds
    obtain ⟨a, xs, rfl, s, l⟩ := rp_scr.mp r1
    exact ⟨a, rfl, ⟨xs, s.seq⟩, ds, μ1, _, h1, n1, R1.rel, ⟨.inr s, l⟩, sim_list⟩
  · exact h1.elim⟩
theorem sim_tup {K : PySem.W.Frag} {a : Addr} {ds : List D} {xs : List V} : ItSim K (Itt K a) ds (fun Z μ H => ST ⟨K, Z⟩ μ H a xs ∧ RpL ⟨K, Z⟩ μ H ds xs) where
  hide := fun hp h => ⟨h.1.hide hp, RpL.hide hp _ _ h.2⟩
  hup := fun h => ⟨h.1.hup, RpL.hup _ _ h.2⟩
  st := fun h n => ⟨h.1.keep n, RpL.keep n _ _ h.2⟩
  go := fun {Z i μ H} h ok => by
    have hl := ok.2.length
    exact ⟨xs, xs[i]'(by omega), ok.1.seq, List.getElem?_eq_getElem _⟩
  stop := fun {Z μ H} ok => ⟨xs, ok.1.seq, by rw [ok.2.length]; exact Nat.le_refl _⟩
  yld := fun {Z i μ H d x H'} e R ok y => by
    obtain ⟨eH, y⟩ := y
    subst eH
    obtain ⟨v, hv, rv⟩ := ok.2.get e
    have := y xs ok.1.seq
    rw [hv] at this
    cases this
    exact ⟨Nx.refl _ _, R, rv⟩
def mIT (m : ME) : MI := fun σ μ P E => m σ μ (fun d μ1 => match d with
  | .tup ds => P ds μ1
  | _ => False) E
theorem ij_tup (he : EJ X G W e ma) : IJ X G W tg e (mIT ma) := ⟨fun σ μ P E q Z σv H R x => by
  refine toI (pi_tup pS) ?_
  refine he.then q R x fun d μ1 v1 H1 h1 n1 R1 x1 r1 => ?_
  split at h1
  · rename_i ds
    obtain ⟨a, xs, rfl, s, l⟩ := rp_tup.mp r1
    exact ⟨a, rfl, ⟨xs, s.seq⟩, ds, μ1, _, h1, n1, R1.rel, ⟨s, l⟩, sim_tup⟩
  · exact h1.elim⟩
def rngD (lo : Int) (n : Nat) : List D := (List.range n).map fun (i : Nat) => D.int (lo + i)
theorem rngD_len {lo : Int} {n : Nat} : (rngD lo n).length = n := by simp [rngD]
theorem rngD_get {lo : Int} {n i : Nat} {d : D} (h : (rngD lo n)[i]? = some d) : d = .int (lo + i) ∧ i < n := by
  unfold rngD at h
  rw [List.getElem?_map] at h
  by_cases hi : i < n
  · rw [List.getElem?_range hi] at h
    simp at h
    exact ⟨h.symm, hi⟩
  · rw [List.getElem?_eq_none (by simpa using hi)] at h
    cases h
theorem sim_rng {K : PySem.W.Frag} {lo : Int} {n : Nat} : ItSim K (Itr lo n) (rngD lo n) (fun _ _ _ => True) where
  hide := fun _ h => h
  hup := fun h => h
  st := fun h _ => h
  go := fun {Z i μ H} h _ => by rw [rngD_len] at h; exact h
  stop := fun _ => by rw [rngD_len]; exact Nat.le_refl _
  yld := fun {Z i μ H d x H'} e R _ y => by
    obtain ⟨eH, y⟩ := y
    subst eH
    subst y
    rw [(rngD_get e).1]
    exact ⟨Nx.refl _ _, R, rp_int'⟩
def mIR1 (m : ME) : MI := fun σ μ P E => m σ μ (fun d μ1 => match d with
  | .int n => -(2 ^ 62) ≤ n ∧ n < 2 ^ 62 ∧ P (rngD 0 n.toNat) μ1
  | _ => False) E
theorem aj1 (he : EJ X G W e ma) {σ : SD} {μ : Sto} {E : ExD} {Z : Addr → Prop} {σv : L2.St} {H : Hp} {P : QD} {Q : List V → Hp → Prop} (hm : ma σ μ P E) (R : RS (kz X Z) G σ μ σv H) (x : XW (kz X Z) μ H E (fun c d H' => W c d σv H'))
    (k : ∀ d μ1 v H1, P d μ1 → Nx μ H μ1 H1 → RS (kz X Z) G σ μ1 σv H1 → Rp (kz X Z) μ1 H1 d v → Q [v] H1) (hs : starEach [e] X.env = (false, eval e X.env) :: starEach [] X.env := by rfl) : aS X [e] σv H Q := by
  refine toA (pa_cons pS pa_nil hs) ?_
  exact he.then hm R x fun d μ1 v H1 h1 n1 R1 x1 r1 => k d μ1 v H1 h1 n1 R1 r1
theorem ij_range1 {p : Pos} (hg : Gl X "range") (hm : X.mg "range" = none) (he : EJ X G W e ma) (hs : starEach [e] X.env = [(false, eval e X.env)] := by rfl) : IJ X G W tg (.Call (.Name "range" p) [e] [] pos) (mIR1 ma) := ⟨fun σ μ P E q Z σv H R x => by
  refine toI (pi_range1 hg hm paS hs) ?_
  refine aj1 he q R x (fun d μ1 v H1 h1 n1 R1 r1 => ?_) hs
  split at h1
  · rename_i n
    cases rp_int.mp r1
    exact ⟨n, rfl, h1.1, h1.2.1, _, μ1, _, h1.2.2, n1, R1.rel, trivial, sim_rng⟩
  · exact h1.elim⟩
def enumD (ds : List D) : List D := ds.zipIdx.map fun p => .tup [.int (p.2 : Nat), p.1]
theorem enumD_len {ds : List D} : (enumD ds).length = ds.length := by simp [enumD]
theorem enumD_get {ds : List D} {i : Nat} {d : D} (h : (enumD ds)[i]? = some d) : ∃ x, ds[i]? = some x ∧ d = .tup [.int (i : Nat), x] := by
  unfold enumD at h
  rw [List.getElem?_map, List.getElem?_zipIdx] at h
  cases e : ds[i]? with
  | none => rw [e] at h; cases h
  | some x =>
    rw [e] at h
    simp at h
    exact ⟨x, rfl, h.symm⟩
theorem new_tup {K : KZ} {μ : Sto} {H : Hp} {ds : List D} {xs : List V} {p : Addr} (R : Rel K μ H) (hp : H p = none) (r : RpL K μ H ds xs) : Nx μ H μ (upd H p (.tup xs)) ∧ Rel K μ (upd H p (.tup xs)) ∧ Rp K μ (upd H p (.tup xs)) (.tup ds) (.ref p) :=
  ⟨Nx.new R hp, R.new hp, rp_tup.mpr ⟨p, xs, rfl, .inl ⟨.inl upd_same, R.frz hp⟩, RpL.keep (Nx.new R hp) _ _ r⟩⟩
theorem sim_enum {K : PySem.W.Frag} {a : Addr} {ds : List D} {xs : List V} : ItSim K (Ite K a) (enumD ds) (fun Z μ H => SL ⟨K, Z⟩ μ H a xs ∧ RpL ⟨K, Z⟩ μ H ds xs) where
  hide := fun hp h => ⟨h.1.hide hp, RpL.hide hp _ _ h.2⟩
  hup := fun h => ⟨h.1.hup, RpL.hup _ _ h.2⟩
  st := fun h n => ⟨h.1.keep n, RpL.keep n _ _ h.2⟩
  go := fun {Z i μ H} h ok => by
    have hl := ok.2.length
    rw [enumD_len] at h
    exact ⟨xs, xs[i]'(by omega), ok.1.seq, List.getElem?_eq_getElem _⟩
  stop := fun {Z μ H} ok => ⟨xs, ok.1.seq, by rw [ok.2.length, enumD_len]; exact Nat.le_refl _⟩
  yld := fun {Z i μ H d x H'} e R ok y => by
    obtain ⟨y0, hy, rfl⟩ := enumD_get e
    obtain ⟨T, x0, rfl, hT, rfl, hx⟩ := y
    obtain ⟨v, hv, rv⟩ := ok.2.get hy
    have := hx xs ok.1.seq
    rw [hv] at this
    cases this
    exact new_tup R hT (RpL.cons rp_int' (RpL.cons rv RpL.nil))
def mIE (m : ME) : MI := fun σ μ P E => m σ μ (fun d μ1 => match d with
  | .lst ds => P (enumD ds) μ1
  | _ => False) E
theorem ij_enum {p tpos : Pos} {elts : List Expr} {kk : Nat} (hg : Gl X "enumerate") (hm : X.mg "enumerate" = none) (he : EJ X G W e ma) (hs : starEach [e] X.env = [(false, eval e X.env)] := by rfl) :
    IJ X G W (.Tuple elts kk tpos) (.Call (.Name "enumerate" p) [e] [] pos) (mIE ma) := ⟨fun σ μ P E q Z σv H R x => by
  refine toI (pi_enum hg hm paS hs) ?_
  refine aj1 he q R x (fun d μ1 v H1 h1 n1 R1 r1 => ?_) hs
  split at h1
  · obtain ⟨a, xs, rfl, s, l⟩ := rp_lst.mp r1
    exact ⟨a, xs, rfl, s.seq, _, μ1, _, h1, n1, R1.rel, ⟨s, l⟩, sim_enum⟩
  · exact h1.elim⟩
def zipD (ds es : List D) : List D := (ds.zip es).map fun p => .tup [p.1, p.2]
theorem zipD_len {ds es : List D} : (zipD ds es).length = min ds.length es.length := by simp [zipD]
theorem zipD_get {ds es : List D} {i : Nat} {d : D} (h : (zipD ds es)[i]? = some d) : ∃ x y, ds[i]? = some x ∧ es[i]? = some y ∧ d = .tup [x, y] := by
  unfold zipD at h
  rw [List.getElem?_map] at h
  cases e : (ds.zip es)[i]? with
  | none => rw [e] at h; cases h
  | some p =>
    rw [e] at h
    obtain ⟨x, y⟩ := p
    have := List.getElem?_zip_eq_some.mp e
    simp at h
    exact ⟨x, y, this.1, this.2, h.symm⟩
theorem sim_zip {K : PySem.W.Frag} {a b : Addr} {ds es : List D} {xs ys : List V} : ItSim K (Itz K a b) (zipD ds es) (fun Z μ H => (SL ⟨K, Z⟩ μ H a xs ∧ RpL ⟨K, Z⟩ μ H ds xs) ∧ SL ⟨K, Z⟩ μ H b ys ∧ RpL ⟨K, Z⟩ μ H es ys) where
  hide := fun hp h => ⟨⟨h.1.1.hide hp, RpL.hide hp _ _ h.1.2⟩, h.2.1.hide hp, RpL.hide hp _ _ h.2.2⟩
  hup := fun h => ⟨⟨h.1.1.hup, RpL.hup _ _ h.1.2⟩, h.2.1.hup, RpL.hup _ _ h.2.2⟩
  st := fun h n => ⟨⟨h.1.1.keep n, RpL.keep n _ _ h.1.2⟩, h.2.1.keep n, RpL.keep n _ _ h.2.2⟩
  go := fun {Z i μ H} h ok => by
    have h1 := ok.1.2.length
    have h2 := ok.2.2.length
    rw [zipD_len] at h
    exact ⟨xs, ys, xs[i]'(by omega), ys[i]'(by omega), ok.1.1.seq, ok.2.1.seq, List.getElem?_eq_getElem _, List.getElem?_eq_getElem _⟩
  stop := fun {Z μ H} ok => ⟨xs, ys, ok.1.1.seq, ok.2.1.seq, by rw [ok.1.2.length, ok.2.2.length, zipD_len]; omega⟩
  yld := fun {Z i μ H d x H'} e R ok y => by
    obtain ⟨d1, d2, h1, h2, rfl⟩ := zipD_get e
    obtain ⟨T, x0, y0, rfl, hT, rfl, hx, hy⟩ := y
    obtain ⟨v, hv, rv⟩ := ok.1.2.get h1
    obtain ⟨w, hw, rw'⟩ := ok.2.2.get h2
    have q1 := hx xs ok.1.1.seq
    have q2 := hy ys ok.2.1.seq
    rw [hv] at q1
    rw [hw] at q2
    cases q1
    cases q2
    exact new_tup R hT (RpL.cons rv (RpL.cons rw' RpL.nil))
def mIZ (m : MA) : MI := fun σ μ P E => m σ μ (fun ds μ1 => match ds with
  | [.lst xs, .lst ys] => P (zipD xs ys) μ1
  | _ => False) E
theorem ij_zip {e2 : Expr} {p tpos : Pos} {elts : List Expr} {kk : Nat} (hg : Gl X "zip") (hm : X.mg "zip" = none) (ha : AJ X G W [e, e2] mas)
    (hs : starEach [e, e2] X.env = (false, eval e X.env) :: starEach [e2] X.env := by rfl) (hpl : (backTo pos (starEach [e2] X.env)).any (·.1) = false := by rfl) :
    IJ X G W (.Tuple elts kk tpos) (.Call (.Name "zip" p) [e, e2] [] pos) (mIZ mas) := ⟨fun σ μ P E q Z σv H R x => by
  refine toI (pi_zip hg hm paS hs hpl) ?_
  refine ha.then q R x fun ds μ1 vs H1 h1 n1 R1 x1 r1 => ?_
  split at h1
  · rename_i xs ys
    obtain ⟨v, r, rfl, q1, q2⟩ := rpl_cons.mp r1
    obtain ⟨w, r', rfl, q3, q4⟩ := rpl_cons.mp q2
    cases rpl_nil.mp q4
    obtain ⟨a, vs, rfl, s, l⟩ := rp_lst.mp q1
    obtain ⟨b, ws, rfl, s', l'⟩ := rp_lst.mp q3
    exact ⟨a, b, vs, ws, rfl, s.seq, s'.seq, _, μ1, _, h1, n1, R1.rel, ⟨⟨s, l⟩, s', l'⟩, sim_zip⟩
  · exact h1.elim⟩

def Wk (P : SD → Sto → Prop) : SD → Sto → Prop := fun σ' μ' => ∃ σ'' μ'', SubS σ'' σ' ∧ Sub μ'' μ' ∧ P σ'' μ''
theorem Wk.mk {P : SD → Sto → Prop} {σ : SD} {μ : Sto} (h : P σ μ) : Wk P σ μ := ⟨σ, μ, SubS.refl σ, Sub.refl μ, h⟩
def mFor (mi : MI) (g : MG) (mb : MS) : MS := fun Dn σ μ => mi σ μ (fun ds μ1 => ∃ P : Nat → SD → Sto → Prop, P 0 σ μ1 ∧
  (∀ i d σ' μ', ds[i]? = some d → P i σ' μ' → g d σ' μ' (fun σ2 μ2 => mb { Dn with nx := Wk (P (i + 1)), ct := Wk (P (i + 1)), bk := Dn.nx } σ2 μ2)) ∧ (∀ σ' μ', P ds.length σ' μ' → Dn.nx σ' μ')) (exAt Dn σ)
theorem sj_for {body : List Stmt} {mi : MI} {mb : MS} (hp : PassesOwn (model X.prog X.w) X.A X.env X.xe) (hc : X.calm = true) (hi : IJ X G W tg iter mi) (hg : GJ X G tg g) (hb : SJs X G W body mb)
    (hs : ∀ x, foldedSetIterable iter X.env x = pure x := by intro _; rfl) : SJ X G W (.For tg iter body [] pos) (mFor mi g mb) := ⟨fun Dn σ μ q Z σv H R x => by
  refine toS (ps_for hp hc piS pgS pssS hs) ?_
  refine fun pins s I => ?_
  refine thn (hi.run σ μ _ _ q Z σv H R (x.at R) pins s I) fun v s1 h1 => thn h1 fun itv s2 h2 => ?_
  obtain ⟨it, fp, tn, J, H', e1, I2, T, t0, hf, ds, μ1, Ok, ⟨P, p0, hturn, hend⟩, n1, rl1, ok1, sim⟩ := h2
  refine ⟨it, fp, tn, J, H', e1, I2, T, t0, hf, ?_⟩
  refine ⟨fun i m σv' H2 => m = ds.length - i ∧ i ≤ ds.length ∧ ∃ σ' μ', P i σ' μ' ∧ Nx μ H μ' H2 ∧ RS (kz X Z) G σ' μ' σv' H2 ∧ Ok Z μ' H2, ⟨ds.length, by simp, Nat.zero_le _, σ, μ1, p0, n1, R.go n1 rl1, ok1⟩, ?_⟩
  rintro i m σv' H2 ⟨rfl, hi', σ', μ', p, n2, R2, ok2⟩
  by_cases hlt : i < ds.length
  · refine .inr ⟨sim.go hlt ok2, fun σv3 H3 => ∃ σ3 μ3, P (i + 1) σ3 μ3 ∧ Nx μ H μ3 H3 ∧ RS (kz X Z) G σ3 μ3 σv3 H3 ∧ Ok Z μ3 H3, fun σv3 H3 ⟨σ3, μ3, p3, n3, R3, ok3⟩ => ⟨ds.length - (i + 1), by omega, rfl, hlt, σ3, μ3, p3, n3, R3, ok3⟩, fun xv H3 hy => ?_⟩
    have hd : ds[i]? = some ds[i] := List.getElem?_eq_getElem hlt
    obtain ⟨n3, rl3, rx⟩ := sim.yld hd R2.rel ok2 hy
    have R3 := R2.go n3 rl3
    refine (hg.run _ σ' μ' _ (hturn i _ σ' μ' hd p) Z σv' H3 xv R3 rx).mono fun σv4 H4 ⟨σ4, μ4, q4, n4, R4⟩ => ?_
    have nn := n2.trans (n3.trans n4)
    have wk : ∀ σv5 H5, QS (kz X Z) G μ4 H4 (Wk (P (i + 1))) σv5 H5 → ∃ σ3 μ3, P (i + 1) σ3 μ3 ∧ Nx μ H μ3 H5 ∧ RS (kz X Z) G σ3 μ3 σv5 H5 ∧ Ok Z μ3 H5 := by
      rintro σv5 H5 ⟨σ5, μ5, ⟨σ6, μ6, sb, su, p6⟩, n5, R5⟩
      exact ⟨σ6, μ6, p6, nn.trans (n5.trans (Nx.sub su)), R5.sub sb su, sim.st ok2 (n3.trans (n4.trans (n5.trans (Nx.sub su))))⟩
    refine (hb.run { Dn with nx := Wk (P (i + 1)), ct := Wk (P (i + 1)), bk := Dn.nx } σ4 μ4 q4 Z σv4 H4 R4 (x.on nn)).mono ⟨wk, fun v H' h => h.back nn, fun σ' H' h => h.back nn, wk⟩
  · have e : i = ds.length := by omega
    subst e
    exact .inl ⟨sim.stop ok2, σ', μ', hend σ' μ' p, n2, R2⟩⟩
def mWhile (mt : MT) (mb : MS) : MS := fun Dn σ μ => ∃ P : Nat → SD → Sto → Prop, (∃ m, P m σ μ) ∧ ∀ m σ' μ', P m σ' μ' →
  mt σ' μ' (fun b μ2 => if b = true then mb { Dn with nx := Wk (fun σ3 μ3 => ∃ m', m' < m ∧ P m' σ3 μ3), ct := Wk (fun σ3 μ3 => ∃ m', m' < m ∧ P m' σ3 μ3), bk := Dn.nx } σ' μ2 else Dn.nx σ' μ2) (exAt Dn σ')
theorem sj_while {c : Expr} {body : List Stmt} {mt : MT} {mb : MS} (hp : PassesOwn (model X.prog X.w) X.A X.env X.xe) (hc : TJ X G W c mt) (hb : SJs X G W body mb) : SJ X G W (.While c body [] pos) (mWhile mt mb) := ⟨fun Dn σ μ q Z σv H R x => by
  refine toS (ps_while hp ptS pssS) ?_
  obtain ⟨P, ⟨m0, p0⟩, turn⟩ := q
  refine ⟨fun m σv' H2 => ∃ σ' μ', P m σ' μ' ∧ Nx μ H μ' H2 ∧ RS (kz X Z) G σ' μ' σv' H2, ⟨m0, σ, μ, p0, Nx.refl _ _, R⟩, ?_⟩
  rintro m σv' H2 ⟨σ', μ', p, n2, R2⟩
  refine hc.then (turn m σ' μ' p) R2 ((x.on n2).at R2) fun b μ3 H3 h3 n3 R3 x3 => ?_
  have nn := n2.trans n3
  by_cases z : b = true
  · rw [if_pos z] at h3 ⊢
    refine ⟨fun σv4 H4 => ∃ m', m' < m ∧ ∃ σ' μ', P m' σ' μ' ∧ Nx μ H μ' H4 ∧ RS (kz X Z) G σ' μ' σv4 H4, fun _ _ h => h, ?_⟩
    have wk : ∀ σv5 H5, QS (kz X Z) G μ3 H3 (Wk (fun σ3 μ3 => ∃ m', m' < m ∧ P m' σ3 μ3)) σv5 H5 → ∃ m', m' < m ∧ ∃ σ' μ', P m' σ' μ' ∧ Nx μ H μ' H5 ∧ RS (kz X Z) G σ' μ' σv5 H5 := by
      rintro σv5 H5 ⟨σ5, μ5, ⟨σ6, μ6, sb, su, m', hm, p6⟩, n5, R5⟩
      exact ⟨m', hm, σ6, μ6, p6, nn.trans (n5.trans (Nx.sub su)), R5.sub sb su⟩
    exact (hb.run _ σ' μ3 h3 Z σv' H3 R3 (x.on nn)).mono ⟨wk, fun v H' h => h.back nn, fun σ' H' h => h.back nn, wk⟩
  · rw [if_neg z] at h3 ⊢
    exact ⟨σ', μ3, h3, nn, R3⟩⟩
end
end TL

namespace TL
open PySem PySem.Spec PyProof.Rows L2

def wipeD (σ : SD) : List Nat → SD
  | [] => σ
  | v :: vs => (wipeD σ vs).set v none
theorem Sl.setN {K : KZ} {μ : Sto} {H : Hp} {σ : SD} {σv : L2.St} (s : Sl K μ H σ σv) (i : Nat) : Sl K μ H (σ.set i none) (σv.set i none) := by
  refine ⟨by simpa using s.1, fun j e h => ?_⟩
  by_cases q : i = j
  · subst q
    by_cases hj : i < σ.length
    · rw [List.getElem?_set_self hj] at h; cases h
    · rw [List.getElem?_eq_none (by simpa using hj)] at h; cases h
  · rw [List.getElem?_set_ne q] at h
    rw [List.getElem?_set_ne q]
    exact s.2 j e h
theorem Sl.wipe {K : KZ} {μ : Sto} {H : Hp} {σ : SD} {σv : L2.St} (s : Sl K μ H σ σv) : ∀ vs, Sl K μ H (wipeD σ vs) (L2.wipe σv vs)
  | [] => s
  | v :: vs => (s.wipe vs).setN v
theorem Sl.hide {K : PySem.W.Frag} {Z : Addr → Prop} {μ : Sto} {H : Hp} {σ : SD} {σv : L2.St} {p : Addr} {o : HO} (hp : H p = none) (s : Sl ⟨K, Z⟩ μ H σ σv) : Sl ⟨K, hid Z p⟩ μ (upd H p o) σ σv := ⟨s.1, fun i d e => let ⟨v, h, r⟩ := s.2 i d e; ⟨v, h, Rp.hide hp _ _ r⟩⟩
theorem Sl.hup {K : PySem.W.Frag} {Z : Addr → Prop} {μ : Sto} {H : Hp} {σ : SD} {σv : L2.St} {p : Addr} {u : HO} (s : Sl ⟨K, hid Z p⟩ μ H σ σv) : Sl ⟨K, hid Z p⟩ μ (upd H p u) σ σv := ⟨s.1, fun i d e => let ⟨v, h, r⟩ := s.2 i d e; ⟨v, h, Rp.hup _ _ r⟩⟩
def noE : ExD := fun _ _ _ => False
def W0 : WX := fun _ _ _ _ => False
abbrev blkX (X : Cx) (scope : Scope) (s : Shared) (H : Hp) (C : Addr) (cl : List (Str × Addr)) (fp : List Addr) : Cx := X.blk s H scope (compEnvC scope cl C X.env) fp
structure GW (X : Cx) (G : GI) (tg : Expr) (gv : TG) (g : MG) (vs : List Nat) : Prop where
  pg : PG X tg gv
  sim : ∀ d σ μ Q, g d σ μ Q → ∀ Z σv H v (Q' : L2.St → Hp → Prop), RS (kz X Z) G σ μ σv H → Rp (kz X Z) μ H d v →
    (∀ σ' μ' σv' H', Q σ' μ' → Nx μ H μ' H' → RS (kz X Z) G σ' μ' σv' H' → σv'.length = σv.length → (∀ j, j ∉ vs → σv'[j]? = σv[j]?) → Q' σv' H') → gv v σv H Q'
structure GWs (X : Cx) (G : GI) (ts : List Expr) (gv : TGs) (g : MGs) (vs : List Nat) : Prop where
  pg : PGs X ts gv
  sim : ∀ ds σ μ Q, g ds σ μ Q → ∀ Z σv H xs (Q' : L2.St → Hp → Prop), RS (kz X Z) G σ μ σv H → RpL (kz X Z) μ H ds xs →
    (∀ σ' μ' σv' H', Q σ' μ' → Nx μ H μ' H' → RS (kz X Z) G σ' μ' σv' H' → σv'.length = σv.length → (∀ j, j ∉ vs → σv'[j]? = σv[j]?) → Q' σv' H') → gv xs σv H Q'
section
variable {X : Cx} {G : GI} {pos : Pos} {tg : Expr} {ts : List Expr} {g : MG} {gs : MGs} {gv : TG} {gvs : TGs} {vs ws : List Nat}
theorem gw_name (i : Nat) {x : Str} (hN : X.N.Nodup) (hi : X.N[i]? = some x := by rfl) (hx : Loc X.env.scope x := by first | exact Or.inl rfl | exact Or.inr rfl) (hf : X.fn x = true ∨ X.env.scope.names.lookup x = some .local := by first | exact .inl rfl | exact .inr rfl | assumption) : GW X G (.Name x pos) (gName i) (gN i) [i] where
  pg := pg_name hN hi hx hf
  sim := fun d σ μ Q q Z σv H v Q' R r k => k _ μ _ H q (Nx.refl _ _) (R.set i r) (by simp) (fun j hj => by rw [List.getElem?_set_ne (fun e => hj (by simp [e]))])
theorem gws_nil : GWs X G [] gNil gNilD [] where
  pg := pgs_nil
  sim := fun ds σ μ Q q Z σv H xs Q' R r k => by
    cases ds with
    | nil => exact ⟨rpl_nil.mp r, k _ μ _ H q (Nx.refl _ _) R rfl fun _ _ => rfl⟩
    | cons d ds => exact q.elim
theorem gws_cons (h1 : GW X G tg gv g vs) (h2 : GWs X G ts gvs gs ws) (hs : (assignEach (tg :: ts) X.env).map (·.2) = assign tg X.env :: (assignEach ts X.env).map (·.2) := by rfl) : GWs X G (tg :: ts) (gCons gv gvs) (gConsD g gs) (vs ++ ws) where
  pg := pgs_cons h1.pg h2.pg hs
  sim := fun ds σ μ Q q Z σv H xs Q' R r k => by
    cases ds with
    | nil => exact q.elim
    | cons d ds =>
      obtain ⟨v, vr, rfl, r1, r2⟩ := rpl_cons.mp r
      refine ⟨v, vr, rfl, h1.sim d σ μ _ q Z σv H v _ R r1 fun σ1 μ1 σv1 H1 q1 n1 R1 l1 s1 => ?_⟩
      refine h2.sim ds σ1 μ1 Q q1 Z σv1 H1 vr Q' R1 (RpL.keep n1 _ _ r2) fun σ2 μ2 σv2 H2 q2 n2 R2 l2 s2 => ?_
      exact k σ2 μ2 σv2 H2 q2 (n1.trans n2) R2 (l2.trans l1) fun j hj => (s2 j fun z => hj (List.mem_append_right _ z)).trans (s1 j fun z => hj (List.mem_append_left _ z))
theorem gw_tup {k n : Nat} (hc : X.calm = true) (h : GWs X G ts gvs gs vs) (hn : (assignEach ts X.env).length = n := by rfl) (hst : (assignEach ts X.env).findIdx? (·.1) = none := by rfl) {us : List Nat} (hu : vs = us := by rfl) : GW X G (.Tuple ts k pos) (gTup X.K n gvs) (gT n gs) us where
  pg := pg_tup hc h.pg hn hst
  sim := fun d σ μ Q q Z σv H v Q' R r k => by
    subst hu
    unfold gT at q
    split at q
    · rename_i ds
      obtain ⟨a, xs, rfl, s, l⟩ := rp_tup.mp r
      exact ⟨a, xs, rfl, s.seq, by rw [l.length]; exact q.1, h.sim ds σ μ Q q.2 Z σv H xs Q' R l k⟩
    · exact q.elim
theorem GW.gj (h : GW X G tg gv g vs) : GJ X G tg g := ⟨fun d σ μ Q q Z σv H v R r => toG h.pg (h.sim d σ μ Q q Z σv H v _ R r fun σ' μ' σv' H' q n R' _ _ => ⟨σ', μ', q, n, R'⟩)⟩
end
theorem wipe_none {σ : L2.St} {i : Nat} : ∀ {vs : List Nat}, i ∈ vs → i < σ.length → (L2.wipe σ vs)[i]? = some none
  | v :: vs, h, hl => by
    unfold L2.wipe
    by_cases e : v = i
    · subst e
      rw [List.getElem?_set_self (by rw [L2.wipe_length]; exact hl)]
    · rw [List.getElem?_set_ne e]
      rcases List.mem_cons.mp h with z | z
      · exact absurd z.symm e
      · exact wipe_none z hl
theorem wipe_not {σ : L2.St} {i : Nat} : ∀ {vs : List Nat}, i ∉ vs → (L2.wipe σ vs)[i]? = σ[i]?
  | [], _ => rfl
  | v :: vs, h => by
    unfold L2.wipe
    rw [List.getElem?_set_ne (fun e => h (by simp [e]))]
    exact wipe_not fun z => h (List.mem_cons_of_mem _ z)
theorem wipe_idem {σ σ' : L2.St} {vs : List Nat} (hl : σ'.length = σ.length) (h : ∀ j, j ∉ vs → σ'[j]? = (L2.wipe σ vs)[j]?) : L2.wipe σ' vs = L2.wipe σ vs := by
  apply List.ext_getElem?
  intro i
  by_cases hi : i ∈ vs
  · by_cases hlt : i < σ.length
    · rw [wipe_none hi (by omega), wipe_none hi hlt]
    · rw [List.getElem?_eq_none (by rw [L2.wipe_length]; omega), List.getElem?_eq_none (by rw [L2.wipe_length]; omega)]
  · rw [wipe_not hi, h i hi]
def eB (X : Cx) (scope : Scope) (e : Expr) : TE := fun σ H Q => ∀ s H0 C cl fp, tS (blkX X scope s H0 C cl fp) e σ H Q
structure TsJ (X : Cx) (G : GI) (W : WX) (ifs : List Expr) (m : MT) : Prop where
  run : ∀ σ μ Q E, m σ μ Q E → ∀ Z σv H, RS (kz X Z) G σ μ σv H → XW (kz X Z) μ H E (fun c d H' => W c d σv H') → ∀ pins s, Inv X pins σv H s →
    wpAny (model X.prog X.w) X.A (forIn ifs true fun c r => if r = true then do let ok ← isTrue c X.env (eval c X.env); pure (ForInStep.yield ok) else pure (ForInStep.yield r)) (TP X pins σv (QB (kz X Z) μ H Q)) X.xe s
def mYes : MT := fun _ μ Q _ => Q true μ
theorem tsj_nil {X : Cx} {G : GI} {W : WX} : TsJ X G W [] mYes := ⟨fun σ μ Q E q Z σv H R x pins s I => pts_nil.run pins s σv H _ I ⟨μ, q, Nx.refl _ _, R.rel⟩⟩
theorem tsj_one {X : Cx} {G : GI} {W : WX} {c : Expr} {m : MT} (h : TJ X G W c m) : TsJ X G W [c] m := ⟨fun σ μ Q E q Z σv H R x pins s I => (pts_one ptS).run pins s σv H _ I (h.run σ μ Q E q Z σv H R x)⟩
def bsB (X : Cx) (scope : Scope) (ifs : List Expr) : TT := fun σ H Q => ∀ s H0 C cl fp pins s', Inv (blkX X scope s H0 C cl fp) pins σ H s' →
    wpAny (model X.prog X.w) X.A (forIn ifs true fun c r => if r = true then do let ok ← isTrue c (compEnvC scope cl C X.env) (eval c (compEnvC scope cl C X.env)); pure (ForInStep.yield ok) else pure (ForInStep.yield r)) (TP (blkX X scope s H0 C cl fp) pins σ Q) (fun _ _ => False) s'
def mLc (b : Bool) (mi : MI) (g : MG) (mt : MT) (me : ME) (vs : List Nat) : ME := fun σ μ Q E => mi σ μ (fun ds μ1 => ∃ P : Nat → List D → Sto → Prop, P 0 [] μ1 ∧
  (∀ i d acc μ', ds[i]? = some d → P i acc μ' → g d (wipeD σ vs) μ' (fun σ2 μ2 => mt σ2 μ2 (fun b μ3 => if b = true then me σ2 μ3 (fun y μ4 => acc.length < sizeLine ∧ P (i + 1) (acc ++ [y]) μ4) noE else P (i + 1) acc μ3) noE)) ∧
  (∀ acc μ', P ds.length acc μ' → mkL b acc μ' Q)) E
theorem xw0 {K : KZ} {μ : Sto} {H : Hp} {W : XK} : XW K μ H noE W := fun _ _ _ _ _ e => e.elim
theorem mkL_hid {b : Bool} {K : PySem.W.Frag} {Z : Addr → Prop} {μ : Sto} {H : Hp} {Q : QD} {p : Addr} {ds : List D} {xs : List V} (R : Rel ⟨K, hid Z p⟩ μ H) (hp : H p = some (.lst xs)) (hm : μ p = none) (hz : ¬ Z p) (r : RpL ⟨K, hid Z p⟩ μ H ds xs) (q : mkL b ds μ Q)
    {μ0 : Sto} {H0 : Hp} (n : Nx μ0 H0 μ H) (h0 : H0 p = none) : QE ⟨K, Z⟩ μ0 H0 Q (.ref p) H := by
  have r' := RpL.unhide _ _ r
  cases b with
  | false => exact ⟨.lst ds, μ, q, n, R.unhide, rp_lst.mpr ⟨p, xs, rfl, ⟨hp, hm, hz⟩, r'⟩⟩
  | true =>
    have nx : Nx μ0 H0 (sset μ p (.lst ds)) H := fun a o e m => by
      obtain ⟨x, y⟩ := n a o e m
      exact ⟨x, by rw [sset_ne (ne_of_none e h0)]; exact y⟩
    -- the trees don't stand at p
    have keepZ : ∀ (d : D) (v : V), Rp ⟨K, hid Z p⟩ μ H d v → Rp ⟨K, Z⟩ (sset μ p (.lst ds)) H d v := by
      have mv : ∀ a, Fr' ⟨K, hid Z p⟩ μ a → Fr' ⟨K, Z⟩ (sset μ p (.lst ds)) a := fun a f => ⟨by rw [sset_ne (fun z => f.2 (.inr z))]; exact f.1, fun z => f.2 (.inl z)⟩
      intro d
      refine D.rec (motive_1 := fun d => ∀ v, Rp ⟨K, hid Z p⟩ μ H d v → Rp ⟨K, Z⟩ (sset μ p (.lst ds)) H d v) (motive_2 := fun es => ∀ vs, RpL ⟨K, hid Z p⟩ μ H es vs → RpL ⟨K, Z⟩ (sset μ p (.lst ds)) H es vs) ?_ ?_ ?_ ?_ ?_ ?_ ?_ ?_ ?_ ?_ ?_ d
      · intro v h; exact rp_non.mpr (rp_non.mp h)
      · intro b v h; exact rp_bl.mpr (rp_bl.mp h)
      · intro b v h; exact rp_int.mpr (rp_int.mp h)
      · intro b v h; exact rp_str.mpr (rp_str.mp h)
      · intro es ih v h
        obtain ⟨a, vs, e, s, l⟩ := rp_tup.mp h
        exact rp_tup.mpr ⟨a, vs, e, s.elim (fun s => .inl ⟨s.1, mv a s.2⟩) .inr, ih vs l⟩
      · intro es ih v h
        obtain ⟨a, vs, e, s, l⟩ := rp_lst.mp h
        exact rp_lst.mpr ⟨a, vs, e, ⟨s.1, mv a s.2⟩, ih vs l⟩
      · intro es ih v h
        obtain ⟨a, vs, e, s, l⟩ := rp_scr.mp h
        exact rp_scr.mpr ⟨a, vs, e, s.elim (fun s => .inl ⟨s.1, mv a s.2⟩) .inr, ih vs l⟩
      · intro C ns es ih v h
        obtain ⟨a, dx, vs, e, s, f, l, r⟩ := rp_ins.mp h
        exact rp_ins.mpr ⟨a, dx, vs, e, s, mv a f, l, ih vs r⟩
      · intro w v h; exact rp_raw.mpr (rp_raw.mp h)
      · intro vs h; exact rpl_nil.mpr (rpl_nil.mp h)
      · intro d es i1 i2 vs h
        obtain ⟨v, r, e, h1, h2⟩ := rpl_cons.mp h
        exact rpl_cons.mpr ⟨v, r, e, i1 v h1, i2 r h2⟩
    have keepL : ∀ (es : List D) (vs : List V), RpL ⟨K, hid Z p⟩ μ H es vs → RpL ⟨K, Z⟩ (sset μ p (.lst ds)) H es vs := by
      intro es
      induction es with
      | nil => intro vs h; exact rpl_nil.mpr (rpl_nil.mp h)
      | cons d es ih =>
        intro vs h
        obtain ⟨v, r, e, h1, h2⟩ := rpl_cons.mp h
        exact rpl_cons.mpr ⟨v, r, e, keepZ d v h1, ih r h2⟩
    have rl : Rel ⟨K, Z⟩ (sset μ p (.lst ds)) H := ⟨fun a x e => by
      by_cases z : a = p
      · subst z
        rw [sset_same] at e
        cases e
        exact ⟨⟨xs, hp, keepL _ _ r⟩, hz⟩
      · rw [sset_ne z] at e
        refine ⟨?_, fun y => (R.1 a x e).2 (.inl y)⟩
        have c := R.co e
        cases x with
        | lst es => obtain ⟨vs, q1, q2⟩ := c; exact ⟨vs, q1, keepL _ _ q2⟩
        | ins C ns es => obtain ⟨dx, vs, q1, l, q2⟩ := c; exact ⟨dx, vs, q1, l, keepL _ _ q2⟩, fun a y => R.2 a (.inl y)⟩
    exact ⟨.raw (.ref p), _, q p hm, nx, rl, rp_raw'⟩
section
variable {X : Cx} {W : WX} {pos : Pos} {elt tg iter : Expr} {ifs : List Expr} {scope : Scope} {own : List (Str × Nat)} {mi : MI} {g : MG} {gv : TG} {mt : MT} {me : ME}
theorem lcG (b : Bool) (hg : ∀ s H C cl fp, GW (blkX X scope s H C cl fp) G0 tg gv g (own.map (·.2)))
    (ht : ∀ s H C cl fp, TsJ (blkX X scope s H C cl fp) G0 W0 ifs mt) (he : ∀ s H C cl fp, EJ (blkX X scope s H C cl fp) G0 W0 elt me) (hi : IJ X G0 W tg iter mi)
    {σ : SD} {μ : Sto} {Q : QD} {E : ExD} (q : mLc b mi g mt me (own.map (·.2)) σ μ Q E) {Z : Addr → Prop} {σv : L2.St} {H : Hp} (R : RS (kz X Z) G0 σ μ σv H) (x : XW (kz X Z) μ H E (fun c d H' => W c d σv H')) :
    tLc (iS X tg iter) gv (bsB X scope ifs) (eB X scope elt) (own.map (·.2)) σv H (QE (kz X Z) μ H Q) := by
  intro pins s I
  refine thn (hi.run σ μ _ _ q Z σv H R x pins s I) fun v s1 h1 => thn h1 fun itv s2 h2 => ?_
  obtain ⟨it, fp, tn, J, H1, e1, I2, T, t0, hf, ds, μ1, Ok, ⟨P, p0, hturn, hend⟩, n1, rl1, ok1, sim⟩ := h2
  refine ⟨it, fp, tn, J, H1, e1, I2, T, t0, hf, fun D0 hD => ?_⟩
  have R1 := R.go n1 rl1
  have fz := rl1.frz hD
  let Z' := hid Z D0
  let vs := own.map (·.2)
  let Inv' : Nat → Hp → Prop := fun i H2 => ∃ acc μ' accV, P i acc μ' ∧ Nx μ1 H1 μ' H2 ∧ Rel ⟨X.K, Z'⟩ μ' H2 ∧ H2 D0 = some (.lst accV) ∧ μ' D0 = none ∧ RpL ⟨X.K, Z'⟩ μ' H2 acc accV ∧ Ok Z' μ' H2 ∧ Sl ⟨X.K, Z'⟩ μ' H2 (wipeD σ vs) (L2.wipe σv vs)
  refine ⟨fun i m H2 => m = ds.length - i ∧ i ≤ ds.length ∧ Inv' i H2, ⟨ds.length, by simp, Nat.zero_le _, [], μ1, [], p0, Nx.new rl1 hD, Rel.hide hD rl1, upd_same, fz.1, RpL.nil, sim.hide hD ok1, (R1.sl.wipe _).hide hD⟩, ?_⟩
  rintro i m H2 ⟨rfl, hi', acc, μ', accV, p, n2, rl2, hDv, mD, racc, ok2, sl2⟩
  by_cases hlt : i < ds.length
  · refine .inr ⟨sim.go hlt ok2, Inv' (i + 1), fun H3 h => ⟨ds.length - (i + 1), by omega, rfl, hlt, h⟩, fun xv H3 hy => ?_⟩
    have hd : ds[i]? = some ds[i] := List.getElem?_eq_getElem hlt
    obtain ⟨n3, rl3, rx⟩ := sim.yld hd rl2 ok2 hy
    have RS3 : RS ⟨X.K, Z'⟩ G0 (wipeD σ vs) μ' (L2.wipe σv vs) H3 := ⟨rl3, sl2.keep n3, trivial⟩
    refine (hg s2 H2 D0 [] []).sim _ _ μ' _ (hturn i _ acc μ' hd p) Z' _ H3 xv _ RS3 rx fun σ4 μ4 σv4 H4 q4 n4 R4 l4 s4 => ?_
    have hw : L2.wipe σv4 vs = L2.wipe σv vs := wipe_idem (by rw [l4, L2.wipe_length]) s4
    refine ⟨hw, ?_⟩
    have slw : Sl ⟨X.K, Z'⟩ μ' H3 (wipeD σ vs) (L2.wipe σv vs) := sl2.keep n3
    intro s' H0 C cl fp' pins' s'' I''
    refine thn ((ht s' H0 C cl fp').run σ4 μ4 _ _ q4 Z' σv4 H4 R4 xw0 pins' s'' I'') fun bb s5 ⟨H5, I5, μ5, q5, n5, rl5⟩ => ⟨H5, I5, ?_⟩
    have nn := n3.trans (n4.trans n5)
    dsimp only at q5 ⊢
    by_cases z : bb = true
    · rw [if_pos z] at q5 ⊢
      intro s' H0 C cl fp'
      refine ((he s' H0 C cl fp').then q5 (Z := Z') (R4.go n5 rl5) xw0 fun y μ6 yv H6 h6 n6 R6 _ r6 => ?_)
      obtain ⟨hlen, p6⟩ := h6
      have nn6 := nn.trans n6
      obtain ⟨hD6, mD6⟩ := nn6 D0 _ hDv mD
      have racc6 := RpL.keep nn6 _ _ racc
      refine ⟨accV, hD6, by rw [racc6.length]; exact hlen, acc ++ [y], μ6, accV ++ [yv], p6, ?_, R6.rel.hup, upd_same, mD6, ?_, sim.hup (sim.st ok2 nn6), (sl2.keep nn6).hup⟩
      · intro a u e m
        obtain ⟨y1, y2⟩ := (n2.trans nn6) a u e m
        exact ⟨by rw [upd_ne (ne_of_none e hD)]; exact y1, y2⟩
      · exact RpL.hup _ _ (racc6.append (RpL.cons r6 RpL.nil))
    · rw [if_neg z] at q5 ⊢
      obtain ⟨hD5, mD5⟩ := nn D0 _ hDv mD
      exact ⟨acc, μ5, accV, q5, n2.trans nn, rl5, hD5, mD5, RpL.keep nn _ _ racc, sim.st ok2 nn, sl2.keep nn⟩
  · have e : i = ds.length := by omega
    subst e
    exact .inl ⟨sim.stop ok2, (mkL_hid rl2 hDv mD fz.2 racc (hend acc μ' p) n2 hD).back n1⟩
theorem ej_lc {b : Bool} {own : List (Str × Nat)} (hc : X.calm = true) (hN : X.N.Nodup) (hi : IJ X G0 W tg iter mi) (ok : BlkOk X.N X.env.scope scope own)
    (hg : ∀ s H C cl fp, GW (blkX X scope s H C cl fp) G0 tg gv g (own.map (·.2)))
    (ht : ∀ s H C cl fp, TsJ (blkX X scope s H C cl fp) G0 W0 ifs mt) (he : ∀ s H C cl fp, EJ (blkX X scope s H C cl fp) G0 W0 elt me)
    (hs : ∀ x, foldedSetIterable iter X.env x = pure x := by intro _; rfl) : EJ X G0 W (.ListComp elt [⟨tg, iter, ifs, 0⟩] scope pos) (mLc b mi g mt me (own.map (·.2))) := ⟨fun σ μ Q E q Z σv H R x => by
  refine toE (pe_lc (wi := iS X tg iter) (g := gv) (tt := bsB X scope ifs) (te := eB X scope elt) hc hN piS ok (fun s H C cl fp => (hg s H C cl fp).pg) (fun s H C cl fp => ⟨fun pins s' σ H' Q I h => h s H C cl fp pins s' I⟩) (fun s H C cl fp => ⟨fun pins s' σ H' Q I h => h s H C cl fp pins s' I⟩) hs) ?_
  exact lcG b hg ht he hi q R x⟩
theorem sj_setLc {b : Bool} {own : List (Str × Nat)} {i : Nat} {y : Str} {py spos : Pos} (hc : X.calm = true) (hN : X.N.Nodup) (hy : X.N[i]? = some y) (hyl : X.env.scope.names.lookup y = some .local)
    (hsw : swapsWith (.ListComp elt [⟨tg, iter, ifs, 0⟩] scope pos) (some (.Name y py)) spos.line X.env = pure true) (hi : IJ X G0 W tg iter mi) (ok : BlkOk X.N X.env.scope scope own)
    (hg : ∀ s H C cl fp, GW (blkX X scope s H C cl fp) G0 tg gv g (own.map (·.2)))
    (ht : ∀ s H C cl fp, TsJ (blkX X scope s H C cl fp) G0 W0 ifs mt) (he : ∀ s H C cl fp, EJ (blkX X scope s H C cl fp) G0 W0 elt me)
    (hs : ∀ x, foldedSetIterable iter X.env x = pure x := by intro _; rfl) : SJ X G0 W (.Assign [.Name y py] (.ListComp elt [⟨tg, iter, ifs, 0⟩] scope pos) spos) (mAsg (mLc b mi g mt me (own.map (·.2))) (gN i)) := ⟨fun Dn σ μ q Z σv H R x => by
  refine toS (ps_setLc (wi := iS X tg iter) (g := gv) (tt := bsB X scope ifs) (te := eB X scope elt) hc hN hy hyl hsw piS ok (fun s H C cl fp => (hg s H C cl fp).pg) (fun s H C cl fp => ⟨fun pins s' σ H' Q I h => h s H C cl fp pins s' I⟩) (fun s H C cl fp => ⟨fun pins s' σ H' Q I h => h s H C cl fp pins s' I⟩) hs) ?_
  have h := lcG b hg ht he hi (own := own) q R (x.at R)
  -- the reading is monotone
  intro pins s I
  refine thn (h pins s I) fun v s1 h1 => thn h1 fun itv s2 h2 => ?_
  obtain ⟨it, fp, tn, J, H1, e1, I2, T, t0, hf, hh⟩ := h2
  refine ⟨it, fp, tn, J, H1, e1, I2, T, t0, hf, fun D0 hD => ?_⟩
  obtain ⟨W', w0, turn⟩ := hh D0 hD
  refine ⟨W', w0, fun i m H2 w => (turn i m H2 w).imp (fun ⟨a, d, μ', hq, n, rl, r⟩ => ⟨a, _, μ', hq, n, (R.go n rl).set _ r⟩) id⟩⟩
end
end TL

namespace TL
open PySem PySem.Spec PyProof.Rows L2

structure CaD (X : Cx) (f : Value) (r : List D → Sto → QD → Prop) where
  rv : List V → Hp → VK → Prop
  op : CallR X f rv
  sim : ∀ (Z : Addr → Prop) (μ : Sto) (H : Hp) (ds : List D) (vs : List V) (Q : QD) (Q' : VK), Rel (kz X Z) μ H → RpL (kz X Z) μ H ds vs → r ds μ Q → (∀ v H', QE (kz X Z) μ H Q v H' → Q' v H') → rv vs H Q'
def mCB (r : List D → Sto → QD → Prop) (m : MA) : ME := fun σ μ Q E => m σ μ (fun ds μ1 => r ds μ1 Q) E
section
variable {X : Cx} {G : GI} {W : WX} {pos p : Pos} {e a b c o : Expr} {ma mo : ME} {es : List Expr} {mas : MA} {id T : String} {x : Str} {r : List D → Sto → QD → Prop}
theorem ej_callB (hc : CaD X (.builtin id) r) (hg : Gl X x) (hm : X.mg x = none) (hv : bootBuiltins x = some (.builtin id)) (ha : AJ X G W (e :: es) mas) (hn : x ≠ "__name__" := by decide) (hdb : (x == ("__debug__" : Str)) = false := by decide)
    (he : starEach (e :: es) X.env = (false, eval e X.env) :: starEach es X.env := by rfl) (hpl : (backTo pos (starEach es X.env)).any (·.1) = false := by rfl) : EJ X G W (.Call (.Name x p) (e :: es) [] pos) (mCB r mas) := ⟨fun σ μ Q E q Z σv H R x => by
  refine toE (pe_callB hc.op hg hm hv paS hn hdb he hpl) ?_
  exact ha.then q R x fun ds μ1 vs H1 h1 n1 R1 x1 r1 => hc.sim Z μ1 H1 ds vs Q _ R1.rel r1 h1 fun v H' q => q.back n1⟩
theorem ej_callTy (hc : CaD X (.type T) r) (hg : Gl X x) (hm : X.mg x = none) (hv : bootBuiltins x = some (.type T)) (ha : AJ X G W (e :: es) mas) (hn : x ≠ "__name__" := by decide) (hdb : (x == ("__debug__" : Str)) = false := by decide)
    (he : starEach (e :: es) X.env = (false, eval e X.env) :: starEach es X.env := by rfl) (hpl : (backTo pos (starEach es X.env)).any (·.1) = false := by rfl) : EJ X G W (.Call (.Name x p) (e :: es) [] pos) (mCB r mas) := ⟨fun σ μ Q E q Z σv H R x => by
  refine toE (pe_callTy hc.op hg hm hv paS hn hdb he hpl) ?_
  exact ha.then q R x fun ds μ1 vs H1 h1 n1 R1 x1 r1 => hc.sim Z μ1 H1 ds vs Q _ R1.rel r1 h1 fun v H' q => q.back n1⟩
theorem rpl1 {K : KZ} {μ : Sto} {H : Hp} {d : D} {vs : List V} (r : RpL K μ H [d] vs) : ∃ v, vs = [v] ∧ Rp K μ H d v := by
  obtain ⟨v, t, rfl, h1, h2⟩ := rpl_cons.mp r
  cases rpl_nil.mp h2
  exact ⟨v, rfl, h1⟩
theorem rpl2 {K : KZ} {μ : Sto} {H : Hp} {d e : D} {vs : List V} (r : RpL K μ H [d, e] vs) : ∃ v w, vs = [v, w] ∧ Rp K μ H d v ∧ Rp K μ H e w := by
  obtain ⟨v, t, rfl, h1, h2⟩ := rpl_cons.mp r
  obtain ⟨w, rfl, h3⟩ := rpl1 h2
  exact ⟨v, w, rfl, h1, h3⟩
def rLen : List D → Sto → QD → Prop := fun ds μ Q => match ds with
  | [d] => match viewQ μ d with
    | some xs => Q (.int xs.length) μ
    | none => False
  | _ => False
def cd_len : CaD X (.builtin "len") rLen where
  rv := _
  op := call_len_seq
  sim := fun Z μ H ds vs Q Q' R r q k => by
    unfold rLen at q
    split at q
    · rename_i d
      obtain ⟨v, rfl, rd⟩ := rpl1 r
      split at q
      · rename_i xs e
        obtain ⟨a, ys, rfl, s, l⟩ := viewQ_ok R e rd
        refine ⟨a, ys, rfl, s, k _ _ ?_⟩
        rw [l.length]
        exact QE.fin R q rp_int'
      · exact q.elim
    · exact q.elim
def rLenS : List D → Sto → QD → Prop := fun ds μ Q => match ds with
  | [.str x] => x.length ≤ sizeLine ∧ Q (.int x.length) μ
  | _ => False
def cd_lenS : CaD X (.builtin "len") rLenS where
  rv := _
  op := call_len_str
  sim := fun Z μ H ds vs Q Q' R r q k => by
    unfold rLenS at q
    split at q
    · rename_i x
      obtain ⟨v, rfl, rd⟩ := rpl1 r
      cases rp_str.mp rd
      exact ⟨x, rfl, q.1, k _ _ (QE.fin R q.2 rp_int')⟩
    · exact q.elim
def rList (b : Bool) : List D → Sto → QD → Prop := fun ds μ Q => match ds with
  | [d] => match viewQ μ d with
    | some xs => mkL b xs μ Q
    | none => False
  | _ => False
def cd_list (b : Bool) : CaD X (.type "list") (rList b) where
  rv := _
  op := call_list_of
  sim := fun Z μ H ds vs Q Q' R r q k => by
    unfold rList at q
    split at q
    · rename_i d
      obtain ⟨v, rfl, rd⟩ := rpl1 r
      split at q
      · rename_i xs e
        obtain ⟨a, ys, rfl, s, l⟩ := viewQ_ok R e rd
        exact ⟨a, ys, rfl, s, fun p hp => k _ _ (mkL_ok R hp l q)⟩
      · exact q.elim
    · exact q.elim
def rTuple : List D → Sto → QD → Prop := fun ds μ Q => match ds with
  | [d] => match viewQ μ d with
    | some xs => Q (.tup xs) μ
    | none => False
  | _ => False
def cd_tuple : CaD X (.type "tuple") rTuple where
  rv := _
  op := call_tuple_of
  sim := fun Z μ H ds vs Q Q' R r q k => by
    unfold rTuple at q
    split at q
    · rename_i d
      obtain ⟨v, rfl, rd⟩ := rpl1 r
      split at q
      · rename_i xs e
        unfold viewQ at e
        split at e
        · cases e
          obtain ⟨a, ys, rfl, s, l⟩ := rp_tup.mp rd
          exact ⟨a, ys, rfl, .inr ⟨s.seq, k _ _ (QE.fin R q rd)⟩⟩
        · obtain ⟨a, ys, rfl, s, l⟩ := viewL_ok R e rd
          exact ⟨a, ys, rfl, .inl ⟨s, fun p hp => k _ _ (mkT_ok R hp l q)⟩⟩
      · exact q.elim
    · exact q.elim
def rSumD : List D → Sto → QD → Prop := fun ds μ Q => ∃ (d : D) (ns : List Int), ds = [d] ∧ viewL μ d = some (ns.map D.int) ∧ Q (.int ns.sum) μ
def rMaxD : List D → Sto → QD → Prop := fun ds μ Q => ∃ (d : D) (ns : List Int), ds = [d] ∧ viewL μ d = some (ns.map D.int) ∧ 0 < ns.length ∧ ∀ m, m ∈ ns → (∀ y, y ∈ ns → y ≤ m) → Q (.int m) μ
def rMinD : List D → Sto → QD → Prop := fun ds μ Q => ∃ (d : D) (ns : List Int), ds = [d] ∧ viewL μ d = some (ns.map D.int) ∧ 0 < ns.length ∧ ∀ m, m ∈ ns → (∀ y, y ∈ ns → m ≤ y) → Q (.int m) μ
def cd_sum (hc : X.calm = true) : CaD X (.builtin "sum") rSumD where
  rv := _
  op := cr_sum hc
  sim := fun Z μ H ds vs Q Q' R r q k => by
    obtain ⟨d, ns, rfl, e, hq⟩ := q
    obtain ⟨v, rfl, rd⟩ := rpl1 r
    obtain ⟨a, ys, rfl, s, l⟩ := viewL_ok R e rd
    cases RpL.ints.mp l
    exact ⟨a, ns, rfl, s, k _ _ (QE.fin R hq rp_int')⟩
def cd_max (hc : X.calm = true) : CaD X (.builtin "max") rMaxD where
  rv := _
  op := cr_max hc
  sim := fun Z μ H ds vs Q Q' R r q k => by
    obtain ⟨d, ns, rfl, e, h0, hq⟩ := q
    obtain ⟨v, rfl, rd⟩ := rpl1 r
    obtain ⟨a, ys, rfl, s, l⟩ := viewL_ok R e rd
    cases RpL.ints.mp l
    exact ⟨a, ns, rfl, s, h0, fun m hm hle => k _ _ (QE.fin R (hq m hm hle) rp_int')⟩
def cd_min (hc : X.calm = true) : CaD X (.builtin "min") rMinD where
  rv := _
  op := cr_min hc
  sim := fun Z μ H ds vs Q Q' R r q k => by
    obtain ⟨d, ns, rfl, e, h0, hq⟩ := q
    obtain ⟨v, rfl, rd⟩ := rpl1 r
    obtain ⟨a, ys, rfl, s, l⟩ := viewL_ok R e rd
    cases RpL.ints.mp l
    exact ⟨a, ns, rfl, s, h0, fun m hm hle => k _ _ (QE.fin R (hq m hm hle) rp_int')⟩
def rI2 (g : Int → Int → Int) : List D → Sto → QD → Prop := fun ds μ Q => match ds with
  | [.int i, .int j] => Q (.int (g i j)) μ
  | _ => False
def cd_max2 (hc : X.calm = true) : CaD X (.builtin "max") (rI2 max) where
  rv := _
  op := call_max2 hc
  sim := fun Z μ H ds vs Q Q' R r q k => by
    unfold rI2 at q
    split at q
    · rename_i i j
      obtain ⟨v, w, rfl, r1, r2⟩ := rpl2 r
      refine ⟨i, j, by rw [rp_int.mp r1, rp_int.mp r2], k _ _ ?_⟩
      have e : (if j > i then j else i) = max i j := by split <;> omega
      rw [e]
      exact QE.fin R q rp_int'
    · exact q.elim
def cd_min2 (hc : X.calm = true) : CaD X (.builtin "min") (rI2 min) where
  rv := _
  op := call_min2 hc
  sim := fun Z μ H ds vs Q Q' R r q k => by
    unfold rI2 at q
    split at q
    · rename_i i j
      obtain ⟨v, w, rfl, r1, r2⟩ := rpl2 r
      refine ⟨i, j, by rw [rp_int.mp r1, rp_int.mp r2], k _ _ ?_⟩
      have e : (if j < i then j else i) = min i j := by split <;> omega
      rw [e]
      exact QE.fin R q rp_int'
    · exact q.elim
def rI1 (g : Int → Int) : List D → Sto → QD → Prop := fun ds μ Q => match ds with
  | [.int i] => Q (.int (g i)) μ
  | _ => False
def iabs (i : Int) : Int := if i < 0 then -i else i
def cd_abs : CaD X (.builtin "abs") (rI1 iabs) where
  rv := _
  op := call_abs
  sim := fun Z μ H ds vs Q Q' R r q k => by
    unfold rI1 at q
    split at q
    · rename_i i
      obtain ⟨v, rfl, r1⟩ := rpl1 r
      cases rp_int.mp r1
      exact ⟨i, rfl, k _ _ (QE.fin R q rp_int')⟩
    · exact q.elim
def rIntD : List D → Sto → QD → Prop := fun ds μ Q => match ds with
  | [.int i] => Q (.int i) μ
  | [.bl b] => Q (.int (if b then 1 else 0)) μ
  | _ => False
def cd_int : CaD X (.type "int") rIntD where
  rv := _
  op := call_int1
  sim := fun Z μ H ds vs Q Q' R r q k => by
    unfold rIntD at q
    split at q
    · rename_i i
      obtain ⟨v, rfl, r1⟩ := rpl1 r
      cases rp_int.mp r1
      exact .inl ⟨i, rfl, k _ _ (QE.fin R q rp_int')⟩
    · rename_i i
      obtain ⟨v, rfl, r1⟩ := rpl1 r
      cases rp_bl.mp r1
      exact .inr ⟨i, rfl, k _ _ (QE.fin R q rp_int')⟩
    · exact q.elim
def tyN (μ : Sto) : D → Option String
  | .non => some "NoneType"
  | .bl _ => some "bool"
  | .int _ => some "int"
  | .str _ => some "str"
  | .tup _ => some "tuple"
  | d => (viewM μ d).map fun _ => "list"
theorem tyN_ok {K : PySem.W.Frag} {Z : Addr → Prop} {μ : Sto} {H : Hp} {d : D} {v : V} {t : String} (R : Rel ⟨K, Z⟩ μ H) (e : tyN μ d = some t) (r : Rp ⟨K, Z⟩ μ H d v) : TyX K H v (.type t) := by
  unfold tyN at e
  split at e
  · cases e; rw [rp_non.mp r]; exact .base .non
  · cases e; rw [rp_bl.mp r]; exact .base (.bl _)
  · cases e; rw [rp_int.mp r]; exact .base (.int _)
  · cases e; rw [rp_str.mp r]; exact .base (.str _)
  · cases e
    obtain ⟨a, xs, rfl, s, l⟩ := rp_tup.mp r
    rcases s with ⟨s | ⟨o, s⟩, _⟩ | ⟨o, its, n, h1, h2, _⟩
    · exact .base (.tup s)
    · exact .fTuple s
    · exact .kTuple h1 h2
  · cases z : viewM μ d with
    | none => rw [z] at e; cases e
    | some ds =>
      rw [z] at e
      cases e
      obtain ⟨a, xs, rfl, s, l⟩ := viewM_ok R z r
      exact .base (.lst s)
def rIsiB (K : PySem.W.Frag) (T : String) : List D → Sto → QD → Prop := fun ds μ Q => ∃ d b t, ds = [d, .raw (.ty T)] ∧ tyN μ d = some t ∧ PySem.W.kitOne K (.type t) (.type T) = some b ∧ Q (.bl b) μ
def cd_isiB (T : String) : CaD X (.builtin "isinstance") (rIsiB X.K T) where
  rv := _
  op := call_isi
  sim := fun Z μ H ds vs Q Q' R r q k => by
    obtain ⟨d, b, t, rfl, e, hk, hq⟩ := q
    obtain ⟨v, w, rfl, r1, r2⟩ := rpl2 r
    cases rp_raw.mp r2
    exact ⟨v, .ty T, _, _, b, rfl, .ty T, tyN_ok R e r1, hk, k _ _ (QE.fin R hq rp_bl')⟩
theorem ej_bltnTy {n : String} (hg : Gl X x) (hm : X.mg x = none) (hv : bootBuiltins x = some (.type n)) (hn : x ≠ "__name__" := by decide) (hd : (x == ("__debug__" : Str)) = false := by decide) : EJ X G W (.Name x pos) (mC (.raw (.ty n))) :=
  EJ.const (pe_bltn (v := .ty n) hg hm hv rfl hn hd) (fun _ _ _ q => q) fun _ _ _ => rp_raw'

structure MtD (X : Cx) (id : String) (r : D → List D → Sto → QD → Prop) where
  rv : V → List V → Hp → VK → Prop
  op : MtR X id rv
  ty : ∀ (Z : Addr → Prop) (μ : Sto) (H : Hp) (d : D) (v : V) (ds : List D) (Q : QD), Rel (kz X Z) μ H → Rp (kz X Z) μ H d v → r d ds μ Q → True
  sim : ∀ (Z : Addr → Prop) (μ : Sto) (H : Hp) (d : D) (v : V) (ds : List D) (vs : List V) (Q : QD) (Q' : VK), Rel (kz X Z) μ H → Rp (kz X Z) μ H d v → RpL (kz X Z) μ H ds vs → r d ds μ Q → (∀ v H', QE (kz X Z) μ H Q v H' → Q' v H') → rv v vs H Q'
def mAppend (mo me : ME) : ME := fun σ μ Q E => mo σ μ (fun d μ1 => ∃ p, d = .raw (.ref p) ∧ (∃ ds, μ1 p = some (.lst ds)) ∧ me σ μ1 (fun y μ2 => ∃ ds, μ2 p = some (.lst ds) ∧ ds.length < sizeLine ∧ Q .non (sset μ2 p (.lst (ds ++ [y])))) E) E
theorem ej_append {apos : Pos} (ho : EJ X G W o mo) (he : EJ X G W e ma)
    (hc : PE X (.Call (.Attribute o "append" apos) [e] [] pos) (tBM X.K "list" rAppend (tS X o) (tCons (tS X e) tNil)) := by exact pe_bm PySem.F.plainAttrs_list PySem.F.slot_list_append PySem.F.type_list_append mt_append pS (pa_cons pS pa_nil)) : EJ X G W (.Call (.Attribute o "append" apos) [e] [] pos) (mAppend mo ma) := ⟨fun σ μ Q E q Z σv H R x => by
  refine toE hc ?_
  refine ho.then q R x fun d μ1 v1 H1 h1 n1 R1 x1 r1 => ?_
  obtain ⟨p, rfl, ⟨ds0, hm0⟩, h1⟩ := h1
  cases rp_raw.mp r1
  obtain ⟨xs0, hH0, _⟩ := R1.rel.co hm0
  refine ⟨.inl ⟨rfl, xs0, .inl (.inl hH0)⟩, ?_⟩
  refine he.then h1 R1 x1 fun y μ2 v2 H2 h2 n2 R2 x2 r2 => ?_
  obtain ⟨ds, hm, hl, hq⟩ := h2
  obtain ⟨xs, hH, rl⟩ := R2.rel.co hm
  have n3 : Nx μ2 H2 (sset μ2 p (.lst (ds ++ [y]))) (upd H2 p (.lst (xs ++ [v2]))) := Nx.wr hm
  exact ⟨p, xs, v2, rfl, rfl, hH, by rw [rl.length]; exact hl, .non, _, hq, n1.trans (n2.trans n3), R2.rel.wr hm ⟨_, upd_same, (RpL.keep n3 _ _ rl).append (RpL.cons (Rp.keep n3 _ _ r2) RpL.nil)⟩, rp_non'⟩⟩
def mPop (mo : ME) : ME := fun σ μ Q E => mo σ μ (fun d μ1 => ∃ p ds y, d = .raw (.ref p) ∧ μ1 p = some (.lst ds) ∧ ds[ds.length - 1]? = some y ∧ Q y (sset μ1 p (.lst ds.dropLast))) E
theorem ej_pop {apos : Pos} (ho : EJ X G W o mo)
    (hc : PE X (.Call (.Attribute o "pop" apos) [] [] pos) (tBM0 X.K "list" rPop (tS X o)) := by exact pe_bm0 PySem.F.plainAttrs_list PySem.F.slot_list_pop PySem.F.type_list_pop mt_pop pS) : EJ X G W (.Call (.Attribute o "pop" apos) [] [] pos) (mPop mo) := ⟨fun σ μ Q E q Z σv H R x => by
  refine toE hc ?_
  refine ho.then q R x fun d μ1 v1 H1 h1 n1 R1 x1 r1 => ?_
  obtain ⟨p, ds, y, rfl, hm, hy, hq⟩ := h1
  cases rp_raw.mp r1
  obtain ⟨xs, hH, rl⟩ := R1.rel.co hm
  obtain ⟨v, hv, rv⟩ := rl.get hy
  have n3 : Nx μ1 H1 (sset μ1 p (.lst ds.dropLast)) (upd H1 p (.lst xs.dropLast)) := Nx.wr hm
  exact ⟨.inl ⟨rfl, xs, .inl (.inl hH)⟩, p, xs, v, rfl, rfl, hH, by rw [rl.length]; exact hv, y, _, hq, n1.trans n3, R1.rel.wr hm ⟨_, upd_same, (RpL.keep n3 _ _ rl).dropLast⟩, Rp.keep n3 _ _ rv⟩⟩
def mClear (mo : ME) : ME := fun σ μ Q E => mo σ μ (fun d μ1 => ∃ p ds, d = .raw (.ref p) ∧ μ1 p = some (.lst ds) ∧ Q .non (sset μ1 p (.lst []))) E
theorem ej_clear {apos : Pos} (ho : EJ X G W o mo)
    (hc : PE X (.Call (.Attribute o "clear" apos) [] [] pos) (tBM0 X.K "list" rClear (tS X o)) := by exact pe_bm0 PySem.F.plainAttrs_list PySem.F.slot_list_clear PySem.F.type_list_clear mt_clear pS) : EJ X G W (.Call (.Attribute o "clear" apos) [] [] pos) (mClear mo) := ⟨fun σ μ Q E q Z σv H R x => by
  refine toE hc ?_
  refine ho.then q R x fun d μ1 v1 H1 h1 n1 R1 x1 r1 => ?_
  obtain ⟨p, ds, rfl, hm, hq⟩ := h1
  cases rp_raw.mp r1
  obtain ⟨xs, hH, rl⟩ := R1.rel.co hm
  have n3 : Nx μ1 H1 (sset μ1 p (.lst [])) (upd H1 p (.lst [])) := Nx.wr hm
  exact ⟨.inl ⟨rfl, xs, .inl (.inl hH)⟩, p, xs, rfl, rfl, hH, .non, _, hq, n1.trans n3, R1.rel.wr hm ⟨_, upd_same, RpL.nil⟩, rp_non'⟩⟩
def mFz (m : ME) : ME := fun σ μ Q E => m σ μ (fun d μ1 => match d with
  | .raw (.ref p) => match μ1 p with
    | some (.lst ds) => Q (.lst ds) (sdel μ1 p)
    | some (.ins C ns ds) => Q (.ins C ns ds) (sdel μ1 p)
    | none => False
  | _ => False) E
theorem ej_fz (he : EJ X G W e ma) : EJ X G W e (mFz ma) := ⟨fun σ μ Q E q Z σv H R x => by
  refine he.then q R x fun d μ1 v1 H1 h1 n1 R1 x1 r1 => ?_
  split at h1
  · rename_i p
    have sb : Sub (sdel μ1 p) μ1 := fun a o h => by
      by_cases z : a = p
      · rw [z, sdel_same] at h; cases h
      · rw [sdel_ne z] at h; exact h
    have n2 : Nx μ1 H1 (sdel μ1 p) H1 := Nx.sub sb
    cases rp_raw.mp r1
    split at h1
    · rename_i ds hm
      obtain ⟨xs, hH, rl⟩ := R1.rel.co hm
      exact ⟨.lst ds, _, h1, n1.trans n2, R1.rel.sub sb, rp_lst.mpr ⟨p, xs, rfl, ⟨hH, sdel_same, (R1.rel.1 p _ hm).2⟩, RpL.keep n2 _ _ rl⟩⟩
    · rename_i C ns ds hm
      obtain ⟨dx, xs, hH, l, rl⟩ := R1.rel.co hm
      exact ⟨.ins C ns ds, _, h1, n1.trans n2, R1.rel.sub sb, rp_ins.mpr ⟨p, dx, xs, rfl, hH, ⟨sdel_same, (R1.rel.1 p _ hm).2⟩, l, RpL.keep n2 _ _ rl⟩⟩
    · exact h1.elim
  · exact h1.elim⟩
end
end TL

namespace TL
open PySem PySem.Spec PyProof.Rows L2

abbrev Spec := List D → Sto → QD → ExD → Prop
def TSp (K : PySem.W.Frag) (n : Nat) (F : Spec) : Sp := fun vs H Q E => ∃ Z ds μ Q' E', ds.length = n ∧ F ds μ Q' E' ∧ Rel ⟨K, Z⟩ μ H ∧ RpL ⟨K, Z⟩ μ H ds vs ∧ (∀ v H', QE ⟨K, Z⟩ μ H Q' v H' → Q v H') ∧ XW ⟨K, Z⟩ μ H E' E
theorem TSp.len {K : PySem.W.Frag} {n : Nat} {F : Spec} {vs : List V} {H : Hp} {Q : VK} {E : XK} (h : TSp K n F vs H Q E) : vs.length = n := by
  obtain ⟨Z, ds, μ, Q', E', hl, _, _, r, _⟩ := h
  rw [r.length, hl]
def wQ (Q : QD) : QD := fun d μ => ∃ μ', Sub μ' μ ∧ Q d μ'
def wE (E : ExD) : ExD := fun C v μ => ∃ μ', Sub μ' μ ∧ E C v μ'
theorem QE.weak {K : KZ} {μ : Sto} {H : Hp} {Q : QD} {v : V} {H' : Hp} (h : QE K μ H (wQ Q) v H') : QE K μ H Q v H' := by
  obtain ⟨d, μ', ⟨μ'', sb, q⟩, n, rl, r⟩ := h
  exact ⟨d, μ'', q, n.trans (Nx.sub sb), rl.sub sb, Rp.keep (Nx.sub sb) _ _ r⟩
theorem XW.weak {K : KZ} {μ : Sto} {H : Hp} {E : ExD} {W : XK} (x : XW K μ H E W) : XW K μ H (wE E) W := fun C val μ' H' dd ⟨μ'', sb, e⟩ n rl ⟨m, w, hd, r⟩ =>
  x C val μ'' H' dd e (n.trans (Nx.sub sb)) (rl.sub sb) ⟨sb.none m, w, hd, Rp.keep (Nx.sub sb) _ _ r⟩
def endD (Q : QD) (E : ExD) : DE := { nx := fun _ μ => wQ Q .non μ, rt := wQ Q, ex := fun C v _ μ => wE E C v μ }
def startD (N : List Str) (ds : List D) : SD := ds.map some ++ List.replicate (N.length - ds.length) none
theorem sl_start {K : KZ} {μ : Sto} {H : Hp} {N : List Str} {ds : List D} {vs : List V} (r : RpL K μ H ds vs) : Sl K μ H (startD N ds) (L2.start N vs) := by
  have hl := r.length
  refine ⟨by simp [startD, L2.start, hl], fun i d e => ?_⟩
  unfold startD at e
  by_cases hi : i < ds.length
  · rw [List.getElem?_append_left (by simpa using hi), List.getElem?_map] at e
    cases q : ds[i]? with
    | none => rw [q] at e; cases e
    | some d' =>
      rw [q] at e
      cases e
      obtain ⟨v, hv, rv⟩ := r.get q
      refine ⟨v, ?_, rv⟩
      unfold L2.start
      rw [List.getElem?_append_left (by simp; omega), List.getElem?_map, hv]
      rfl
  · rw [List.getElem?_append_right (by simpa using hi)] at e
    have := List.mem_of_getElem? e
    rw [List.mem_replicate] at this
    cases this.2
structure FnG (P : Program) (w : World) (K : PySem.W.Frag) (mg : Str → Option Value) (base : Heap) (k : Nat) (f : Addr) (fd : FuncData) (ps : List Str) (sp : Sp) : Prop where
  len : ∀ vs H Q E, sp vs H Q E → vs.length = ps.length
  run : ∀ (A : Around) (outer : List Env) (s : Shared) (H : Hp) (args : Args) (us : List Value) (vs : List V) (Q : VK) (E : XK), Room k A → A.guards = some [] → Env0 P w K mg base A outer s H → BindsTo s fd args (ps.zip us) → Vals vs us → sp vs H Q E →
    codeAny (model P w) A (.call (.ref f) args) (CR (L2.CX P w) outer P w H s Q E) s
theorem FnG.of {P : Program} {w : World} {K : PySem.W.Frag} {mg : Str → Option Value} {base : Heap} {k : Nat} {f : Addr} {fd : FuncData} {ps : List Str} {sp : Sp} (F : FnOk P w K mg base (L2.CX P w) k f fd ps sp) : FnG P w K mg base k f fd ps sp :=
  ⟨F.len, fun A outer s H args us vs Q E hr _ => F.run A outer s H args us vs Q E hr⟩
theorem guards_make {A : Around} {C : Addr} {us : List Value} {kw : List (Str × Value)} (h : A.guards = some []) : (A.under (.builtin "type.__call__" ⟨.ref C :: us, kw⟩)).guards = some [] := by
  have e : (Code.builtin "type.__call__" ⟨.ref C :: us, kw⟩).isGuard = false := by
    show guardIds.contains "type.__call__" = false
    decide +kernel
  simp [Around.under, Code.guards, e, pushGuards, h]
section
variable {P : Program} {w : World} {K : PySem.W.Frag} {mg : Str → Option Value} {base : Heap}
theorem guards_deeper {A : Around} {env : Env} (h : A.guards = some []) : (A.deeper env).guards = some [] := by
  first | exact h | (simpa [Around.deeper, Around.under, Code.guards, pushGuards] using h)
theorem fnG_of {k : Nat} {f : Addr} {name qual : Str} {params : Arguments} {body : List Stmt} {scope : Scope} {dV kV doc pm cdv ct oc : Value} {an od : Option Addr}
    {osl : Array (Option Value)} {N ps : List Str} {sp : Sp} (lk : K.lookup f = some ⟨oc, od, .func (PySem.W.fnOf name qual params body scope dV kV doc pm an cdv ct), osl⟩) (hcd : PySem.W.codeIn K cdv qual = true) (S : FnScope N ps scope)
    (len : ∀ vs H Q E, sp vs H Q E → vs.length = ps.length)
    (hbody : ∀ (A : Around) (outer : List Env) (s : Shared) (H : Hp) (vs : List V) (Q : VK) (E : XK), Room k (A.deeper (envOfC qual scope s.heap.objs.size f cdv)) → A.guards = some [] → sp vs H Q E →
      ssS (cxOf (L2.CX P w) P w K mg base N qual scope f cdv A outer s H E) body { nx := fun _ H' => Q .non H', rt := Q } (L2.start N vs) H) :
    FnG P w K mg base (k + 1) f (PySem.W.fnOf name qual params body scope dV kV doc pm an cdv ct) ps sp := by
  refine ⟨len, fun A outer s H args us vs Q E hr hg e0 hb r hsp => ?_⟩
  have KX : K.In s.heap := e0.mod.kin.keeps fun b o e => (e0.bs b o e).1
  have nl : s.heap.NoLimit := e0.mod.nolimit.keeps fun b o e => (e0.bs b o e).1
  have kinds : ∀ y ∈ ps.zip us, scope.names.lookup y.1 = some .local ∨ (scope.names.lookup y.1 = some .cell ∧ ((cellsFrom (s.heap.objs.size + 1) scope.names []).lookup y.1).isSome = true) := fun ⟨n, v⟩ hy =>
    (S.par n (List.of_mem_zip hy).1).elim .inl fun q => .inr ⟨q, PySem.W.cellsFrom_some _ _ _ (.inl q)⟩
  refine codeAny_call_function hr.depth (KX _ _ lk) rfl S.co S.gen rfl (PySem.W.codeRec_of KX hcd) (hb _ _ _ _ ?_)
  refine wpAny_newFunctionEnv_cells S.kind kinds fun env he s1 x => ?_
  subst he
  refine ⟨nl.keeps x.toInCall.keep, codeAny_func ?_⟩
  have I := inv_start (CX := L2.CX P w) (P := P) (w := w) (K := K) (mg := mg) (base := base) (N := N) (qual := qual) (f := f) (cd := cdv) (A := A) (outer := outer) (E := E) S hr.hd e0 (len _ _ _ _ hsp) r x
  refine wpAny_mono (hbody A outer s H vs Q E (hr.deeper _) hg hsp [] s1 I) (fun fl s' hs => ?_) fun e s' hs => hs
  have done : ∀ {σ' : L2.St} {H' : Hp} {v : V} {u : Value}, Inv (cxOf (L2.CX P w) P w K mg base N qual scope f cdv A outer s H E) [] σ' H' s' → RelV v u → Q v H' → CE outer P w H s Q u s' :=
    fun {σ' H' v u} J rv q => ⟨v, H', J.os, J.bare, J.base, J.hok, rv, q⟩
  cases fl with
  | ret u => obtain ⟨v, σ', H', J, rv, q⟩ := hs; exact done J rv q
  | next => obtain ⟨σ', H', J, q⟩ := hs; exact done (v := V.non) (u := Value.none) J rfl q
  | brk => obtain ⟨_, _, _, q⟩ := hs; exact False.elim q
  | cont => obtain ⟨_, _, _, q⟩ := hs; exact False.elim q
theorem okT {x qual : Str} {st : Stmt} {f : Addr} {fd : FuncData} {N ps : List Str} {k : Nat} {F : Spec} (Fn : Fun K x qual st f fd) (S : FnScope N ps (defScope st))
    (hbody : ∀ (s : Shared) (H : Hp) (cdv : Value) (A : Around) (outer : List Env) (E : XK), Room k (cxOf (L2.CX P w) P w K mg base N qual (defScope st) f cdv A outer s H E).A → (cxOf (L2.CX P w) P w K mg base N qual (defScope st) f cdv A outer s H E).A.guards = some [] →
      Takes (cxOf (L2.CX P w) P w K mg base N qual (defScope st) f cdv A outer s H E) (fun cls d _ H => E cls d H) → PassesOwn (model P w) (cxOf (L2.CX P w) P w K mg base N qual (defScope st) f cdv A outer s H E).A (cxOf (L2.CX P w) P w K mg base N qual (defScope st) f cdv A outer s H E).env (cxOf (L2.CX P w) P w K mg base N qual (defScope st) f cdv A outer s H E).xe →
      ∃ m, SJs (cxOf (L2.CX P w) P w K mg base N qual (defScope st) f cdv A outer s H E) G0 (fun cls d _ H => E cls d H) (defBody st) m ∧ ∀ ds μ Q' E', ds.length = ps.length → F ds μ Q' E' → m (endD Q' E') (startD N ds) μ) :
    FnG P w K mg base (k + 1) f fd ps (TSp K ps.length F) := by
  obtain ⟨oc, od, kV, doc, pm, an, cdv, ct, osl, rfl, lk, hcd⟩ := Fn.ex
  refine fnG_of lk hcd S (fun vs H Q E h => h.len) (fun A outer s H vs Q E hr hgd h => ?_)
  obtain ⟨m, hm, hF⟩ := hbody s H cdv A outer E hr (guards_deeper hgd) (takes_of rfl rfl rfl rfl) (passes_of rfl)
  obtain ⟨Z, ds, μ, Q', E', hl, hf, rl, r, hq, hx⟩ := h
  refine (hm.run _ _ μ (hF ds μ Q' E' hl hf) Z (L2.start N vs) H ⟨rl, sl_start r, trivial⟩ ?_).mono ⟨fun σ' H' h => ?_, fun v H' h => ?_, fun σ' H' h => ?_, fun σ' H' h => ?_⟩
  · intro C val σ' μ' σv' H' dd e n R a
    exact hx.weak C val μ' H' dd e n R.rel a
  · obtain ⟨σ1, μ1, q1, n1, R1⟩ := h
    exact hq _ _ (QE.weak ⟨.non, μ1, q1, n1, R1.rel, rp_non'⟩)
  · exact hq _ _ h.weak
  · obtain ⟨σ1, μ1, q1, _⟩ := h
    exact q1.elim
  · obtain ⟨σ1, μ1, q1, _⟩ := h
    exact q1.elim
end

def mCall (n : Nat) (F : Spec) (m : MA) : ME := fun σ μ Q E => m σ μ (fun ds μ1 => ds.length = n ∧ F ds μ1 Q E) E
section
variable {X : Cx} {G : GI} {W : WX} {pos p apos : Pos} {e o : Expr} {es : List Expr} {ma mo : ME} {mas : MA} {x m : Str} {k : Nat} {f : Addr} {fd : FuncData} {ps : List Str} {F : Spec}
abbrev FnT (X : Cx) (k : Nat) (f : Addr) (fd : FuncData) (ps : List Str) (F : Spec) : Prop := FnG X.prog X.w X.K X.mg X.base k f fd ps (TSp X.K ps.length F)
structure RmG (k : Nat) (A : Around) : Prop where
  r : Room k A
  g : A.guards = some []
theorem RmG.mono {j k : Nat} {A : Around} (r : RmG k A) (h : j ≤ k) : RmG j A := ⟨r.r.mono h, r.g⟩
theorem runG {pins : List (Addr × Obj)} {σ : L2.St} {H : Hp} {s : Shared} {Q : VK} {us : List Value} {vs : List V} {sp : Sp} (F : FnG X.prog X.w X.K X.mg X.base k f fd ps sp) (hr : RmG k X.A) (hb : Binds X.K fd ps []) (tk : Takes X W)
    (I : Inv X pins σ H s) (r : Vals vs us) (h : sp vs H Q (WE W σ)) : wpAny (model X.prog X.w) X.A (call (.ref f) us) (EP X pins σ Q) X.xe s := by
  have b := hb s us I.kIn (by rw [List.append_nil, ← r.length]; exact F.len _ _ _ _ h)
  rw [List.append_nil] at b
  refine wpAny_call (codeAny_mono (F.run X.A X.stack s H ⟨us, []⟩ us vs Q (WE W σ) hr.r hr.g I.env0 b r h) fun r s' hq => ?_)
  cases r with
  | error e => exact passAt tk σ pins H s e s' I hq
  | ok fl => cases fl <;> first | exact I.after hq | exact False.elim hq
theorem tsp_of {Z : Addr → Prop} {μ μ0 : Sto} {H H0 : Hp} {ds : List D} {vs : List V} {Q : QD} {E : ExD} {W' : XK} {n : Nat} (hl : ds.length = n) (h : F ds μ Q E) (R : Rel (kz X Z) μ H) (r : RpL (kz X Z) μ H ds vs) (n0 : Nx μ0 H0 μ H) (hx : XW (kz X Z) μ H E W') : TSp X.K n F vs H (QE (kz X Z) μ0 H0 Q) W' :=
  ⟨Z, ds, μ, Q, E, hl, h, R, r, fun v H' q => q.back n0, hx⟩
theorem ej_call (Fn : FnT X k f fd ps F) (hr : RmG k X.A) (hg : Gl X x) (hm : X.mg x = some (.ref f)) (hk : PySem.W.keepIn X.K (.ref f) = true) (hb : Binds X.K fd ps []) (tk : Takes X W) (ha : AJ X G W (e :: es) mas)
    (hdb : (x == ("__debug__" : Str)) = false := by decide) (he : starEach (e :: es) X.env = (false, eval e X.env) :: starEach es X.env := by rfl) (hpl : (backTo pos (starEach es X.env)).any (·.1) = false := by rfl) :
    EJ X G W (.Call (.Name x p) (e :: es) [] pos) (mCall ps.length F mas) := ⟨fun σ μ Q E q Z σv H R x => by
  intro pins s I
  refine wpAny_Call_Name_kw (ld_glob I hg hm ?_ hdb)
  refine PySem.W.callWith_K (h₀ := X.base) I.ok.mod.kin hk (thn (ha.run σ μ _ _ q Z σv H R x pos pins s I) fun us s1 ⟨vs, H1, I1, r, ds, μ1, h1, n1, rl1, rd⟩ => ⟨I1.kIn, ?_⟩) he hpl
  exact runG Fn hr hb tk I1 r (tsp_of h1.1 h1.2 rl1 rd n1 (x.on n1))⟩
structure MethT (X : Cx) (P : Addr → Prop) (m : Str) (k : Nat) (ps : List Str) (F : Addr → Spec) : Prop where
  at_ : ∀ C, P C → Cls X.K C ∧ ∃ g fd, Meth X.K C m g ∧ FnT X k g fd ps (F C) ∧ Binds X.K fd ps []
def mMeth (P : Addr → Prop) (m : Str) (n : Nat) (F : Addr → Spec) (mo : ME) (mas : MA) : ME := fun σ μ Q E => mo σ μ (fun d μ1 => ∃ C ns ds, viewI μ1 d = some (C, ns, ds) ∧ P C ∧ m ∉ ns ∧ mas σ μ1 (fun ws μ2 => ws.length + 1 = n ∧ F C (d :: ws) μ2 Q E) E) E
theorem ej_meth {pl : Sem Bool} {P : Addr → Prop} {F : Addr → Spec} (M : MethT X P m k ps F) (hr : RmG k X.A) (tk : Takes X W) (ho : EJ X G W o mo) (ha : AJ X G W (e :: es) mas)
    (hst : starEach (e :: es) X.env = (false, eval e X.env) :: starEach es X.env := by rfl) (hpl : (backTo pos (starEach es X.env)).any (·.1) = false := by rfl)
    (ht : eval (.Call (.Attribute o m apos) (e :: es) [] pos) X.env = (do
      let ov ← eval o X.env
      standAt apos.atName
      let (f, first) ← holding [ov] (getMethod ov m pl)
      callWith pos f first (backTo pos (starEach (e :: es) X.env)) (backToKw pos (keywordEach [] X.env))) := by rfl) : EJ X G W (.Call (.Attribute o m apos) (e :: es) [] pos) (mMeth P m ps.length F mo mas) := ⟨fun σ μ Q E q Z σv H R x => by
  intro pins s I
  refine PySem.W.methodCall_KW (pl := pl) (thn (ho.run σ μ _ E q Z σv H R x pins s I) fun u s1 ⟨v1, H1, I1, ru, d, μ1, h1, n1, rl1, r1⟩ => ?_) ht
  obtain ⟨C, ns, ds, hv, pC, hno, h2⟩ := h1
  obtain ⟨a, dx, xs, rfl, hH, l, rl⟩ := viewI_ok rl1 hv r1
  obtain ⟨cl, g, fd, hM, Fn, hb⟩ := M.at_ C pC
  obtain rfl : u = Value.ref a := ru
  refine getmeth_ok I1 hH cl hM (fget_none hno) ?_
  have R1 := R.go n1 rl1
  refine PySem.W.callWith_K (first := [.ref a]) (h₀ := X.base) I1.ok.mod.kin hM.kp (thn (ha.run σ μ1 _ _ h2 Z σv H1 R1 (x.on n1) pos pins _ I1) fun us s2 ⟨vs, H2, I2, r, ws, μ2, h3, n2, rl2, rw'⟩ => ⟨I2.kIn, ?_⟩) hst hpl
  exact runG (us := .ref a :: us) (vs := .ref a :: vs) Fn hr hb tk I2 (.cons rfl r) (tsp_of (by rw [List.length_cons]; exact h3.1) h3.2 rl2 (RpL.cons (Rp.keep n2 _ _ r1) rw') (n1.trans n2) ((x.on n1).on n2))⟩
theorem ej_meth0 {pl : Sem Bool} {P : Addr → Prop} {F : Addr → Spec} (M : MethT X P m k ps F) (hr : RmG k X.A) (tk : Takes X W) (ho : EJ X G W o mo)
    (ht : eval (.Call (.Attribute o m apos) [] [] pos) X.env = (do
      let ov ← eval o X.env
      standAt apos.atName
      let (f, first) ← holding [ov] (getMethod ov m pl)
      callWith pos f first (backTo pos (starEach [] X.env)) (backToKw pos (keywordEach [] X.env))) := by rfl) : EJ X G W (.Call (.Attribute o m apos) [] [] pos) (mMeth P m ps.length F mo mNil) := ⟨fun σ μ Q E q Z σv H R x => by
  intro pins s I
  refine PySem.W.methodCall_KW (pl := pl) (thn (ho.run σ μ _ E q Z σv H R x pins s I) fun u s1 ⟨v1, H1, I1, ru, d, μ1, h1, n1, rl1, r1⟩ => ?_) ht
  obtain ⟨C, ns, ds, hv, pC, hno, h2⟩ := h1
  obtain ⟨a, dx, xs, rfl, hH, l, rl⟩ := viewI_ok rl1 hv r1
  obtain ⟨cl, g, fd, hM, Fn, hb⟩ := M.at_ C pC
  obtain rfl : u = Value.ref a := ru
  refine getmeth_ok I1 hH cl hM (fget_none hno) ?_
  have h3 : ([] : List D).length + 1 = ps.length ∧ F C [d] μ1 Q E := h2
  exact PySem.W.callWith_K0 (first := [.ref a]) I1.kIn hM.kp (runG (us := [.ref a]) (vs := [.ref a]) Fn hr hb tk I1 (.cons rfl .nil) (tsp_of (ds := [d]) h3.1 h3.2 rl1 (RpL.cons r1 RpL.nil) n1 (x.on n1)))⟩

structure PropT (X : Cx) (P : Addr → Prop) (f : Str) (k : Nat) (ps : List Str) (F : Addr → Spec) : Prop where
  at_ : ∀ C, P C → Cls X.K C ∧ ∃ p g fd, PropOf X.K C f p g ∧ FnT X k g fd ps (F C) ∧ Binds X.K fd ps []
def mProp (P : Addr → Prop) (n : Nat) (F : Addr → Spec) (mo : ME) : ME := fun σ μ Q E => mo σ μ (fun d μ1 => ∃ C ns ds, viewI μ1 d = some (C, ns, ds) ∧ P C ∧ 1 = n ∧ F C [d] μ1 Q noE) E
theorem ej_prop {P : Addr → Prop} {F : Addr → Spec} {f : Str} (M : PropT X P f k ps F) (hr : RmG (k + 1) X.A) (ho : EJ X G W o mo)
    (hab : attributeBase o f X.env (eval o X.env) = eval o X.env := by rfl) : EJ X G W (.Attribute o f pos) (mProp P ps.length F mo) := ⟨fun σ μ Q E q Z σv H R x => by
  intro pins s I
  refine attr_of hab (thn (ho.run σ μ _ E q Z σv H R x pins s I) fun u s1 ⟨v1, H1, I1, ru, d, μ1, h1, n1, rl1, r1⟩ => ?_)
  obtain ⟨C, ns, ds, hv, pC, hn, h2⟩ := h1
  obtain ⟨a, dx, xs, rfl, hH, l, rl⟩ := viewI_ok rl1 hv r1
  obtain ⟨cl, p, g, fd, hP, Fn, hb⟩ := M.at_ C pC
  obtain rfl : u = Value.ref a := ru
  obtain ⟨mA, O, _, _, _, _⟩ := ins_get I1.hok hH
  obtain ⟨od, J, _⟩ := O.look
  obtain ⟨rest, hrec⟩ := hP.rec_
  have I2 := I1.tok (s1.toks + 1)
  have bb := hb _ [.ref a] I2.kIn (by rw [List.append_nil, ← hn]; rfl)
  rw [List.append_nil] at bb
  have hcd : (PySem.W.clsIn X.K C).isSome = true := by
    obtain ⟨cd, hcd, _⟩ := PySem.W.any_some cl.hd
    rw [hcd]; rfl
  refine PySem.W.get_bind I1.kIn J (PySem.W.plainGet_of (cl.get f)).1 (PySem.W.findObj_data hcd hP.at_ hP.get hP.tak) (PySem.W.plainGet_of (cl.get f)).2 (wpAny_call (PySem.W.prop_get (s := { s1 with toks := s1.toks + 1 }) I1.kIn hrec ?_))
  refine codeAny_mono (Fn.run X.A.in1 X.stack { s1 with toks := s1.toks + 1 } H1 ⟨[.ref a], []⟩ [.ref a] [.ref a] (QE (kz X Z) μ H Q) E0 hr.r.in1 hr.g I2.env0.in1 bb (.cons rfl .nil) (tsp_of (ds := [d]) hn h2 rl1 (RpL.cons r1 RpL.nil) n1 xw0)) fun r s' hq => ?_
  cases r with
  | error er => exact False.elim (passL (X := X.nox) pins σv H1 _ er s' (I2.wish _) hq)
  | ok fl =>
    cases fl <;> first | exact False.elim hq | skip
    obtain ⟨v, H', I3, rv, q3⟩ := I2.after hq
    show wpAny _ _ (handedOut _) _ _ _
    rw [PySem.W.handedOut_of (handed_of rv)]
    exact wpAny_pure ⟨v, H', I3, rv, q3⟩⟩

def mkI (fz : Bool) (p : Addr) (μ : Sto) (Q : QD) : Prop := match fz with
  | false => Q (.raw (.ref p)) μ
  | true => match μ p with
    | some (.ins C ns ds) => Q (.ins C ns ds) (sdel μ p)
    | _ => False
def mMake (fz : Bool) (C : Addr) (n : Nat) (F : Spec) (mas : MA) : ME := fun σ μ Q E => mas σ μ (fun ds μ1 => ds.length + 1 = n ∧ ∀ p, μ1 p = none → F (.raw (.ref p) :: ds) (sset μ1 p (.ins C [] [])) (fun d μ2 => d = .non ∧ mkI fz p μ2 Q) (wE E)) E
theorem run_makeS {C : Addr} {pins : List (Addr × Obj)} {sp : Sp} {σ : L2.St} {H : Hp} {s : Shared} {Q : VK} {us : List Value} {vs : List V} (M : Mk X.K C f) (Fn : FnG X.prog X.w X.K X.mg X.base k f fd ps sp) (hr : RmG (k + 1) X.A) (hb : Binds X.K fd ps [])
    (tk : Takes X W) (I : Inv X pins σ H s) (r : Vals vs us)
    (h : ∀ x dx, H x = none → H dx = none → dx ≠ x → sp (.ref x :: vs) (upd (upd H dx (.own x)) x (.ins C dx [])) (fun v H2 => v = .non ∧ Q (.ref x) H2) (WE W σ)) :
    wpAny (model X.prog X.w) X.A (call (.ref C) us) (EP X pins σ Q) X.xe s := by
  let n := s.heap.objs.size
  have hq := h (n + 1) n (I.hok.fresh (Nat.le_succ _)) (I.hok.fresh (Nat.le_refl _)) (Nat.ne_of_lt (Nat.lt_succ_self _))
  have I2 := Inv.made (C := C) I
  have r2 : Vals (V.ref (n + 1) :: vs) (Value.ref (n + 1) :: us) := .cons rfl r
  have bb := hb _ (Value.ref (n + 1) :: us) I2.kIn (by rw [List.append_nil, ← r2.length]; exact Fn.len _ _ _ _ hq)
  rw [List.append_nil] at bb
  refine wpAny_call (make_map (f := f) I.kIn M.makes M.init (beq_iff_eq.mp M.fn) (codeAny_mono (Fn.run _ X.stack _ _ ⟨Value.ref (n + 1) :: us, []⟩ (Value.ref (n + 1) :: us) _ _ (WE W σ) (hr.r.make C us []) (guards_make hr.g) (I2.env0.make C us []) bb r2 hq) fun r s' hq' => ?_))
  cases r with
  | error e => exact passAt tk σ pins _ _ e s' I2 hq'
  | ok fl =>
    cases fl <;> first | exact False.elim hq' | skip
    obtain ⟨v, H', I3, rv, ev, q3⟩ := I2.after hq'
    subst ev
    exact ⟨rv, ⟨V.ref (n + 1), H', I3, rfl, q3⟩⟩
theorem sub_del {μ : Sto} {p : Addr} : Sub (sdel μ p) μ := fun a o h => by
  by_cases z : a = p
  · rw [z, sdel_same] at h; cases h
  · rw [sdel_ne z] at h; exact h
theorem mkI_ok {fz : Bool} {K : KZ} {μ0 μ : Sto} {H0 H : Hp} {Q : QD} {p : Addr} (R : Rel K μ H) (n : Nx μ0 H0 μ H) (q : mkI fz p μ Q) : QE K μ0 H0 Q (.ref p) H := by
  cases fz with
  | false => exact ⟨_, μ, q, n, R, rp_raw'⟩
  | true =>
    unfold mkI at q
    dsimp only at q
    split at q
    · rename_i C ns ds hm
      obtain ⟨dx, xs, hH, l, rl⟩ := R.co hm
      have n2 : Nx μ H (sdel μ p) H := Nx.sub sub_del
      exact ⟨.ins C ns ds, _, q, n.trans n2, R.sub sub_del, rp_ins.mpr ⟨p, dx, xs, rfl, hH, ⟨sdel_same, (R.1 p _ hm).2⟩, l, RpL.keep n2 _ _ rl⟩⟩
    · exact q.elim
theorem make_sim {fz : Bool} {C : Addr} {K : KZ} {μ0 μ1 : Sto} {H0 H1 : Hp} {ds : List D} {vs : List V} {Q : QD} {E : ExD} {W' : XK} {n : Nat} (hn : ds.length + 1 = n) (h : ∀ p, μ1 p = none → F (.raw (.ref p) :: ds) (sset μ1 p (.ins C [] [])) (fun d μ2 => d = .non ∧ mkI fz p μ2 Q) (wE E))
    (R : Rel K μ1 H1) (r : RpL K μ1 H1 ds vs) (n0 : Nx μ0 H0 μ1 H1) (hx : XW K μ1 H1 E W') (x dx : Addr) (hx0 : H1 x = none) (hdx : H1 dx = none) (ne : dx ≠ x) :
    TSp K.K n F (.ref x :: vs) (upd (upd H1 dx (.own x)) x (.ins C dx [])) (fun v H2 => v = .non ∧ QE K μ0 H0 Q (.ref x) H2) W' := by
  have R' : Rel K μ1 (upd H1 dx (.own x)) := R.new hdx
  have n1 : Nx μ1 H1 μ1 (upd H1 dx (.own x)) := Nx.new R hdx
  have hx1 : upd H1 dx (.own x) x = none := by rw [upd_ne (Ne.symm ne)]; exact hx0
  have n2 : Nx μ1 (upd H1 dx (.own x)) (sset μ1 x (.ins C [] [])) (upd (upd H1 dx (.own x)) x (.ins C dx [])) := Nx.newM R' hx1
  have R2 : Rel K (sset μ1 x (.ins C [] [])) (upd (upd H1 dx (.own x)) x (.ins C dx [])) := R'.newM hx1 ⟨dx, [], upd_same, rfl, RpL.nil⟩
  have nn := n1.trans n2
  refine ⟨K.Z, .raw (.ref x) :: ds, _, _, _, by rw [List.length_cons]; exact hn, h x (R.free hx0), R2, RpL.cons rp_raw' (RpL.keep nn _ _ r), fun v H' q => ?_, ?_⟩
  · obtain ⟨d, μ', ⟨hd, hq⟩, n3, rl, rp⟩ := q
    subst hd
    exact ⟨rp_non.mp rp, mkI_ok rl (n0.trans (nn.trans n3)) hq⟩
  · exact (hx.on nn).weak
theorem ej_make (fz : Bool) {C : Addr} (M : Mk X.K C f) (Fn : FnT X k f fd ps F) (hr : RmG (k + 1) X.A) (hg : Gl X x) (hm : X.mg x = some (.ref C)) (hb : Binds X.K fd ps []) (tk : Takes X W) (ha : AJ X G W (e :: es) mas)
    (hdb : (x == ("__debug__" : Str)) = false := by decide) (he : starEach (e :: es) X.env = (false, eval e X.env) :: starEach es X.env := by rfl) (hpl : (backTo pos (starEach es X.env)).any (·.1) = false := by rfl) :
    EJ X G W (.Call (.Name x p) (e :: es) [] pos) (mMake fz C ps.length F mas) := ⟨fun σ μ Q E q Z σv H R x pins s I => by
  refine wpAny_Call_Name_kw (ld_glob I hg hm ?_ hdb)
  refine PySem.W.callWith_K (h₀ := X.base) I.ok.mod.kin M.kp (thn (ha.run σ μ _ _ q Z σv H R x pos pins s I) fun us s1 ⟨vs, H1, I1, r, ds, μ1, h1, n1, rl1, rd⟩ => ⟨I1.kIn, ?_⟩) he hpl
  exact run_makeS M Fn hr hb tk I1 r fun x' dx hx0 hdx ne => make_sim (K := kz X Z) h1.1 h1.2 rl1 rd n1 (x.on n1) x' dx hx0 hdx ne⟩
end
end TL

namespace TL
open PySem PySem.Spec PyProof.Rows L2

def spDue (K : PySem.W.Frag) : Sp := fun vs H Q _ => ∃ (a C : Addr) (v : V), vs = [.ref a, v] ∧ OexC K C ∧ PySem.W.findIn K (.ref C) "value" = some none ∧ H a = some (exo a C none) ∧
  ∀ dx, H dx = none → dx ≠ a → Q .non (upd (upd H dx (exd dx [(("value" : Str), v)])) a (exo a C (some dx)))
theorem due_len {K : PySem.W.Frag} {vs : List V} {H : Hp} {Q : VK} {E : XK} (h : spDue K vs H Q E) : vs.length = 2 := by
  obtain ⟨a, C, v, rfl, _⟩ := h
  rfl
theorem due_read {K : PySem.W.Frag} {vs : List V} {H : Hp} {Q : VK} {E : XK} (h : spDue K vs H Q E) : tOst K "value" (tVar 0) (tVar 1) { nx := fun _ H' => Q .non H', rt := Q } (L2.start ["self", "value"] vs) H := by
  obtain ⟨a, C, v, rfl, T, hv, hH, k⟩ := h
  exact ⟨v, rfl, .ref a, rfl, a, C, rfl, T, hv, .inl ⟨hH, k⟩⟩
structure DueT (X : Cx) (fI : Addr) (fd : FuncData) (k : Nat) : Prop where
  fn : FnOk X.prog X.w X.K X.mg X.base (L2.CX X.prog X.w) k fI fd ["self", "value"] (spDue X.K)
  tI : PySem.W.typeIn X.K (.ref fI) = some (.type "function")
  b : Binds X.K fd ["self", "value"] []
structure ExT (K : PySem.W.Frag) (fI C : Addr) : Prop where
  o : OexC K C
  hv : PySem.W.findIn K (.ref C) "value" = some none
  iC : PySem.W.findIn K (.ref C) "__init__" = some (some (.ref fI))
def mRaise (C : Addr) (m : ME) : MS := fun Dn σ μ => m σ μ (fun d μ1 => Dn.ex C d σ μ1) (exAt Dn σ)
section
variable {X : Cx} {G : GI} {W : WX} {pos p pos2 : Pos} {e : Expr} {ma : ME} {x : Str} {fI C : Addr} {fd : FuncData} {k : Nat}
theorem sj_raise (hc : X.calm = true) (tk : Takes X W) (T : DueT X fI fd k) (hr : Room (k + 1) X.A) (E : ExT X.K fI C) (hg : Gl X x) (hm : X.mg x = some (.ref C)) (he : EJ X G W e ma)
    (hdb : (x == ("__debug__" : Str)) = false := by decide) (hs : starEach (e :: []) X.env = (false, eval e X.env) :: starEach [] X.env := by rfl) (hpl : (backTo pos (starEach [] X.env)).any (·.1) = false := by rfl) :
    SJ X G W (.Raise (some (.Call (.Name x p) [e] [] pos)) none pos2) (mRaise C ma) := ⟨fun Dn σ μ q Z σv H R xs => by
  refine toS (ps_raise hc tk (pmk_oex (sp := spDue X.K) (dvs := []) E.o E.iC T.tI T.fn hr T.b .nil passL hg hm paS hdb hs hpl)) ?_
  refine aj1 he q R (xs.at R) (fun d μ1 v H1 h1 n1 R1 r1 => ?_) hs
  refine ⟨by simp, fun a ha => ?_⟩
  refine ⟨a, C, v, rfl, E.o, E.hv, upd_same, fun dx hdx ne => ⟨rfl, dx, [(("value" : Str), v)], upd_same, ?_, ?_, ?_⟩⟩
  · rw [upd_ne ne, upd_same]
  · rw [upd_ne ne] at hdx; exact hdx
  · have hdx1 : H1 dx = none := by rw [upd_ne ne] at hdx; exact hdx
    have eq : upd (del (upd (upd (upd H1 a (exo a C none)) dx (exd dx [(("value" : Str), v)])) a (exo a C (some dx))) a) dx (.xd [(("value" : Str), v)]) = upd H1 dx (.xd [(("value" : Str), v)]) := by
      funext b
      by_cases hb : b = dx
      · rw [hb, upd_same, upd_same]
      · rw [upd_ne hb, upd_ne hb]
        by_cases hba : b = a
        · rw [hba, del_same, ha]
        · rw [del_ne hba, upd_ne hba, upd_ne hb, upd_ne hba]
    rw [eq]
    have n2 : Nx μ1 H1 μ1 (upd H1 dx (.xd [(("value" : Str), v)])) := Nx.new R1.rel hdx1
    exact xs C d σ μ1 σv _ dx h1 (n1.trans n2) (R1.go n2 (R1.rel.new hdx1)) ⟨(R1.rel.free hdx1), v, upd_same, Rp.keep n2 _ _ r1⟩⟩

def GX (dd : Addr) (val : D) : GI := ⟨fun K μ H => ExAt K μ H dd val, fun {K μ H μ' H'} h n => by
  obtain ⟨m, w, hd, r⟩ := h
  obtain ⟨h', m'⟩ := n dd _ hd m
  exact ⟨m', w, h', Rp.keep n _ _ r⟩⟩
structure ExcG (K : PySem.W.Frag) (C : Addr) : Prop extends ExcC K C where
  noN : PySem.W.findIn K (.ref C) "value" = some none
def sufD (Dn : DE) (i : Nat) : DE := { nx := fun σ μ => Dn.nx (σ.set i none) μ, rt := Dn.rt, bk := fun σ μ => Dn.bk (σ.set i none) μ, ct := fun σ μ => Dn.ct (σ.set i none) μ, ex := fun _ _ _ _ => False }
def mTry (K : PySem.W.Frag) (exm : Addr → Option Bool) (i : Nat) (mb : MS) (ms : Addr → Addr → D → MS) : MS := fun Dn σ μ => mb { Dn with ex := fun C val σ' μ' => match exm C with
  | some true => ExcG K C ∧ ∀ a, ms a C val (sufD Dn i) (σ'.set i (some (.raw (.ref a)))) μ'
  | some false => Dn.ex C val σ' μ'
  | none => False } σ μ
theorem sj_try {n : Str} {c : Value} {i : Nat} {body suite : List Stmt} {b₀ : Stmt} {np pos' : Pos} {mb : MS} {ms : Addr → Addr → D → MS} (hs : X.stack = X.env :: X.outer) (hf : X.env.frame = some X.env.locals) (hN : X.N.Nodup) (hi : X.N[i]? = some n) (hln : X.env.kindOf n = some .local) (hc : Names X x c) (tk : Takes X W)
    (hb : ∀ (W' : WX) (pn : List (Addr × Obj)) (xe : Value → Shared → Prop), Takes (X.tr pn xe) W' → PassesOwn (model X.prog X.w) X.A X.env xe → SJs (X.tr pn xe) G0 W' body mb)
    (hsu : ∀ (a : Addr) (oe : Obj) (C dd : Addr) (val : D) (pn : List (Addr × Obj)), Zc (.ref C) (some dd) oe → (∃ vs, oe.data = .fields vs) → ExcG X.K C → SJs (X.suite a ((a, oe) :: pn)) (GX dd val) W0 (b₀ :: suite) (ms a C val)) :
    SJ X G0 W (.Try body [.ExceptHandler (some (.Name x np)) (some n) (b₀ :: suite) pos'] [] [] pos) (mTry X.K (fun C => PySem.W.exmOne X.K (.ref C) c) i mb ms) := ⟨fun Dn σ μ q Z σv H R xs => by
  refine toS (ps_try_as (i := i) (tb := fun W' => fun D σ H => ∀ pn xe, Takes (X.tr pn xe) W' → PassesOwn (model X.prog X.w) X.A X.env xe → ssS (X.tr pn xe) body D σ H)
    (ts := fun a cls d => fun D σ H => ∀ oe pn, Zc cls d oe → (∃ vs, oe.data = .fields vs) → ssS (X.suite a ((a, oe) :: pn)) (b₀ :: suite) D σ H) (Wout := W) hs hf hN hi hln hc tk
    (fun W' pn xe t po => ⟨fun pins s σ H D I h => h pn xe t po pins s I⟩) (fun a oe cls d pn hz hv => ⟨fun pins s σ H D I h => h oe pn hz hv pins s I⟩)) ?_
  intro pn xe t po
  refine (hb _ pn xe t po).run _ σ μ q Z σv H R ?_
  intro C val σ' μ' σv' H' dd he nx R' ea
  dsimp only at he
  split at he
  · rename_i hex
    refine ⟨true, hex, fun _ a ha oe pn' hz hv => ?_, fun z => by cases z⟩
    have R2 : RS (kz X Z) (GX dd val) (σ'.set i (some (.raw (.ref a)))) μ' (σv'.set i (some (.ref a))) H' := ⟨R'.rel, R'.sl.set i rp_raw', ea⟩
    refine ((hsu a oe C dd val pn' hz hv he.1).run (sufD Dn i) _ μ' (he.2 a) Z _ H' R2 (fun _ _ _ _ _ _ _ e => e.elim)).mono ⟨fun σ3 H3 h => ?_, fun v H3 h => h.back nx, fun σ3 H3 h => ?_, fun σ3 H3 h => ?_⟩
    · obtain ⟨σ4, μ4, q4, n4, R4⟩ := h
      exact ⟨_, μ4, q4, nx.trans n4, ⟨R4.rel, R4.sl.setN i, trivial⟩⟩
    · obtain ⟨σ4, μ4, q4, n4, R4⟩ := h
      exact ⟨_, μ4, q4, nx.trans n4, ⟨R4.rel, R4.sl.setN i, trivial⟩⟩
    · obtain ⟨σ4, μ4, q4, n4, R4⟩ := h
      exact ⟨_, μ4, q4, nx.trans n4, ⟨R4.rel, R4.sl.setN i, trivial⟩⟩
  · rename_i hex
    exact ⟨false, hex, (fun z => by cases z), fun _ => xs C val σ' μ' σv' H' dd he nx R' ea⟩
  · exact he.elim⟩
end

end TL
namespace TL
open PySem PySem.Spec PySem.Calls PyProof.Rows L2
section
variable {X : Cx} {W : WX} {a C dd : Addr} {val : D} {oe : Obj} {pn : List (Addr × Obj)} {pos p : Pos} {e : Expr} {me : ME}
def mExVal (a : Addr) (val : D) (m : ME) : ME := fun σ μ Q E => m σ μ (fun d μ1 => d = .raw (.ref a) ∧ Q val μ1) E
theorem ej_exval (T : ExcG X.K C) (hz : Zc (.ref C) (some dd) oe) (hf : ∃ vs, oe.data = .fields vs) (he : EJ (X.suite a ((a, oe) :: pn)) (GX dd val) W e me)
    (hb : attributeBase e "value" X.env (eval e X.env) = eval e X.env := by rfl) : EJ (X.suite a ((a, oe) :: pn)) (GX dd val) W (.Attribute e "value" pos) (mExVal a val me) := ⟨fun σ μ Q E q Z σv H R x => by
  intro pins s I
  refine attr_of hb (thn (he.run σ μ _ E q Z σv H R x pins s I) fun u s1 ⟨v1, H1, I1, ru, d, μ1, ⟨hd, h1⟩, n1, rl1, r1⟩ => ?_)
  subst hd
  cases rp_raw.mp r1
  obtain rfl : u = Value.ref a := ru
  obtain ⟨ha, _⟩ := I1.pin (a, oe) (List.mem_append_left _ List.mem_cons_self)
  obtain ⟨vs, hdat⟩ := hf
  obtain ⟨m, w, hxd, rw'⟩ := (GX dd val).st R.g n1
  have hx : ObjOk X.prog X.w H1 s1.heap dd (.xd [(("value" : Str), w)]) := I1.hok dd _ hxd
  obtain ⟨mA, hns, hr⟩ := hx
  obtain ⟨od, ho, hl⟩ := lookIn_ns hns
  have l : List.lookup ("value" : Str) [(("value" : Str), w)] = some w := by simp [List.lookup]
  obtain ⟨u, hu, ru⟩ := RelO.some_of (v := w) (o := mA "value") (by rw [← l]; exact hr "value")
  have J : PySem.W.InstAt s1.heap a oe C (some od) := ⟨ha, hz.1, by unfold PySem.W.notCls; rw [hdat] <;> rfl, by rw [hz.2]; exact ho⟩
  exact HandSPX.exc_get I1.kIn J T.hg T.hk T.hs (PySem.W.findObj_own T.hd T.noN rfl (by rw [hl, hu])) (handed_of ru) ⟨w, H1, I1.tok _, ru, val, μ1, h1, n1, rl1, rw'⟩⟩
end
section
variable {prog : Program} {w : World} {A : Around} {E : Value → Shared → Prop} {s : Shared} {K : PySem.W.Frag} {x C : Addr} {ox od : Obj}
theorem exc_class {Q : Option Value → Shared → Prop} (T : ExcC K C) (X : K.In s.heap) (I : PySem.W.InstAt s.heap x ox C (some od)) (h : Q (some (.ref C)) { s with toks := s.toks + 1 }) : wpAny (model prog w) A (getAttr? (.ref x) "__class__") Q E s := by
  obtain ⟨cd, hcd, _⟩ := PySem.W.any_some T.hd
  have hcls : (PySem.W.clsIn K C).isSome = true := by rw [hcd]; rfl
  have hfo : PySem.W.findObj K C (some od) "__class__" = some (.bind (.builtin "getset_descriptor.__get__") (.builtin "object.__class__")) := PySem.W.findObj_data hcls T.ha T.hn T.ht
  obtain ⟨hp, g, d, t, os⟩ := s
  have t0 := I.type (M := model prog w)
  have t1 := PySem.W.looks_findIn (M := model prog w) X T.hg
  have t2 := PySem.W.looks_findIn (M := model prog w) X T.hk
  have t3 := PySem.W.looks_find (M := model prog w) X I hfo
  have tb : PySem.W.Looks (model prog w) hp (isInstance (.ref x) (.type "BaseException")) true := t0.andThen (PySem.W.looks_subIn X T.hs)
  have b0 : (Value.builtin "BaseException.__getattribute__" == Value.builtin "object.__getattribute__") = false := by decide +kernel
  have b1 : (onTheHeap (Value.ref C) && Value.builtin "BaseException.__getattribute__" == Value.builtin "object.__getattribute__") = false := by rw [b0]; rfl
  unfold getAttr? getAttrBy? getAttrBy
  refine wpAny_bind (wpAny_mkText (wpAny_bind (wpAny_attempt (wpAny_holding (wpAny_bind (t0.at (wpAny_bind (t1.at ?_))))))))
  show wpAny _ _ (if (onTheHeap (Value.ref C) && Value.builtin "BaseException.__getattribute__" == Value.builtin "object.__getattribute__") = true then _ else _) _ _ _
  rw [b1, if_neg Bool.false_ne_true]
  unfold getAttrByItsOwn hookBefore
  refine wpAny_bind ?_
  rw [if_pos (show onTheHeap (Value.ref C) = true from rfl)]
  refine t2.at (wpAny_bind (wpAny_attempt (wpAny_holding ?_)))
  unfold callGetattribute
  rw [show (false && onTheHeap (Value.builtin "BaseException.__getattribute__")) = false from rfl, if_neg Bool.false_ne_true]
  unfold boundAndCalled
  rw [PySem.F.excAttr_ValueError.ga.bind (.ref x)]
  refine wpAny_bind (wpAny_pure ?_)
  show wpAny _ _ (call (.builtin "BaseException.__getattribute__") [.ref x, .str "__class__" t]) _ _ _
  refine wpAny_call (codeAny_call_builtin PySem.F.excAttr_ValueError.ga.plain PySem.F.entry_bexc_ga ?_)
  refine @PySem.W.check_slot (model prog w) _ _ ⟨hp, g, d, t + 1, os⟩ "BaseException.__getattribute__" "BaseException" "__getattribute__" (.ref x) [.str "__class__" t] [] _ (by decide +kernel) (by decide +kernel) tb (PySem.F.args_bexc_ga (.ref x) (.str "__class__" t)) ?_
  unfold Builtin.«object.__getattribute__»
  refine wpAny_bind (wpAny_of_eq (a := ((Value.ref x : Value), [Value.str "__class__" t])) (by first | rfl | (simp only [slotArgs]; rfl)) ?_)
  refine wpAny_bind (wpAny_pure (wpAny_bind (t0.at (wpAny_bind (t3.at ?_)))))
  show wpAny _ _ (holding [Value.builtin "object.__class__"] (call (.builtin "getset_descriptor.__get__") [.builtin "object.__class__", .ref x, .ref C]) >>= ret) _ _ _
  refine wpAny_bind (wpAny_holding (wpAny_call (PySem.W.class_get (s := ⟨hp, g, d, t + 1, os⟩) (ox := ox) (od := some od) X I T.hm ?_)))
  refine wpAny_pure ?_
  show wpAny _ _ (handedOut (.ref C)) _ _ _
  rw [PySem.W.handedOut_of (v := .ref C) rfl]
  first
    | exact wpAny_pure (wpAny_pure h)
    | exact wpAny_pure h
    | exact wpAny_pure (wpAny_bind (wpAny_pure (wpAny_pure h)))
theorem exc_kit (T : ExcC K C) : PySem.W.KitX K (.ref x) (.ref C) (fun h => PySem.W.InstAt h x ox C (some od)) where
  ty := fun _ _ _ I => I.type
  it := fun M h X I => by
    obtain ⟨cdC, hcC, _⟩ := PySem.W.any_some T.hd
    unfold PySem.W.clsIn at hcC
    split at hcC
    · rename_i c' d' cd' sl' hk'
      intro A' Q' E' s' k q
      unfold isType loadHead
      exact wpAny_bind (wpAny_loadPart (k _ _ (X _ _ hk')) (wpAny_pure q))
    · cases hcC
  ne := (PySem.W.handS_kitx_exc (x := x) (ox := ox) T.hg T.hk T.hs T.hd T.ha T.hn T.ht T.hm).ne
  ca := fun X I k => exc_class T X I k
end
section
variable {X : Cx} {W : WX} {a C dd : Addr} {val : D} {oe : Obj} {pn : List (Addr × Obj)} {pos p p2 : Pos} {e : Expr} {me : ME} {y : Str} {C2 : Addr} {b : Bool}
def mExIs (a : Addr) (b : Option Bool) (m : ME) : ME := fun σ μ Q E => m σ μ (fun d μ1 => d = .raw (.ref a) ∧ ∃ r, b = some r ∧ Q (.bl r) μ1) E
theorem ej_exis (T : ExcC X.K C) (hz : Zc (.ref C) (some dd) oe) (hf : ∃ vs, oe.data = .fields vs) (he : EJ (X.suite a ((a, oe) :: pn)) (GX dd val) W e me) (hg : Gl X "isinstance") (hm : X.mg "isinstance" = none)
    (hg2 : Gl X y) (hm2 : X.mg y = some (.ref C2)) (hd2 : (y == ("__debug__" : Str)) = false := by decide) (hst : starEach (e :: [.Name y p2]) X.env = (false, eval e X.env) :: starEach [.Name y p2] X.env := by rfl)
    (hst2 : starEach [.Name y p2] X.env = (false, eval (.Name y p2) X.env) :: starEach [] X.env := by rfl)
    (hpl : (backTo pos (starEach [.Name y p2] X.env)).any (·.1) = false := by rfl) :
    EJ (X.suite a ((a, oe) :: pn)) (GX dd val) W (.Call (.Name "isinstance" p) [e, .Name y p2] [] pos) (mExIs a (PySem.W.kitOne X.K (.ref C) (.ref C2)) me) := ⟨fun σ μ Q E q Z σv H R x => by
  have cr : CallR (X.suite a ((a, oe) :: pn)) (.builtin "isinstance") (fun xs H Q => ∃ b, xs = [.ref a, .ref C2] ∧ H dd = H dd ∧ (∃ w, H dd = some (.xd [(("value" : Str), w)])) ∧ PySem.W.kitOne X.K (.ref C) (.ref C2) = some b ∧ Q (.bl b) H) := by
    intro pins s σ H xs us Q I r h
    obtain ⟨b, rfl, _, ⟨w, hxd⟩, ek, hq⟩ := h
    obtain ⟨u1, u2, rfl, r1, r2⟩ := vals2 r
    obtain rfl : u1 = Value.ref a := r1
    obtain rfl : u2 = Value.ref C2 := r2
    obtain ⟨hget, _⟩ := I.pin (a, oe) (List.mem_append.mpr (.inl List.mem_cons_self))
    obtain ⟨vs, hdat⟩ := hf
    have hx : ObjOk X.prog X.w H s.heap dd (.xd [(("value" : Str), w)]) := I.hok dd _ hxd
    obtain ⟨mA, hns, hr⟩ := hx
    obtain ⟨od, ho, hl⟩ := lookIn_ns hns
    have J : PySem.W.InstAt s.heap a oe C (some od) := ⟨hget, hz.1, by unfold PySem.W.notCls; rw [hdat] <;> rfl, by rw [hz.2]; exact ho⟩
    exact PySem.W.kia_one (exc_kit T) I.kIn J ek (fun z => nomatch z) fun tk => ⟨.bl b, H, I.kept (t' := tk) fun _ _ z => z, rfl, hq⟩
  refine toE (pe_callB cr hg hm (by decide +kernel) (pa_cons pS (pa_cons (pe_glob hg2 hm2 (v := .ref C2) rfl hd2) pa_nil hst2) hst) (by decide) (by decide) hst hpl) ?_
  refine he.then q R x fun d μ1 v1 H1 h1 n1 R1 x1 r1 => ?_
  obtain ⟨rfl, r, hr, hq⟩ := h1
  cases rp_raw.mp r1
  obtain ⟨m, w, hxd, _⟩ := R1.g
  exact ⟨r, rfl, rfl, ⟨w, hxd⟩, hr, ⟨_, μ1, hq, n1, R1.rel, rp_bl'⟩⟩⟩
end
end TL

namespace TL
open PySem PySem.Spec PyProof.Rows L2

mutual
def pyD : D → PyData
  | .non => .none
  | .bl b => .bool b
  | .int i => .int i
  | .str x => .str x
  | .tup xs => .tuple (pyDs xs)
  | .lst xs => .list (pyDs xs)
  | .scr xs => .list (pyDs xs)
  | .ins _ _ _ => .none
  | .raw _ => .none
def pyDs : List D → List PyData
  | [] => []
  | x :: xs => pyD x :: pyDs xs
end
inductive Pr : Nat → Nat → D → Prop
  | non {n b} : 5 ≤ b → Pr n b .non
  | bl {n b x} : 5 ≤ b → Pr n b (.bl x)
  | int {n b i} : i.natAbs.log2 < 1900 → 1921 ≤ b → Pr n b (.int i)
  | str {n b x} : (reprText x).length ≤ b → Pr n b (.str x)
  | lst {n b c m xs} : (∀ x ∈ xs, Pr n b x) → xs.length ≤ m → m * (b + 2) + 3 ≤ c → Pr (n + 1) c (.lst xs)
  | tup {n b c m xs} : (∀ x ∈ xs, Pr n b x) → xs.length ≤ m → m * (b + 2) + 3 ≤ c → Pr (n + 1) c (.tup xs)
theorem shownAll_len {xs : List D} : (PyData.shownAll (pyDs xs)).length = xs.length := by
  induction xs with
  | nil => rfl
  | cons x xs ih =>
    show (PyData.shown (pyD x) :: PyData.shownAll (pyDs xs)).length = _
    simp [ih]
theorem shownAll_sum {b : Nat} {xs : List D} (h : ∀ x ∈ xs, (pyD x).shown.length ≤ b) : ((PyData.shownAll (pyDs xs)).map (·.length)).sum ≤ xs.length * b := by
  induction xs with
  | nil => simp [pyDs, PyData.shownAll]
  | cons x xs ih =>
    show ((PyData.shown (pyD x) :: PyData.shownAll (pyDs xs)).map (·.length)).sum ≤ _
    have h1 := h x (by simp)
    have h2 := ih fun y hy => h y (by simp [hy])
    simp only [List.map_cons, List.sum_cons, List.length_cons, Nat.add_mul, Nat.one_mul]
    omega
theorem depthAll_le {n : Nat} {xs : List D} (h : ∀ x ∈ xs, (pyD x).depth ≤ n) : PyData.depthAll (pyDs xs) ≤ n := by
  induction xs with
  | nil => simp [pyDs, PyData.depthAll]
  | cons x xs ih =>
    show max (pyD x).depth (PyData.depthAll (pyDs xs)) ≤ n
    have h1 := h x (by simp)
    have h2 := ih fun y hy => h y (by simp [hy])
    omega
theorem showAll_ok {xs : List D} (h : ∀ x ∈ xs, (pyD x).showable = true) : PyData.showableAll (pyDs xs) = true := by
  induction xs with
  | nil => simp [pyDs, PyData.showableAll]
  | cons x xs ih =>
    show ((pyD x).showable && PyData.showableAll (pyDs xs)) = true
    rw [h x (by simp), ih fun y hy => h y (by simp [hy])]
    rfl
theorem noDictAll {xs : List D} (h : ∀ x ∈ xs, (pyD x).hasDict = false) : PyData.hasDictAll (pyDs xs) = false := by
  induction xs with
  | nil => simp [pyDs, PyData.hasDictAll]
  | cons x xs ih =>
    show ((pyD x).hasDict || PyData.hasDictAll (pyDs xs)) = false
    rw [h x (by simp), ih fun y hy => h y (by simp [hy])]
    rfl
structure PrOk (n b : Nat) (d : D) : Prop where
  len : (pyD d).shown.length ≤ b
  dep : (pyD d).depth ≤ n
  sh : (pyD d).showable = true
  nd : (pyD d).hasDict = false
theorem Pr.ok {n b : Nat} {d : D} (h : Pr n b d) : PrOk n b d := by
  induction h with
  | non h => exact ⟨by show (4 : Nat) ≤ _; omega, by simp [pyD, PyData.depth], by simp [pyD, PyData.showable], by simp [pyD, PyData.hasDict]⟩
  | @bl n b x h =>
    refine ⟨?_, by simp [pyD, PyData.depth], by simp [pyD, PyData.showable], by simp [pyD, PyData.hasDict]⟩
    cases x
    · show (5 : Nat) ≤ _; omega
    · show (4 : Nat) ≤ _; omega
  | @int n b i h hb =>
    refine ⟨?_, by simp [pyD, PyData.depth], by simp only [pyD, PyData.showable, decide_eq_true_eq]; omega, by simp [pyD, PyData.hasDict]⟩
    have e := int_text_len_1921 (i := i) (by omega)
    show (Str.ofString (toString i)).length ≤ b
    omega
  | @str n b x h => exact ⟨h, by simp [pyD, PyData.depth], by simp [pyD, PyData.showable], by simp [pyD, PyData.hasDict]⟩
  | @lst n b c m xs _ hl hc ih =>
    refine ⟨?_, ?_, ?_, ?_⟩
    · show (listText (PyData.shownAll (pyDs xs))).length ≤ c
      have h1 := listText_len_le (PyData.shownAll (pyDs xs))
      have h2 := shownAll_sum fun x hx => (ih x hx).len
      rw [shownAll_len] at h1
      have h3 : xs.length * b + 2 * xs.length ≤ m * (b + 2) := by
        rw [Nat.mul_comm 2, ← Nat.mul_add]
        exact Nat.mul_le_mul_right _ hl
      omega
    · show PyData.depthAll (pyDs xs) + 1 ≤ n + 1
      have := depthAll_le fun x hx => (ih x hx).dep
      omega
    · exact showAll_ok fun x hx => (ih x hx).sh
    · exact noDictAll fun x hx => (ih x hx).nd
  | @tup n b c m xs _ hl hc ih =>
    refine ⟨?_, ?_, ?_, ?_⟩
    · show (tupleText (PyData.shownAll (pyDs xs))).length ≤ c
      have h1 := tupleText_len_le (PyData.shownAll (pyDs xs))
      have h2 := shownAll_sum fun x hx => (ih x hx).len
      rw [shownAll_len] at h1
      have h3 : xs.length * b + 2 * xs.length ≤ m * (b + 2) := by
        rw [Nat.mul_comm 2, ← Nat.mul_add]
        exact Nat.mul_le_mul_right _ hl
      omega
    · show PyData.depthAll (pyDs xs) + 1 ≤ n + 1
      have := depthAll_le fun x hx => (ih x hx).dep
      omega
    · exact showAll_ok fun x hx => (ih x hx).sh
    · exact noDictAll fun x hx => (ih x hx).nd
mutual
def isPy : D → Bool
  | .ins _ _ _ => false
  | .raw _ => false
  | .tup xs => isPys xs
  | .lst xs => isPys xs
  | .scr xs => isPys xs
  | _ => true
def isPys : List D → Bool
  | [] => true
  | x :: xs => isPy x && isPys xs
end
theorem isPys_of {xs : List D} (h : ∀ x ∈ xs, isPy x = true) : isPys xs = true := by
  induction xs with
  | nil => rfl
  | cons x xs ih =>
    show (isPy x && isPys xs) = true
    rw [h x (by simp), ih fun y hy => h y (by simp [hy])]
    rfl
theorem Pr.py {n b : Nat} {d : D} (h : Pr n b d) : isPy d = true := by
  induction h with
  | lst _ _ _ ih => exact isPys_of ih
  | tup _ _ _ ih => exact isPys_of ih
  | _ => rfl
mutual
theorem Rp.dp {K : KZ} {μ : Sto} {H : Hp} : ∀ (d : D) (v : V), isPy d = true → Rp K μ H d v → Dp K.K H v (pyD d)
  | .non, v, _, h => by rw [rp_non.mp h]; exact .non
  | .bl b, v, _, h => by rw [rp_bl.mp h]; exact .bl b
  | .int i, v, _, h => by rw [rp_int.mp h]; exact .int i
  | .str x, v, _, h => by rw [rp_str.mp h]; exact .str x
  | .tup ds, v, p, h => by
    obtain ⟨a, xs, rfl, s, l⟩ := rp_tup.mp h
    exact .tup s.seq (RpL.dp ds xs p l)
  | .lst ds, v, p, h => by
    obtain ⟨a, xs, rfl, s, l⟩ := rp_lst.mp h
    exact .lst s.seq (RpL.dp ds xs p l)
  | .scr ds, v, p, h => by
    obtain ⟨a, xs, rfl, s, l⟩ := rp_scr.mp h
    exact .lst s.seq (RpL.dp ds xs p l)
  | .ins _ _ _, v, p, _ => by cases p
  | .raw _, v, p, _ => by cases p
theorem RpL.dp {K : KZ} {μ : Sto} {H : Hp} : ∀ (ds : List D) (xs : List V), isPys ds = true → RpL K μ H ds xs → DpAll K.K H xs (pyDs ds)
  | [], xs, _, h => by rw [rpl_nil.mp h]; exact .nil
  | d :: ds, xs, p, h => by
    obtain ⟨v, r, rfl, h1, h2⟩ := rpl_cons.mp h
    have p' : (isPy d && isPys ds) = true := p
    rw [Bool.and_eq_true] at p'
    exact .cons (Rp.dp d v p'.1 h1) (RpL.dp ds r p'.2 h2)
end
section
variable {X : Cx} {G : GI} {W : WX} {pos p : Pos} {e a b : Expr} {ma mb : ME} {es : List Expr} {mas : MA}
def rRepr : List D → Sto → QD → Prop := fun ds μ Q => ∃ d n c, ds = [d] ∧ ((∃ xs, d = .lst xs) ∨ ∃ xs, d = .tup xs) ∧ Pr n c d ∧ n ≤ 60 ∧ c ≤ 16777216 ∧ Q (.str (pyD d).shown) μ
def cd_repr (hg : X.A.guards = some []) (hr : Room 0 X.A) : CaD X (.builtin "repr") rRepr where
  rv := fun vs H Q => ∃ (a : Addr) (d : PyData) (n c : Nat), vs = [.ref a] ∧ Dp X.K H (.ref a) d ∧ d.hasDict = false ∧ d.showable = true ∧ d.depth ≤ 60 ∧ d.shown.length ≤ sizeLine ∧ Q (.str d.shown) H
  op := by
    intro pins s σ H vs us Q I r h
    obtain ⟨a, d, _, _, rfl, hd, h1, h2, h3, h4, hq⟩ := h
    rw [Vals.ref1 r]
    obtain ⟨as, rd⟩ := Dp.reads I d (.ref a) (.ref a) hd rfl
    refine repr_of_reads' rd h2 (PyData.noDict_hsm h1) hg (by have := hr.units; omega) (fun _ _ e => e) (fun h' u tk hk => ?_) h4
    exact ⟨.str d.shown, H, I.kept (t' := tk) hk, ⟨u, rfl⟩, hq⟩
  sim := fun Z μ H ds vs Q Q' R r q k => by
    obtain ⟨d, n, c, rfl, hs, hp, hn, hc, hq⟩ := q
    obtain ⟨v, rfl, rd⟩ := rpl1 r
    have ok := hp.ok
    have hsz : (pyD d).shown.length ≤ sizeLine := by rw [sizeLine_eq]; have := ok.len; omega
    have key : ∃ a, v = .ref a := by
      rcases hs with ⟨xs, rfl⟩ | ⟨xs, rfl⟩
      · obtain ⟨a, _, e, _⟩ := rp_lst.mp rd; exact ⟨a, e⟩
      · obtain ⟨a, _, e, _⟩ := rp_tup.mp rd; exact ⟨a, e⟩
    obtain ⟨a, rfl⟩ := key
    exact ⟨a, pyD d, n, c, rfl, Rp.dp d _ hp.py rd, ok.nd, ok.sh, by have := ok.dep; omega, hsz, k _ _ (QE.fin R hq rp_str')⟩
end
end TL

namespace TL
open PySem PySem.Spec PyProof.Rows L2

section
open AutoSeq1 (wpAny_loadPart')
variable {prog : Program} {w : World} {A : Around} {E : Value → Shared → Prop}
theorem rc_unlike {l b : Addr} {items items2 : Array Value} {n n2 : Nat} {Q : Value → Shared → Prop} {s : Shared} (hu : A.units < cLine) (hl : s.heap.get? l = some { cls := .type "list", data := .seq items n }) (hb : s.heap.get? b = some { cls := .type "list", data := .seq items2 n2 })
    (hsz : items.size ≠ items2.size) (h : Q (.bool false) s) : wpAny (model prog w) A (richCompare .Eq (.ref l) (.ref b)) Q E s := by
  refine wpAny_richCompare_same_room (op := .Eq) ⟨_, hl, rfl⟩ ⟨_, hb, rfl⟩ F.slot_list_eq (GQ.call_here F.slot_list_eq ⟨_, hl, rfl⟩ F.entry_list_eq (F.args_list_eq_2 _ _) ?_) hu
  obtain ⟨hp, g, d, tk, os⟩ := s
  have f3 := AutoSeq1.sub_list_list
  have hne : (items.size != items2.size) = true := by simpa using hsz
  wp_walk using wpAny_loadPart' hl, wpAny_loadPart' hb
  exact (show Value.bool false ≠ Value.notImplemented ∧ Q (Value.bool false) _ from ⟨(fun z => nomatch z), h⟩)
end
def nilEq : List D → List D → Option Bool
  | [], [] => some true
  | xs, ys => if xs.length = ys.length then none else some false
def rEqN : R2D := fun x y μ Q => match viewM μ x, viewM μ y with
  | some xs, some ys => match nilEq xs ys with
    | some r => Q (.bl r) μ
    | none => False
  | _, _ => False
theorem nilEq_cases {xs ys : List D} {r : Bool} (h : nilEq xs ys = some r) : (r = true ∧ xs = [] ∧ ys = []) ∨ (r = false ∧ xs.length ≠ ys.length) := by
  unfold nilEq at h
  split at h
  · cases h; exact .inl ⟨rfl, rfl, rfl⟩
  · split at h
    · cases h
    · cases h; exact .inr ⟨rfl, by assumption⟩
section
variable {X : Cx} {G : GI} {W : WX}
theorem op_eqN (hr : Room 0 X.A) : OpR X (compareOp .Eq) (fun x y H Q => ∃ a b xs ys r, x = .ref a ∧ y = .ref b ∧ H a = some (.lst xs) ∧ H b = some (.lst ys) ∧ ((r = true ∧ xs = [] ∧ ys = []) ∨ (r = false ∧ xs.length ≠ ys.length)) ∧ Q (.bl r) H) := by
  intro pins s σ H x y v u Q I rx ry h
  obtain ⟨a, b, xs, ys, r, rfl, rfl, ha, hb, hc, hq⟩ := h
  cases rx
  cases ry
  obtain ⟨z, its, k, r1, e1⟩ := I.hok a _ ha
  obtain ⟨z2, its2, k2, r2, e2⟩ := I.hok b _ hb
  have hu : X.A.units < cLine := by have := hr.un; omega
  show wpAny (model X.prog X.w) X.A (richCompare .Eq (.ref a) (.ref b)) (EP X pins σ Q) X.xe s
  rcases hc with ⟨rfl, rfl, rfl⟩ | ⟨rfl, hne⟩
  · refine GQ.rc_listG (N := 0) hu (fun _ s' => s' = s) (fun i s' q => ?_) (fun s' q => ?_) rfl
    · subst q
      refine ⟨its.toArray, its2.toArray, k, k2, e1, e2, by rw [List.size_toArray, ← r1.length]; rfl, by rw [List.size_toArray, ← r2.length]; rfl, fun h1 => ?_⟩
      rw [List.size_toArray, ← r1.length] at h1
      exact absurd h1 (Nat.not_lt_zero _)
    · subst q
      exact ⟨.bl true, H, I, rfl, hq⟩
  · exact rc_unlike hu e1 e2 (by rw [List.size_toArray, List.size_toArray, ← r1.length, ← r2.length]; exact hne) ⟨.bl false, H, I, rfl, hq⟩
def od_eqN (hr : Room 0 X.A) : OpD X (compareOp .Eq) rEqN where
  rv := _
  op := op_eqN hr
  sim := fun Z μ H d1 d2 x y Q Q' R r1 r2 q k => by
    unfold rEqN at q
    split at q
    · rename_i xs ys e1 e2
      obtain ⟨a1, v1, rfl, h1, q1⟩ := viewM_ok R e1 r1
      obtain ⟨a2, v2, rfl, h2, q2⟩ := viewM_ok R e2 r2
      split at q
      · rename_i r er
        refine ⟨a1, a2, v1, v2, r, rfl, rfl, h1, h2, ?_, k _ _ (QE.fin R q rp_bl')⟩
        rcases nilEq_cases er with ⟨rfl, rfl, rfl⟩ | ⟨rfl, hne⟩
        · exact .inl ⟨rfl, rpl_nil.mp q1, rpl_nil.mp q2⟩
        · exact .inr ⟨rfl, by rw [q1.length, q2.length]; exact hne⟩
      · exact q.elim
    · exact q.elim
def rEqDat : R2D := fun x y μ Q => isPy x = true ∧ isPy y = true ∧ SeqAt.shaped (pyD x) = true ∧ SeqAt.shaped (pyD y) = true ∧ Q (.bl (PyData.eqv (pyD x) (pyD y))) μ
def rNeDat : R2D := fun x y μ Q => isPy x = true ∧ isPy y = true ∧ SeqAt.shaped (pyD x) = true ∧ SeqAt.shaped (pyD y) = true ∧ Q (.bl (!PyData.eqv (pyD x) (pyD y))) μ
def od_eqDat (hr : Room 0 X.A) : OpD X (compareOp .Eq) rEqDat where
  rv := _
  op := op_eqD (by have := hr.un; omega)
  sim := fun Z μ H d1 d2 x y Q Q' R r1 r2 q k => by
    obtain ⟨p1, p2, s1, s2, q⟩ := q
    exact ⟨_, _, Rp.dp d1 x p1 r1, Rp.dp d2 y p2 r2, s1, s2, k _ _ (QE.fin R q rp_bl')⟩
def od_neDat (hr : Room 0 X.A) : OpD X (compareOp .NotEq) rNeDat where
  rv := _
  op := op_neD (by have := hr.un; omega)
  sim := fun Z μ H d1 d2 x y Q Q' R r1 r2 q k => by
    obtain ⟨p1, p2, s1, s2, q⟩ := q
    exact ⟨_, _, Rp.dp d1 x p1 r1, Rp.dp d2 y p2 r2, s1, s2, k _ _ (QE.fin R q rp_bl')⟩
end

def emp : Sto := fun _ => none
abbrev noZ : Addr → Prop := fun _ => False
abbrev Pu (K : PySem.W.Frag) (H : Hp) (d : D) (v : V) : Prop := Rp ⟨K, noZ⟩ emp H d v
section
variable {K : PySem.W.Frag} {Z : Addr → Prop} {μ : Sto} {H H' : Hp}
theorem sub_emp : Sub emp μ := fun _ _ e => by cases e
theorem frz_pu {a : Addr} : Fr' ⟨K, noZ⟩ emp a := ⟨rfl, fun z => z⟩
mutual
theorem Rp.pu : ∀ (d : D) (v : V), Rp ⟨K, Z⟩ μ H d v → Pu K H d v
  | .non, v, h => by simpa only [Rp] using h
  | .bl b, v, h => by simpa only [Rp] using h
  | .int i, v, h => by simpa only [Rp] using h
  | .str x, v, h => by simpa only [Rp] using h
  | .raw w, v, h => by simpa only [Rp] using h
  | .tup ds, v, h => by
    obtain ⟨a, xs, e, s, r⟩ := rp_tup.mp h
    exact rp_tup.mpr ⟨a, xs, e, s.elim (fun s => .inl ⟨s.1, frz_pu⟩) .inr, RpL.pu ds xs r⟩
  | .lst ds, v, h => by
    obtain ⟨a, xs, e, s, r⟩ := rp_lst.mp h
    exact rp_lst.mpr ⟨a, xs, e, ⟨s.1, frz_pu⟩, RpL.pu ds xs r⟩
  | .scr ds, v, h => by
    obtain ⟨a, xs, e, s, r⟩ := rp_scr.mp h
    exact rp_scr.mpr ⟨a, xs, e, s.elim (fun s => .inl ⟨s.1, frz_pu⟩) .inr, RpL.pu ds xs r⟩
  | .ins C ns ds, v, h => by
    obtain ⟨a, dx, xs, e, s, _, l, r⟩ := rp_ins.mp h
    exact rp_ins.mpr ⟨a, dx, xs, e, s, frz_pu, l, RpL.pu ds xs r⟩
theorem RpL.pu : ∀ (ds : List D) (xs : List V), RpL ⟨K, Z⟩ μ H ds xs → RpL ⟨K, noZ⟩ emp H ds xs
  | [], xs, h => by rw [rpl_nil.mp h]; exact RpL.nil
  | d :: ds, xs, h => by
    obtain ⟨v, r, rfl, h1, h2⟩ := rpl_cons.mp h
    exact RpL.cons (Rp.pu d v h1) (RpL.pu ds r h2)
end
theorem nx_ext (e : Ext H H') : Nx μ H μ H' := fun a o h m => ⟨e a o h, m⟩
theorem rel_emp : Rel ⟨K, noZ⟩ emp H := ⟨fun _ _ e => (by cases e), fun _ z => z.elim⟩
theorem nx_emp {μ' : Sto} (n : Nx emp H μ' H') : Ext H H' := fun a o h => (n a o h rfl).1
theorem Rel.ext (R : Rel ⟨K, Z⟩ μ H) (e : Ext H H') : Rel ⟨K, Z⟩ μ H' := by
  refine ⟨fun a o h => ⟨?_, (R.1 a o h).2⟩, fun a z => ?_⟩
  · have c := R.co h
    cases o with
    | lst ds => obtain ⟨xs, q, r⟩ := c; exact ⟨xs, e _ _ q, RpL.keep (nx_ext e) _ _ r⟩
    | ins C ns ds => obtain ⟨dx, xs, q, l, r⟩ := c; exact ⟨dx, xs, e _ _ q, l, RpL.keep (nx_ext e) _ _ r⟩
  · cases q : H a with
    | none => exact absurd q (R.2 a z)
    | some u => rw [e _ _ q]; simp
end

section
variable {P : Program} {w : World} {K : PySem.W.Frag} {mg : Str → Option Value} {base : Heap}
theorem okT0 {x qual : Str} {st : Stmt} {f : Addr} {fd : FuncData} {N ps : List Str} {k : Nat} {F : Spec} (Fn : Fun K x qual st f fd) (S : FnScope N ps (defScope st))
    (hbody : ∀ (s : Shared) (H : Hp) (cdv : Value) (A : Around) (outer : List Env) (E : XK), Room k (cxOf (L2.CX P w) P w K mg base N qual (defScope st) f cdv A outer s H E).A →
      Takes (cxOf (L2.CX P w) P w K mg base N qual (defScope st) f cdv A outer s H E) (fun cls d _ H => E cls d H) → PassesOwn (model P w) (cxOf (L2.CX P w) P w K mg base N qual (defScope st) f cdv A outer s H E).A (cxOf (L2.CX P w) P w K mg base N qual (defScope st) f cdv A outer s H E).env (cxOf (L2.CX P w) P w K mg base N qual (defScope st) f cdv A outer s H E).xe →
      ∃ m, SJs (cxOf (L2.CX P w) P w K mg base N qual (defScope st) f cdv A outer s H E) G0 (fun cls d _ H => E cls d H) (defBody st) m ∧ ∀ ds μ Q' E', ds.length = ps.length → F ds μ Q' E' → m (endD Q' E') (startD N ds) μ) :
    FnOk P w K mg base (L2.CX P w) (k + 1) f fd ps (TSp K ps.length F) := by
  refine Fn.okX S (fun vs H Q E h => h.len) (fun cdv A outer s H vs Q E hr h => ?_)
  refine ⟨_, pssS, ?_⟩
  obtain ⟨m, hm, hF⟩ := hbody s H cdv A outer E hr (takes_of rfl rfl rfl rfl) (passes_of rfl)
  obtain ⟨Z, ds, μ, Q', E', hl, hf, rl, r, hq, hx⟩ := h
  refine (hm.run _ _ μ (hF ds μ Q' E' hl hf) Z (L2.start N vs) H ⟨rl, sl_start r, trivial⟩ ?_).mono ⟨fun σ' H' h => ?_, fun v H' h => ?_, fun σ' H' h => ?_, fun σ' H' h => ?_⟩
  · intro C val σ' μ' σv' H' dd e n R a
    exact hx.weak C val μ' H' dd e n R.rel a
  · obtain ⟨σ1, μ1, q1, n1, R1⟩ := h
    exact hq _ _ (QE.weak ⟨.non, μ1, q1, n1, R1.rel, rp_non'⟩)
  · exact hq _ _ h.weak
  · obtain ⟨σ1, μ1, q1, _⟩ := h
    exact q1.elim
  · obtain ⟨σ1, μ1, q1, _⟩ := h
    exact q1.elim
end

inductive Sh (C : Addr) (F : Spec) : Nat → D → Prop
  | non {n} : Sh C F n .non
  | bl {n b} : Sh C F n (.bl b)
  | int {n i} : Sh C F n (.int i)
  | str {n x} : Sh C F n (.str x)
  | tup {n xs} : (∀ x ∈ xs, Sh C F n x) → Sh C F (n + 1) (.tup xs)
  | ins {n ns ds} : F [.ins C ns ds, .ins C ns ds] emp (fun d _ => d = .bl true) noE → Sh C F n (.ins C ns ds)
section
variable {X : Cx} {G : GI} {W : WX} {C fa : Addr} {fd : FuncData} {k n : Nat} {ps : List Str} {F : Spec}
def DSh (K : PySem.W.Frag) (C : Addr) (F : Spec) (n : Nat) : Eqv := fun x y H => ∃ d, Sh C F n d ∧ Pu K H d x ∧ Pu K H d y
def insR (K : PySem.W.Frag) (C : Addr) (F : Spec) (a b : Addr) (H : Hp) : Prop := ∃ ns ds, F [.ins C ns ds, .ins C ns ds] emp (fun d _ => d = .bl true) noE ∧ Pu K H (.ins C ns ds) (.ref a) ∧ Pu K H (.ins C ns ds) (.ref b)
theorem pu_ext {K : PySem.W.Frag} {H H' : Hp} {d : D} {v : V} (e : Ext H H') (h : Pu K H d v) : Pu K H' d v := Rp.keep (nx_ext e) _ _ h
theorem mon_sh {K : PySem.W.Frag} : Mon (DSh K C F n) := fun x y H H' e ⟨d, h, p, q⟩ => ⟨d, h, pu_ext e p, pu_ext e q⟩
theorem spEq_of (Fn : FnOk X.prog X.w X.K X.mg X.base (L2.CX X.prog X.w) k fa fd ps (TSp X.K 2 F)) : FnOk X.prog X.w X.K X.mg X.base (L2.CX X.prog X.w) k fa fd ps (spEq (insR X.K C F)) := by
  refine Fn.imp fun vs H Q E h => ?_
  obtain ⟨a, b, rfl, ⟨ns, ds, hF, p1, p2⟩, hq⟩ := h
  refine ⟨noZ, [.ins C ns ds, .ins C ns ds], emp, _, noE, rfl, hF, rel_emp, RpL.cons p1 (RpL.cons p2 RpL.nil), fun v H' q => ?_, fun _ _ _ _ _ e => e.elim⟩
  obtain ⟨d, μ', rfl, n, _, r⟩ := q
  rw [rp_bl.mp r]
  exact hq H' (nx_emp n)
structure OwnEq (X : Cx) (C : Addr) (k : Nat) (F : Spec) : Prop where
  ex : ∃ fa fd ps, FnOk X.prog X.w X.K X.mg X.base (L2.CX X.prog X.w) k fa fd ps (TSp X.K 2 F) ∧ PySem.W.findIn X.K (.ref C) "__eq__" = some (some (.ref fa)) ∧ PySem.W.isFn X.K (.ref fa) = true ∧ Binds X.K fd ps []
theorem ins_case (O : OwnEq X C k F) : EqG X k (DIns C (insR X.K C F)) := by
  obtain ⟨fa, fd, ps, Fn, hs, hf, hb⟩ := O.ex
  exact eqG_ins (spEq_of Fn) hs hf hb passL
theorem insR_of {K : PySem.W.Frag} {ns : List Str} {ds : List D} {x y : V} {H : Hp} (hF : F [.ins C ns ds, .ins C ns ds] emp (fun d _ => d = .bl true) noE) (p : Pu K H (.ins C ns ds) x) (q : Pu K H (.ins C ns ds) y) : DIns C (insR K C F) x y H := by
  obtain ⟨a, dx, xs, rfl, h1, _, _, _⟩ := rp_ins.mp p
  obtain ⟨b, dy, ys, rfl, h2, _, _, _⟩ := rp_ins.mp q
  exact ⟨a, b, dx, dy, _, _, rfl, rfl, h1, h2, ns, ds, hF, p, q⟩
theorem flat_of {K : PySem.W.Frag} {d : D} {x y : V} {H : Hp} (hd : d = .non ∨ (∃ b, d = .bl b) ∨ (∃ i, d = .int i) ∨ ∃ t, d = .str t) (p : Pu K H d x) (q : Pu K H d y) : DFlat x y H := by
  rcases hd with rfl | ⟨b, rfl⟩ | ⟨i, rfl⟩ | ⟨t, rfl⟩
  · rw [rp_non.mp p, rp_non.mp q]; exact ⟨rfl, rfl, rfl⟩
  · rw [rp_bl.mp p, rp_bl.mp q]; exact ⟨rfl, rfl, by simp [eqV]⟩
  · rw [rp_int.mp p, rp_int.mp q]; exact ⟨rfl, rfl, by simp [eqV]⟩
  · rw [rp_str.mp p, rp_str.mp q]; exact ⟨rfl, rfl, by simp [eqV]⟩
theorem prs_of {K : PySem.W.Frag} {H : Hp} : ∀ {ds : List D} {xs ys : List V}, (∀ x ∈ ds, Sh C F n x) → RpL ⟨K, noZ⟩ emp H ds xs → RpL ⟨K, noZ⟩ emp H ds ys → Prs (DSh K C F n) xs ys H
  | [], xs, ys, _, p, q => by rw [rpl_nil.mp p, rpl_nil.mp q]; exact Prs.nil
  | d :: ds, xs, ys, h, p, q => by
    obtain ⟨v, r, rfl, p1, p2⟩ := rpl_cons.mp p
    obtain ⟨v', r', rfl, q1, q2⟩ := rpl_cons.mp q
    exact Prs.cons ⟨d, h d (by simp), p1, q1⟩ (prs_of (fun x hx => h x (by simp [hx])) p2 q2)
theorem eqG_sh (O : OwnEq X C k F) : ∀ n, EqG X (k + n) (DSh X.K C F n)
  | 0 => ((eqG_flat.mono (Nat.zero_le _)).or (ins_case O)).imp fun x y H ⟨d, h, p, q⟩ => by
    cases h with
    | non => exact .inl (flat_of (.inl rfl) p q)
    | bl => exact .inl (flat_of (.inr (.inl ⟨_, rfl⟩)) p q)
    | int => exact .inl (flat_of (.inr (.inr (.inl ⟨_, rfl⟩))) p q)
    | str => exact .inl (flat_of (.inr (.inr (.inr ⟨_, rfl⟩))) p q)
    | ins hF => exact .inr (insR_of hF p q)
  | n + 1 => (((eqG_flat.mono (Nat.zero_le _)).or ((ins_case O).mono (by omega))).or (eqG_tup mon_sh (eqG_sh O n))).imp fun x y H ⟨d, h, p, q⟩ => by
    cases h with
    | non => exact .inl (.inl (flat_of (.inl rfl) p q))
    | bl => exact .inl (.inl (flat_of (.inr (.inl ⟨_, rfl⟩)) p q))
    | int => exact .inl (.inl (flat_of (.inr (.inr (.inl ⟨_, rfl⟩))) p q))
    | str => exact .inl (.inl (flat_of (.inr (.inr (.inr ⟨_, rfl⟩))) p q))
    | ins hF => exact .inl (.inr (insR_of hF p q))
    | tup hx =>
      obtain ⟨a, xs, rfl, s1, r1⟩ := rp_tup.mp p
      obtain ⟨b, ys, rfl, s2, r2⟩ := rp_tup.mp q
      exact .inr ⟨a, b, xs, ys, rfl, rfl, s1.seq, s2.seq, prs_of hx r1 r2⟩
def rEqSh (C : Addr) (F : Spec) (n : Nat) : R2D := fun x y μ Q => x = y ∧ (∃ ds, x = .tup ds ∧ ∀ z ∈ ds, Sh C F n z) ∧ Q (.bl true) μ
def od_eqSh (O : OwnEq X C k F) (n : Nat) (hr : Room (k + n + 1) X.A) : OpD X (compareOp .Eq) (rEqSh C F n) where
  rv := _
  op := op_eqG (rcG_tup mon_sh (eqG_sh O n)) hr
  sim := fun Z μ H d1 d2 x y Q Q' R r1 r2 q k => by
    obtain ⟨rfl, ⟨ds, rfl, hs⟩, q⟩ := q
    obtain ⟨a, xs, rfl, s1, l1⟩ := rp_tup.mp r1
    obtain ⟨b, ys, rfl, s2, l2⟩ := rp_tup.mp r2
    refine ⟨⟨a, b, xs, ys, rfl, rfl, s1.seq, s2.seq, prs_of hs (RpL.pu _ _ l1) (RpL.pu _ _ l2)⟩, fun H' e => k _ _ ?_⟩
    exact ⟨.bl true, μ, q, nx_ext e, R.ext e, rp_bl'⟩
end
end TL

namespace TL
open PySem PySem.Spec PyProof.Rows L2

theorem guards_caller : callerA.guards = some [] := rfl
def scrH (K : PySem.W.Frag) (a : Addr) (o : Obj) (xs : List V) : Hp := fun b => if b = a ∧ K.lookup a = none then some (.frz o (.lst xs)) else none
theorem scrH_at {K : PySem.W.Frag} {a b : Addr} {o : Obj} {xs : List V} : scrH K a o xs b = none ∨ (b = a ∧ K.lookup a = none ∧ scrH K a o xs b = some (.frz o (.lst xs))) := by
  unfold scrH
  split
  · rename_i h; exact .inr ⟨h.1, h.2, rfl⟩
  · exact .inl rfl
theorem law_callG {P : Program} {w : World} {K : PySem.W.Frag} {mg mb : Str → Option Value} {k : Nat} {fa a : Addr} {fd : FuncData} {x : Str} {sp : Sp} {s₁ : Shared} {vs : List Value} {ns : List Int}
    (KX : K.In s₁.heap) (hns : s₁.heap.Ns mainGlobals mg) (hb : s₁.heap.Ns builtinsNs mb) (hbb : ∀ x : Str, x ≠ "__name__" → mb x = bootBuiltins x) (hlim : s₁.heap.NoLimit) (hg : s₁.gens = #[])
    (ha : s₁.heap.get? a = some { cls := .type "list", data := .seq vs.toArray }) (hi : IntsAre vs ns) (hl : ns.length ≤ sizeLine) (hr : Room k callerA)
    (F : ∀ base : Heap, K.In base → base.Ns mainGlobals mg → FnG P w K mg base k fa fd [x] sp) (hbind : ∀ (s : Shared) (u : Value), BindsTo s fd ⟨[u], []⟩ [(x, u)])
    (hsp : ∀ H : Hp, SqL K H a (ns.map V.int) → sp [.ref a] H (fun v _ => v = .bl true) fun _ _ _ => False) :
    codeAny (model P w) callerA (.call (.ref fa) ⟨[.ref a], []⟩) (fun r s' => r = .ok (.ret (.bool true)) ∧ OldK s₁.heap s'.heap ∧ s'.os = s₁.os ∧ AllBare s'.gens) s₁ := by
  have rv := vals_ints hi
  have lenV := hi.length
  generalize eH : scrH K a { cls := .type "list", data := .seq vs.toArray } (ns.map V.int) = H
  have at_ : ∀ b, H b = none ∨ (b = a ∧ K.lookup a = none ∧ H b = some (.frz { cls := .type "list", data := .seq vs.toArray } (.lst (ns.map V.int)))) := fun b => by
    rw [← eH]; exact scrH_at
  have hS : SqL K H a (ns.map V.int) := by
    cases hk : K.lookup a with
    | none =>
      rcases at_ a with z | z
      · rw [← eH] at z
        unfold scrH at z
        rw [if_pos ⟨rfl, hk⟩] at z
        cases z
      · exact .inl (.inr ⟨_, z.2.2⟩)
    | some o =>
      have e := KX a o hk
      rw [ha] at e
      cases e
      exact .inr ⟨_, vs.toArray, _, hk, rfl, rfl, rfl, by rw [List.size_toArray, lenV]; exact hl, by simpa using rv⟩
  have hok : HOk P w H s₁.heap := fun b u e => by
    rcases at_ b with z | ⟨rfl, _, z⟩
    · rw [z] at e; cases e
    · rw [z] at e; cases e
      exact ⟨ha, by rw [List.length_map]; exact hl, vs, _, rv, ha⟩
  have old : ∀ {b : Addr} {o : Obj}, s₁.heap.get? b = some o → (b = a → K.lookup a ≠ none) → (hidT s₁.heap H).get? b = some o := fun {b o} e h => hidT_get e (by
    rcases at_ b with z | ⟨z, y, _⟩
    · exact z
    · exact absurd y (h z))
  have dic : ∀ {b : Addr} {o : Obj} {es : Array DictEntry} {ep : Nat}, s₁.heap.get? b = some o → o.data = .dict es ep → (hidT s₁.heap H).get? b = some o := fun {b o es ep} e d => old e (fun z => by
    subst z
    rw [ha] at e; cases e
    have d' : Data.seq vs.toArray _ = Data.dict es ep := d
    cases d')
  have nsD : ∀ {b : Addr} {m : Str → Option Value}, s₁.heap.Ns b m → (hidT s₁.heap H).Ns b m := fun {b m} ⟨o, es, ep, e, d, r⟩ => ⟨o, es, ep, dic e d, d, r⟩
  have hKb : K.In (hidT s₁.heap H) := fun b o e => old (KX b o e) (fun z y => by rw [← z, e] at y; cases y)
  have e0 : Env0 P w K mg (hidT s₁.heap H) callerA [] s₁ H := by
    refine ⟨rfl, ⟨hKb, nsD hns, ⟨mb, nsD hb, hbb⟩, ?_⟩, fun b o e => of_hidT e, Nat.le_of_eq (hidT_size _ _), trivial, fun b hb => absurd (show b ∈ ([] : List Addr) from hb) (by simp), hok, .of_eq hg⟩
    obtain ⟨mc, h1, h2⟩ := hlim
    exact ⟨mc, nsD h1, h2⟩
  refine codeAny_mono ((F _ hKb (nsD hns)).run callerA [] s₁ H ⟨[.ref a], []⟩ [.ref a] [.ref a] _ _ hr guards_caller e0 (hbind s₁ (.ref a)) (.cons rfl .nil) (hsp H hS)) fun r s' h => ?_
  match r, h with
  | .error e, h =>
    obtain ⟨_, _, _, _, _, _, _, _, _, _, _, _, z⟩ := h
    exact z.elim
  | .ok .next, h => exact h.elim
  | .ok .brk, h => exact h.elim
  | .ok .cont, h => exact h.elim
  | .ok (.ret u), h =>
    obtain ⟨v, H', os, bare, un, hok', r', q⟩ := h
    have q' : v = .bl true := q
    subst q'
    obtain rfl : u = Value.bool true := r'
    refine ⟨rfl, OldK.of_keep fun b o e => ?_, os, bare⟩
    rcases at_ b with z | ⟨rfl, _, z⟩
    · exact un.keep b o e z (by intro z; exact absurd (show b ∈ ([] : List Addr) from z) (by simp)) (by simp)
    · have e2 := (hok' b _ (un.frzs b _ _ z)).1
      rw [ha] at e; cases e
      exact e2
theorem walkG {l : PySem.W.OpenLaw} {n k : Nat} {q : Program} {loose : List Str} {XP : (Str → Option Value) → Heap → Prop} {YP : World → Heap → Prop} {d : DefRec} {K : Params → PySem.W.Frag} {F : World → Spec} {x : Str}
    (hn : l.most = some n) (hn2 : n ≤ sizeLine) (hdf : d.params.defaults = []) (hr : Room k callerA)
    (hY : ∀ (w : World) (h : Heap), YP w h → (K w.params).In h)
    (hF : ∀ (w : World) (mg : Str → Option Value) (fa : Addr) (h : Heap), (K w.params).In h → h.Ns mainGlobals mg → mg d.name = some (.ref fa) →
      ∃ fd : FuncData, (∀ (s : Shared) (u : Value), BindsTo s fd ⟨[u], []⟩ [(x, u)]) ∧
        ∀ base : Heap, (K w.params).In base → base.Ns mainGlobals mg → FnG l.prog w (K w.params) mg base k fa fd [x] (TSp (K w.params) 1 (F w)))
    (hsp : ∀ (w : World) (ns : List Int), ns.length ≤ n → F w [.scr (ns.map D.int)] emp (fun d _ => d = .bl true) noE) :
    PySem.W.WalkO q loose XP YP l.row.toRowW d [] (fun f vs => PySem.call f vs) := by
  refine Att.attach_call hn hdf fun w s₀ s₁ mg mb fa o pm cd doc a vs ns G Y ho hd hcd hmg hobj hints hlen hg => ?_
  have KX := hY w _ Y
  obtain ⟨fd, hb, hFn⟩ := hF w mg fa _ KX G.T.g hmg
  refine law_callG KX G.T.g G.T.b G.T.builtins G.T.nolimit hg hobj hints (Nat.le_trans hlen hn2) hr hFn hb fun H hS => ?_
  refine ⟨noZ, [.scr (ns.map D.int)], emp, _, noE, rfl, hsp w ns hlen, rel_emp, RpL.cons ?_ RpL.nil, fun v H' h => ?_, fun _ _ _ _ _ e => e.elim⟩
  · exact rp_scr.mpr ⟨a, ns.map V.int, rfl, hS.elim (fun h => .inl ⟨h, frz_pu⟩) .inr, RpL.ints.mpr rfl⟩
  · obtain ⟨d, μ', rfl, _, _, r⟩ := h
    exact rp_bl.mp r
end TL

namespace TL
open PySem PySem.Spec PyProof.Rows L2

section
variable {X : Cx} {G : GI} {W : WX} {pos p : Pos} {e o : Expr} {ma mo : ME} {mas : MA} {k : Nat} {ps : List Str}
def rLenI (P : Addr → Prop) (n : Nat) (F : Addr → Spec) : List D → Sto → QD → Prop := fun ds μ Q => ∃ d C ns es, ds = [d] ∧ viewI μ d = some (C, ns, es) ∧ P C ∧ 1 = n ∧ F C [d] μ (fun r μ' => ∃ m : Nat, r = .int m ∧ m < 2 ^ 62 ∧ Q (.int m) μ') noE
def cd_lenI {P : Addr → Prop} {F : Addr → Spec} (M : MethT X P "__len__" k ps F) (hr : RmG (k + 1) X.A) : CaD X (.builtin "len") (rLenI P ps.length F) where
  rv := fun vs H Q' => ∃ Z μ ds Q, Rel (kz X Z) μ H ∧ RpL (kz X Z) μ H ds vs ∧ rLenI P ps.length F ds μ Q ∧ ∀ v H', QE (kz X Z) μ H Q v H' → Q' v H'
  op := by
    intro pins s σ H vs us Q I r h
    obtain ⟨Z, μ, ds, Q1, rl, rd, ⟨d, C, ns, es, rfl, hv, pC, hn, hF⟩, hk⟩ := h
    obtain ⟨v, rfl, r1⟩ := rpl1 rd
    obtain ⟨a, dx, xs, rfl, hH, l, _⟩ := viewI_ok rl hv r1
    rw [Vals.ref1 r]
    obtain ⟨cl, g, fd, hM, Fn, hb⟩ := M.at_ C pC
    obtain ⟨mA, O, _, _, _, _⟩ := ins_get I.hok hH
    obtain ⟨od, J, _⟩ := O.look
    obtain ⟨m, hFr⟩ := I.fr
    have bb := hb s [.ref a] I.kIn (by rw [List.append_nil, ← hn]; rfl)
    rw [List.append_nil] at bb
    refine PySem.W.len_K hFr I.ok.mod.kin J hM.at_ hM.fn (wpAny_call (codeAny_mono (Fn.run X.A.in1 X.stack s H ⟨[.ref a], []⟩ [.ref a] [.ref a] _ E0 hr.r.in1 hr.g I.env0.in1 bb (.cons rfl .nil) (tsp_of (ds := [d]) hn hF rl (RpL.cons r1 RpL.nil) (Nx.refl _ _) xw0)) fun r s' hq => ?_))
    cases r with
    | error er => exact False.elim (passL (X := X.nox) pins σ H _ er s' (I.wish _) hq)
    | ok fl =>
      cases fl <;> first | exact False.elim hq | skip
      obtain ⟨v, H', I3, rv, d', μ', ⟨n, rfl, hlt, q⟩, n1, rl1, rp⟩ := I.after hq
      cases rp_int.mp rp
      obtain ⟨t, rfl⟩ := rv
      exact ⟨⟨by omega, by omega⟩, .int n, H', I3.tok _, ⟨_, rfl⟩, hk _ _ ⟨_, μ', q, n1, rl1, rp_int'⟩⟩
  sim := fun Z μ H ds vs Q Q' R r q k => ⟨Z, μ, ds, Q, R, r, q, k⟩
structure TyC (K : PySem.W.Frag) (C : Addr) : Prop where
  cl : Cls K C
  ha : PySem.W.findIn K (.ref C) "__class__" = some (some (.builtin "object.__class__"))
  hn : PySem.W.specialIn K (.builtin "object.__class__") "__get__" = some (some (.builtin "getset_descriptor.__get__"))
  ht : PySem.W.takesIn K (.builtin "object.__class__") = some true
  hm : PySem.W.mroIn K C (.type "object") = some true
def tyI (μ : Sto) (d : D) : Option Value := match tyN μ d with
  | some t => some (.type t)
  | none => (viewI μ d).map fun x => .ref x.1
def rIsiC (K : PySem.W.Frag) (P : Addr → Prop) : List D → Sto → QD → Prop := fun ds μ Q => ∃ d b t C, ds = [d, .raw (.ref C)] ∧ tyI μ d = some t ∧ (∀ C', t = .ref C' → P C') ∧ PySem.W.kitOne K t (.ref C) = some b ∧ Q (.bl b) μ
def cd_isiC {P : Addr → Prop} (hP : ∀ C, P C → TyC X.K C) : CaD X (.builtin "isinstance") (rIsiC X.K P) where
  rv := _
  op := call_isi
  sim := fun Z μ H ds vs Q Q' R r q k => by
    obtain ⟨d, b, t, C, rfl, e, hp, hk, hq⟩ := q
    obtain ⟨v, w, rfl, r1, r2⟩ := rpl2 r
    cases rp_raw.mp r2
    have ty : TyX X.K H v t := by
      unfold tyI at e
      split at e
      · rename_i t' et
        cases e
        exact tyN_ok R et r1
      · cases z : viewI μ d with
        | none => rw [z] at e; cases e
        | some y =>
          obtain ⟨C', ns, es⟩ := y
          rw [z] at e
          have e' : Value.ref C' = t := Option.some.inj e
          subst e'
          obtain ⟨a, dx, xs, rfl, hH, _, _⟩ := viewI_ok R z r1
          have T := hP C' (hp C' rfl)
          exact .base (.ins hH T.cl T.ha T.hn T.ht T.hm)
    exact ⟨v, .ref C, t, _, b, rfl, .own C, ty, hk, k _ _ (QE.fin R hq rp_bl')⟩

structure Lok (K : KZ) (μ : Sto) (H : Hp) (a : Addr) (d : D) (ds : List D) : Prop where
  vw : viewM μ d = some ds
  rp : Rp K μ H d (.ref a)
  ex : ∃ xs, H a = some (.lst xs) ∧ RpL K μ H ds xs
theorem Lok.mk' {K : KZ} {μ : Sto} {H : Hp} {a : Addr} {d : D} {ds : List D} (R : Rel K μ H) (vw : viewM μ d = some ds) (rp : Rp K μ H d (.ref a)) : Lok K μ H a d ds := by
  obtain ⟨b, xs, e, h, l⟩ := viewM_ok R vw rp
  cases e
  exact ⟨vw, rp, xs, h, l⟩
theorem Lok.st {K : KZ} {μ μ' : Sto} {H H' : Hp} {a : Addr} {d : D} {ds : List D} (h : Lok K μ H a d ds) (n : Nx μ H μ' H') (R : Rel K μ' H') (vw : viewM μ' d = some ds) : Lok K μ' H' a d ds :=
  Lok.mk' R vw (Rp.keep n _ _ h.rp)
abbrev MI2 := SD → Sto → (D → List D → D → List D → Sto → Prop) → ExD → Prop
def mIZ2 (m : MA) : MI2 := fun σ μ P E => m σ μ (fun ds μ1 => match ds with
  | [d1, d2] => ∃ xs ys, viewM μ1 d1 = some xs ∧ viewM μ1 d2 = some ys ∧ P d1 xs d2 ys μ1
  | _ => False) E
def mFor2 (mi : MI2) (g : MG) (mb : MS) : MS := fun Dn σ μ => mi σ μ (fun d1 xs d2 ys μ1 => ∃ P : Nat → SD → Sto → Prop, P 0 σ μ1 ∧ (∀ i σ' μ', P i σ' μ' → viewM μ' d1 = some xs ∧ viewM μ' d2 = some ys) ∧
  (∀ i d σ' μ', (zipD xs ys)[i]? = some d → P i σ' μ' → g d σ' μ' (fun σ2 μ2 => mb { Dn with nx := Wk (P (i + 1)), ct := Wk (P (i + 1)), bk := Dn.nx } σ2 μ2)) ∧ (∀ σ' μ', P (zipD xs ys).length σ' μ' → Dn.nx σ' μ')) (exAt Dn σ)
theorem sj_forZ {body : List Stmt} {mb : MS} {e2 : Expr} {tpos : Pos} {elts : List Expr} {kk : Nat} {g : MG} {fpos : Pos} (hp : PassesOwn (model X.prog X.w) X.A X.env X.xe) (hc : X.calm = true)
    (hg0 : Gl X "zip") (hm : X.mg "zip" = none) (ha : AJ X G W [e, e2] mas) (hg : GJ X G (.Tuple elts kk tpos) g) (hb : SJs X G W body mb)
    (hs' : starEach [e, e2] X.env = (false, eval e X.env) :: starEach [e2] X.env := by rfl) (hpl : (backTo pos (starEach [e2] X.env)).any (·.1) = false := by rfl)
    (hs : ∀ x, foldedSetIterable (.Call (.Name "zip" p) [e, e2] [] pos) X.env x = pure x := by intro _; rfl) : SJ X G W (.For (.Tuple elts kk tpos) (.Call (.Name "zip" p) [e, e2] [] pos) body [] fpos) (mFor2 (mIZ2 mas) g mb) := ⟨fun Dn σ μ q Z σv H R x => by
  refine toS (ps_for hp hc (pi_zip hg0 hm paS hs' hpl) pgS pssS hs) ?_
  refine ha.then q R (x.at R) fun ds μ1 vs H1 h1 n1 R1 x1 r1 => ?_
  split at h1
  · rename_i d1 d2
    obtain ⟨xs, ys, v1, v2, P, p0, hvw, hturn, hend⟩ := h1
    obtain ⟨w1, w2, rfl, q1, q2⟩ := rpl2 r1
    obtain ⟨a, vs, rfl, s1, l1⟩ := viewM_ok R1.rel v1 q1
    obtain ⟨b, ws, rfl, s2, l2⟩ := viewM_ok R1.rel v2 q2
    refine ⟨a, b, vs, ws, rfl, SqL.of s1, SqL.of s2, ?_⟩
    refine ⟨fun i m σv' H2 => m = (zipD xs ys).length - i ∧ i ≤ (zipD xs ys).length ∧ ∃ σ' μ', P i σ' μ' ∧ Nx μ H μ' H2 ∧ RS (kz X Z) G σ' μ' σv' H2 ∧ Lok (kz X Z) μ' H2 a d1 xs ∧ Lok (kz X Z) μ' H2 b d2 ys,
      ⟨(zipD xs ys).length, by simp, Nat.zero_le _, σ, μ1, p0, n1, R1, Lok.mk' R1.rel v1 q1, Lok.mk' R1.rel v2 q2⟩, ?_⟩
    rintro i m σv' H2 ⟨rfl, hi', σ', μ', p, n2, R2, ok1, ok2⟩
    obtain ⟨as, ha1, la⟩ := ok1.ex
    obtain ⟨bs, hb1, lb⟩ := ok2.ex
    have e1 := la.length
    have e2 := lb.length
    by_cases hlt : i < (zipD xs ys).length
    · have hlt' := hlt
      rw [zipD_len] at hlt'
      refine .inr ⟨⟨as, bs, as[i]'(by omega), bs[i]'(by omega), SqL.of ha1, SqL.of hb1, List.getElem?_eq_getElem _, List.getElem?_eq_getElem _⟩,
        fun σv3 H3 => ∃ σ3 μ3, P (i + 1) σ3 μ3 ∧ Nx μ H μ3 H3 ∧ RS (kz X Z) G σ3 μ3 σv3 H3 ∧ Lok (kz X Z) μ3 H3 a d1 xs ∧ Lok (kz X Z) μ3 H3 b d2 ys, fun σv3 H3 h => ⟨(zipD xs ys).length - (i + 1), by omega, rfl, hlt, h⟩, fun xv H3 hy => ?_⟩
      have hd : (zipD xs ys)[i]? = some (zipD xs ys)[i] := List.getElem?_eq_getElem hlt
      obtain ⟨g1, g2, h1, h2, ed⟩ := zipD_get hd
      obtain ⟨T, x0, y0, rfl, hT, rfl, hx, hy⟩ := hy
      obtain ⟨v, hv, rv⟩ := la.get h1
      obtain ⟨w, hw, rw'⟩ := lb.get h2
      have z1 := hx as (SqL.of ha1)
      have z2 := hy bs (SqL.of hb1)
      rw [hv] at z1
      rw [hw] at z2
      cases z1
      cases z2
      obtain ⟨n3, rl3, rx⟩ := new_tup R2.rel hT (RpL.cons rv (RpL.cons rw' RpL.nil))
      have R3 := R2.go n3 rl3
      refine (hg.run _ σ' μ' _ (hturn i _ σ' μ' hd p) Z σv' _ _ R3 (by rw [ed]; exact rx)).mono fun σv4 H4 ⟨σ4, μ4, q4, n4, R4⟩ => ?_
      have nn := n2.trans (n3.trans n4)
      have wk : ∀ σv5 H5, QS (kz X Z) G μ4 H4 (Wk (P (i + 1))) σv5 H5 → ∃ σ3 μ3, P (i + 1) σ3 μ3 ∧ Nx μ H μ3 H5 ∧ RS (kz X Z) G σ3 μ3 σv5 H5 ∧ Lok (kz X Z) μ3 H5 a d1 xs ∧ Lok (kz X Z) μ3 H5 b d2 ys := by
        rintro σv5 H5 ⟨σ5, μ5, ⟨σ6, μ6, sb, su, p6⟩, n5, R5⟩
        have R6 := R5.sub sb su
        have n6 := n3.trans (n4.trans (n5.trans (Nx.sub su)))
        exact ⟨σ6, μ6, p6, nn.trans (n5.trans (Nx.sub su)), R6, ok1.st n6 R6.rel (hvw _ _ _ p6).1, ok2.st n6 R6.rel (hvw _ _ _ p6).2⟩
      refine (hb.run { Dn with nx := Wk (P (i + 1)), ct := Wk (P (i + 1)), bk := Dn.nx } σ4 μ4 q4 Z σv4 H4 R4 (x.on nn)).mono ⟨wk, fun v H' h => h.back nn, fun σ' H' h => h.back nn, wk⟩
    · have e : i = (zipD xs ys).length := by omega
      subst e
      refine .inl ⟨⟨as, bs, SqL.of ha1, SqL.of hb1, ?_⟩, σ', μ', hend σ' μ' p, n2, R2⟩
      rw [e1, e2, zipD_len]; omega
  · exact h1.elim⟩
end
end TL

namespace TL
open PySem PySem.Spec PyProof.Rows L2

def rAdd : R2D := rInt2 fun i j => .int (i + j)
def rSub : R2D := rInt2 fun i j => .int (i - j)
def rMul : R2D := rInt2C IntMulOk fun i j => .int (i * j)
theorem op_mulX {X : Cx} : OpR X (binaryOp .Mult) (rI IntMulOk fun i j => .int (i * j)) := opI fun _ _ _ _ _ _ _ hc q => mul_int q hc
def od_mulX {X : Cx} : OpD X (binaryOp .Mult) rMul := od_intC op_mulX fun _ _ _ _ _ => rp_int'
def rFdiv : R2D := rInt2C CDivW fun i j => .int (i / j)
def rMod : R2D := rInt2C (fun _ j => 0 < j) fun i j => .int (i % j)
def rPow : R2D := rInt2C CPowW fun i j => .int (i ^ j.toNat)
def rLt : R2D := rInt2 fun i j => .bl (decide (i < j))
def rLe : R2D := rInt2 fun i j => .bl (decide (i ≤ j))
def rGt : R2D := rInt2 fun i j => .bl (decide (j < i))
def rGe : R2D := rInt2 fun i j => .bl (decide (j ≤ i))
def mNeg (m : ME) : ME := fun σ μ Q E => m σ μ (fun d μ1 => match d with
  | .int i => Q (.int (-i)) μ1
  | _ => False) E
def oNone : MO' := fun _ μ Q _ => Q none μ
def oSome (m : ME) : MO' := fun σ μ Q E => m σ μ (fun d μ1 => match d with
  | .int i => Q (some i) μ1
  | _ => False) E
def mNever : MS := fun _ _ _ => False
namespace BT
theorem abs : bootBuiltins "abs" = some (.builtin "abs") := by decide +kernel
theorem len : bootBuiltins "len" = some (.builtin "len") := by decide +kernel
theorem max : bootBuiltins "max" = some (.builtin "max") := by decide +kernel
theorem min : bootBuiltins "min" = some (.builtin "min") := by decide +kernel
theorem sum : bootBuiltins "sum" = some (.builtin "sum") := by decide +kernel
theorem repr : bootBuiltins "repr" = some (.builtin "repr") := by decide +kernel
theorem isinstance : bootBuiltins "isinstance" = some (.builtin "isinstance") := by decide +kernel
theorem int : bootBuiltins "int" = some (.type "int") := by decide +kernel
theorem list : bootBuiltins "list" = some (.type "list") := by decide +kernel
theorem tuple : bootBuiltins "tuple" = some (.type "tuple") := by decide +kernel
theorem str : bootBuiltins "str" = some (.type "str") := by decide +kernel
end BT
structure RmO (k : Nat) (A : Around) : Prop where
  r : Room k A
section
variable {P : Program} {w : World} {K : PySem.W.Frag} {mg : Str → Option Value} {base : Heap}
theorem due_ok {qual : Str} {st : Stmt} {f : Addr} {fd : FuncData} (F : Fun K "__init__" qual st f fd) (S : FnScope ["self", "value"] ["self", "value"] (defScope st))
    (h : ∀ (cdv : Value) (A : Around) (outer : List Env) (s : Shared) (H : Hp) (E : XK), PSs (cxOf (L2.CX P w) P w K mg base ["self", "value"] qual (defScope st) f cdv A outer s H E) (defBody st) (tOst K "value" (tVar 0) (tVar 1))) :
    FnOk P w K mg base (L2.CX P w) 1 f fd ["self", "value"] (spDue K) :=
  F.okX S (fun _ _ _ _ h => due_len h) fun cdv A outer s H vs Q E hr hsp => ⟨_, h cdv A outer s H E, due_read hsp⟩
end
end TL

namespace TL
open PySem PySem.Spec PyProof.Rows L2

theorem view_lst {μ : Sto} {ds : List D} : viewL μ (.lst ds) = some ds := rfl
theorem view_scr {μ : Sto} {ds : List D} : viewL μ (.scr ds) = some ds := rfl
theorem viewM_lst {μ : Sto} {ds : List D} : viewM μ (.lst ds) = some ds := rfl
theorem viewQ_lst {μ : Sto} {ds : List D} : viewQ μ (.lst ds) = some ds := rfl
theorem viewQ_scr {μ : Sto} {ds : List D} : viewQ μ (.scr ds) = some ds := rfl
theorem viewQ_tup {μ : Sto} {ds : List D} : viewQ μ (.tup ds) = some ds := rfl
theorem view_ref {μ : Sto} {p : Addr} {ds : List D} (h : μ p = some (.lst ds)) : viewL μ (.raw (.ref p)) = some ds := by simp [viewL, h]
theorem viewM_ref {μ : Sto} {p : Addr} {ds : List D} (h : μ p = some (.lst ds)) : viewM μ (.raw (.ref p)) = some ds := by simp [viewM, h]
theorem viewQ_ref {μ : Sto} {p : Addr} {ds : List D} (h : μ p = some (.lst ds)) : viewQ μ (.raw (.ref p)) = some ds := by simp [viewQ, view_ref h]
theorem viewI_ins {μ : Sto} {C : Addr} {ns : List Str} {ds : List D} : viewI μ (.ins C ns ds) = some (C, ns, ds) := rfl
theorem viewI_ref {μ : Sto} {p C : Addr} {ns : List Str} {ds : List D} (h : μ p = some (.ins C ns ds)) : viewI μ (.raw (.ref p)) = some (C, ns, ds) := by simp [viewI, h]
theorem ite_bT {α : Sort _} {a b : α} : (if true = true then a else b) = a := if_pos rfl
theorem ite_bF {α : Sort _} {a b : α} : (if false = true then a else b) = b := if_neg (by decide)
theorem set0 {α : Type} {a b : α} {l : List α} : (a :: l).set 0 b = b :: l := rfl
theorem setS {α : Type} {a b : α} {l : List α} {n : Nat} : (a :: l).set (n + 1) b = a :: l.set n b := rfl
theorem mulOk_r {i j : Int} (h : j.natAbs < 2 ^ 63) : IntMulOk i j := .of_right (by
  unfold Builtin.Int.intBits
  split
  · omega
  · have := (Nat.log2_lt (n := j.natAbs) (k := 63) (by rename_i h0; simpa using h0)).mpr h
    omega)
theorem mulOk_l {i j : Int} (h : i.natAbs < 2 ^ 63) : IntMulOk i j := .of_left (by
  unfold Builtin.Int.intBits
  split
  · omega
  · have := (Nat.log2_lt (n := i.natAbs) (k := 63) (by rename_i h0; simpa using h0)).mpr h
    omega)
theorem kit_same {K : PySem.W.Frag} {C : Addr} : PySem.W.kitOne K (.ref C) (.ref C) = some true := if_pos (by simp)
theorem kit_list {K : PySem.W.Frag} : PySem.W.kitOne K (.type "list") (.type "list") = some true := kit_ty (by decide +kernel)
theorem kit_tuple {K : PySem.W.Frag} : PySem.W.kitOne K (.type "tuple") (.type "tuple") = some true := kit_ty (by decide +kernel)
theorem kit_sub {K : PySem.W.Frag} {N C : Addr} {b : Bool} (h0 : PySem.W.subIn K (.ref N) (.ref N) = some true) (h1 : PySem.W.isClsIn K C = true) (h2 : PySem.W.typeIn K (.ref C) = some (.type "type")) (h3 : PySem.W.subIn K (.ref N) (.ref C) = some b) :
    PySem.W.kitCls K (.ref N) (.ref C) = some b ∧ PySem.W.kitOne K (.ref N) (.ref C) = some b := by
  have e2 : ((PySem.W.clsIn K C).isSome && PySem.W.typeIn K (.ref C) == some (.type "type")) = true := by
    have h1' : (PySem.W.clsIn K C).isSome = true := h1
    rw [h1', h2] <;> rfl
  have e3 : PySem.W.kitCls K (.ref N) (.ref C) = some b := (if_pos e2).trans h3
  refine ⟨e3, ?_⟩
  by_cases z : N = C
  · subst z
    rw [h0] at h3
    cases h3
    exact kit_same
  · have ne : ¬ ((Value.ref N == Value.ref C) = true) := fun q => z (by have := eq_of_beq q; injection this)
    exact (if_neg ne).trans e3
theorem exm_sub {K : PySem.W.Frag} {N C : Addr} {b : Bool} (hb : PySem.W.subIn K (.ref C) (.type "BaseException") = some true) (h0 : PySem.W.subIn K (.ref N) (.ref N) = some true) (h1 : PySem.W.isClsIn K C = true)
    (h2 : PySem.W.typeIn K (.ref C) = some (.type "type")) (h3 : PySem.W.subIn K (.ref N) (.ref C) = some b) : PySem.W.exmOne K (.ref N) (.ref C) = some b := by
  have e1 : (PySem.W.subIn K (.ref C) (.type "BaseException") == some true) = true := by rw [hb] <;> rfl
  unfold PySem.W.exmOne
  rw [if_pos e1]
  exact (kit_sub h0 h1 h2 h3).1
theorem int_inj : Function.Injective D.int := fun _ _ h => by cases h; rfl
theorem map_int_inj {xs ys : List Int} (h : List.map D.int xs = List.map D.int ys) : xs = ys := (List.map_inj_right fun _ _ e => int_inj e).mp h
theorem rSum_lst {μ : Sto} {ns : List Int} {Q : QD} : rSumD [.lst (List.map D.int ns)] μ Q ↔ Q (.int ns.sum) μ := by
  constructor
  · rintro ⟨d, ms, e, h, q⟩
    cases e
    rw [view_lst] at h
    cases map_int_inj (Option.some.inj h)
    exact q
  · exact fun q => ⟨_, ns, rfl, rfl, q⟩
def cutN {α : Type} (xs : List α) (lo hi : Option Int) : List α := (xs.drop (HT.sIx xs.length 0 lo)).take (HT.sIx xs.length xs.length hi - HT.sIx xs.length 0 lo)
theorem cut_map {ns : List Int} {lo hi : Option Int} : cutD (List.map D.int ns) lo hi = List.map D.int (cutN ns lo hi) := by
  unfold cutD cutN
  rw [List.length_map, ← List.map_drop, ← List.map_take]
theorem cutN_to {α : Type} {xs : List α} {i : Int} (h0 : 0 ≤ i) (h1 : i ≤ xs.length) : cutN xs none (some i) = xs.take i.toNat := by
  unfold cutN
  have e : HT.sIx xs.length 0 none = 0 := rfl
  have e2 : HT.sIx xs.length xs.length (some i) = i.toNat := by
    show (if i < 0 then (i + (xs.length : Int)).toNat else min i.toNat xs.length) = i.toNat
    rw [if_neg (by omega)]
    omega
  rw [e, e2]
  simp
theorem wQ.mk {Q : QD} {d : D} {μ : Sto} (h : Q d μ) : wQ Q d μ := ⟨μ, Sub.refl _, h⟩
theorem wE.mk {E : ExD} {C : Addr} {d : D} {μ : Sto} (h : E C d μ) : wE E C d μ := ⟨μ, Sub.refl _, h⟩
theorem enum_get {ns : List Int} {i : Nat} {d : D} (h : (enumD (List.map D.int ns))[i]? = some d) : ∃ v, ns[i]? = some v ∧ d = .tup [.int (i : Nat), .int v] := by
  obtain ⟨x, hx, rfl⟩ := enumD_get h
  rw [List.getElem?_map] at hx
  cases e : ns[i]? with
  | none => rw [e] at hx; cases hx
  | some v => rw [e] at hx; cases hx; exact ⟨v, rfl, rfl⟩
theorem sdel_sset {μ : Sto} {p : Addr} {o : MO} (h : μ p = none) : sdel (sset μ p o) p = μ := by
  funext b
  unfold sdel sset
  split
  · rename_i e; rw [e, h]
  · rfl
theorem atI_c0 {α : Type} {x : α} {xs : List α} : L2.atI (x :: xs) 0 = some x := by
  unfold L2.atI ixN
  rw [if_pos (by omega), if_pos (by simp <;> omega)]
  rfl
theorem atI_c1 {α : Type} {x y : α} {xs : List α} : L2.atI (x :: y :: xs) 1 = some y := by
  unfold L2.atI ixN
  rw [if_pos (by omega), if_pos (by simp <;> omega)]
  rfl
theorem atI_c2 {α : Type} {x y z : α} {xs : List α} : L2.atI (x :: y :: z :: xs) 2 = some z := by
  unfold L2.atI ixN
  rw [if_pos (by omega), if_pos (by simp <;> omega)]
  rfl
theorem atI_c3 {α : Type} {x y z w : α} {xs : List α} : L2.atI (x :: y :: z :: w :: xs) 3 = some w := by
  unfold L2.atI ixN
  rw [if_pos (by omega), if_pos (by simp <;> omega)]
  rfl
theorem fget_hd {f : Str} {r : List Str} {x : D} {xs : List D} : fget f (f :: r) (x :: xs) = some x := if_pos rfl
theorem fget_tl {f g : Str} {r : List Str} {x : D} {xs : List D} (h : ¬ f = g) : fget f (g :: r) (x :: xs) = fget f r xs := if_neg h
theorem fpN_hd {f : Str} {r : List Str} : fpN f (f :: r) = f :: r := if_pos rfl
theorem fpN_tl {f g : Str} {r : List Str} (h : ¬ g = f) : fpN f (g :: r) = g :: fpN f r := if_neg h
theorem fpD_hd {α : Type} {f : Str} {d : α} {r : List Str} {x : α} {xs : List α} : fpD f d (f :: r) (x :: xs) = d :: xs := if_pos rfl
theorem fpD_tl {α : Type} {f g : Str} {d : α} {r : List Str} {x : α} {xs : List α} (h : ¬ g = f) : fpD f d (g :: r) (x :: xs) = x :: fpD f d r xs := if_neg h
theorem rng_get {lo : Int} {n i : Nat} {d : D} (h : (rngD lo n)[i]? = some d) : d = .int (lo + i) ∧ i < n := rngD_get h
end TL

namespace TL
open PySem PySem.Spec PyProof.Rows L2
section
variable {σ : SD} {μ : Sto} {Q : QD} {E : ExD} {Dn : DE} {QB : Bool → Sto → Prop} {QA : List D → Sto → Prop} {QO : Option Int → Sto → Prop}
  {ma mb mc me mo mi : ME} {mas : MA} {mt mu : MT} {m k : MS} {r : R2D} {n i j l : Nat} {F : TL.Spec} {FA : Addr → TL.Spec} {g : MG} {gs : MGs} {P : Addr → Prop} {f : Str} {d e y : D} {ds : List D} {b : Bool} {lo hi : MO'} {rc : List D → Sto → QD → Prop} {C : Addr} {v : Int}
def kAsg (g : MG) (σ : SD) (Dn : DE) : QD := fun d μ => g d σ μ Dn.nx
def kExp (σ : SD) (Dn : DE) : QD := fun _ μ => Dn.nx σ μ
def kIfS (m k : MS) (σ : SD) (Dn : DE) : Bool → Sto → Prop := fun b μ => if b = true then m Dn σ μ else k Dn σ μ
def kPar (i j : Nat) (σ : SD) (Dn : DE) : List D → Sto → Prop := fun ds μ => match ds with
  | [d, e] => Dn.nx ((σ.set i (some d)).set j (some e)) μ
  | _ => False
def kBin (r : R2D) (mb : ME) (σ : SD) (Q : QD) (E : ExD) : QD := fun x μ => mb σ μ (fun y μ2 => r x y μ2 Q) E
def kBin2 (r : R2D) (x : D) (Q : QD) : QD := fun y μ => r x y μ Q
def kB (Q : Bool → Sto → Prop) : QD := fun d μ => match d with
  | .bl b => Q b μ
  | _ => False
def kNot (Q : Bool → Sto → Prop) : Bool → Sto → Prop := fun b μ => Q (!b) μ
def kAnd (k : MT) (σ : SD) (Q : Bool → Sto → Prop) (E : ExD) : Bool → Sto → Prop := fun b μ => if b = true then k σ μ Q E else Q false μ
def kOr (k : MT) (σ : SD) (Q : Bool → Sto → Prop) (E : ExD) : Bool → Sto → Prop := fun b μ => if b = true then Q true μ else k σ μ Q E
def kAndV (k : ME) (σ : SD) (Q : QD) (E : ExD) : QD := fun d μ => match d with
  | .bl b => if b = true then k σ μ Q E else Q (.bl false) μ
  | _ => False
def kNeg (Q : QD) : QD := fun d μ => match d with
  | .int i => Q (.int (-i)) μ
  | _ => False
def kCB (rc : List D → Sto → QD → Prop) (Q : QD) : List D → Sto → Prop := fun ds μ => rc ds μ Q
def kCall (n : Nat) (F : TL.Spec) (Q : QD) (E : ExD) : List D → Sto → Prop := fun ds μ => ds.length = n ∧ F ds μ Q E
def kCons (mas : MA) (σ : SD) (Q : List D → Sto → Prop) (E : ExD) : QD := fun d μ => mas σ μ (fun ds μ2 => Q (d :: ds) μ2) E
def kCons2 (d : D) (Q : List D → Sto → Prop) : List D → Sto → Prop := fun ds μ => Q (d :: ds) μ
def kTup (Q : QD) : List D → Sto → Prop := fun ds μ => ds.length ≤ sizeLine ∧ Q (.tup ds) μ
def kLst (b : Bool) (Q : QD) : List D → Sto → Prop := fun ds μ => ds.length ≤ sizeLine ∧ mkL b ds μ Q
def kSl (b : Bool) (lo hi : MO') (σ : SD) (Q : QD) (E : ExD) : QD := fun d μ1 => lo σ μ1 (fun i μ2 => hi σ μ2 (fun j μ3 => match viewL μ3 d with
  | some ds => mkL b (cutD ds i j) μ3 Q
  | none => False) E) E
def kO (QO : Option Int → Sto → Prop) : QD := fun d μ => match d with
  | .int i => QO (some i) μ
  | _ => False
def kFld (P : Addr → Prop) (f : Str) (Q : QD) : QD := fun d μ => ∃ C ns ds x, viewI μ d = some (C, ns, ds) ∧ P C ∧ fget f ns ds = some x ∧ Q x μ
def kProp (P : Addr → Prop) (n : Nat) (FA : Addr → TL.Spec) (Q : QD) : QD := fun d μ => ∃ C ns ds, viewI μ d = some (C, ns, ds) ∧ P C ∧ 1 = n ∧ FA C [d] μ Q noE
def kMeth (P : Addr → Prop) (f : Str) (n : Nat) (FA : Addr → TL.Spec) (mas : MA) (σ : SD) (Q : QD) (E : ExD) : QD := fun d μ => ∃ C ns ds, viewI μ d = some (C, ns, ds) ∧ P C ∧ f ∉ ns ∧ mas σ μ (fun ws μ2 => ws.length + 1 = n ∧ FA C (d :: ws) μ2 Q E) E
def kMeth2 (C : Addr) (n : Nat) (FA : Addr → TL.Spec) (d : D) (Q : QD) (E : ExD) : List D → Sto → Prop := fun ws μ2 => ws.length + 1 = n ∧ FA C (d :: ws) μ2 Q E
def kMake (b : Bool) (C : Addr) (n : Nat) (F : TL.Spec) (Q : QD) (E : ExD) : List D → Sto → Prop := fun ds μ1 => ds.length + 1 = n ∧ ∀ p, μ1 p = none → F (.raw (.ref p) :: ds) (sset μ1 p (.ins C [] [])) (fun d μ2 => d = .non ∧ mkI b p μ2 Q) (wE E)
def kApp (me : ME) (σ : SD) (Q : QD) (E : ExD) : QD := fun d μ1 => ∃ p, d = .raw (.ref p) ∧ (∃ ds, μ1 p = some (.lst ds)) ∧ me σ μ1 (fun y μ2 => ∃ ds, μ2 p = some (.lst ds) ∧ ds.length < sizeLine ∧ Q .non (sset μ2 p (.lst (ds ++ [y])))) E
def kApp2 (p : Addr) (Q : QD) : QD := fun y μ2 => ∃ ds, μ2 p = some (.lst ds) ∧ ds.length < sizeLine ∧ Q .non (sset μ2 p (.lst (ds ++ [y])))
def kClear (Q : QD) : QD := fun d μ1 => ∃ p ds, d = .raw (.ref p) ∧ μ1 p = some (.lst ds) ∧ Q .non (sset μ1 p (.lst []))
def kFz (Q : QD) : QD := fun d μ1 => match d with
  | .raw (.ref p) => match μ1 p with
    | some (.lst ds) => Q (.lst ds) (sdel μ1 p)
    | some (.ins C ns ds) => Q (.ins C ns ds) (sdel μ1 p)
    | none => False
  | _ => False
def kSub (mo mi : ME) (σ : SD) (Dn : DE) : QD := fun y μ1 => mo σ μ1 (fun d μ2 => mi σ μ2 (fun k μ3 => ∃ p ds i j, d = .raw (.ref p) ∧ k = .int i ∧ μ3 p = some (.lst ds) ∧ ixN ds.length i = some j ∧ Dn.nx σ (sset μ3 p (.lst (ds.set j y)))) (exAt Dn σ)) (exAt Dn σ)
def kSub2 (mi : ME) (y : D) (σ : SD) (Dn : DE) : QD := fun d μ2 => mi σ μ2 (fun k μ3 => ∃ p ds i j, d = .raw (.ref p) ∧ k = .int i ∧ μ3 p = some (.lst ds) ∧ ixN ds.length i = some j ∧ Dn.nx σ (sset μ3 p (.lst (ds.set j y)))) (exAt Dn σ)
def kSub3 (d y : D) (σ : SD) (Dn : DE) : QD := fun k μ3 => ∃ p ds i j, d = .raw (.ref p) ∧ k = .int i ∧ μ3 p = some (.lst ds) ∧ ixN ds.length i = some j ∧ Dn.nx σ (sset μ3 p (.lst (ds.set j y)))
def kIR (P : List D → Sto → Prop) : QD := fun d μ => match d with
  | .int n => -(2 ^ 62) ≤ n ∧ n < 2 ^ 62 ∧ P (rngD 0 n.toNat) μ
  | _ => False
theorem g_seq : mSeq m k Dn σ μ ↔ m { Dn with nx := k Dn } σ μ := Iff.rfl
theorem g_ifs : mIfS mt m k Dn σ μ ↔ mt σ μ (kIfS m k σ Dn) (exAt Dn σ) := Iff.rfl
theorem h_ifs : kIfS m k σ Dn b μ ↔ if b = true then m Dn σ μ else k Dn σ μ := Iff.rfl
theorem g_next : mNext Dn σ μ ↔ Dn.nx σ μ := Iff.rfl
theorem g_break : mBreak Dn σ μ ↔ Dn.bk σ μ := Iff.rfl
theorem g_cont : mCont Dn σ μ ↔ Dn.ct σ μ := Iff.rfl
theorem g_never : mNever Dn σ μ ↔ False := Iff.rfl
theorem g_expr : mExpr ma Dn σ μ ↔ ma σ μ (kExp σ Dn) (exAt Dn σ) := Iff.rfl
theorem h_expr : kExp σ Dn d μ ↔ Dn.nx σ μ := Iff.rfl
theorem g_ret : mRet ma Dn σ μ ↔ ma σ μ Dn.rt (exAt Dn σ) := Iff.rfl
theorem g_retN : mRetN Dn σ μ ↔ Dn.rt .non μ := Iff.rfl
theorem g_asg : mAsg ma g Dn σ μ ↔ ma σ μ (kAsg g σ Dn) (exAt Dn σ) := Iff.rfl
theorem h_asg : kAsg g σ Dn d μ ↔ g d σ μ Dn.nx := Iff.rfl
theorem g_par : mPar i j mas Dn σ μ ↔ mas σ μ (kPar i j σ Dn) (exAt Dn σ) := Iff.rfl
theorem h_par : kPar i j σ Dn [d, e] μ ↔ Dn.nx ((σ.set i (some d)).set j (some e)) μ := Iff.rfl
theorem g_C : mC d σ μ Q E ↔ Q d μ := Iff.rfl
theorem g_bin : mBin r ma mb σ μ Q E ↔ ma σ μ (kBin r mb σ Q E) E := Iff.rfl
theorem h_bin : kBin r mb σ Q E d μ ↔ mb σ μ (kBin2 r d Q) E := Iff.rfl
theorem h_bin2 : kBin2 r d Q e μ ↔ r d e μ Q := Iff.rfl
theorem g_B : mB ma σ μ QB E ↔ ma σ μ (kB QB) E := Iff.rfl
theorem h_B : kB QB (.bl b) μ ↔ QB b μ := Iff.rfl
theorem g_not : mNot mt σ μ QB E ↔ mt σ μ (kNot QB) E := Iff.rfl
theorem h_not : kNot QB b μ ↔ QB (!b) μ := Iff.rfl
theorem g_and : mAnd mt mu σ μ QB E ↔ mt σ μ (kAnd mu σ QB E) E := Iff.rfl
theorem h_and : kAnd mu σ QB E b μ ↔ if b = true then mu σ μ QB E else QB false μ := Iff.rfl
theorem g_or : mOr mt mu σ μ QB E ↔ mt σ μ (kOr mu σ QB E) E := Iff.rfl
theorem h_or : kOr mu σ QB E b μ ↔ if b = true then QB true μ else mu σ μ QB E := Iff.rfl
theorem g_andV : mAndV ma mb σ μ Q E ↔ ma σ μ (kAndV mb σ Q E) E := Iff.rfl
theorem h_andV : kAndV mb σ Q E (.bl b) μ ↔ if b = true then mb σ μ Q E else Q (.bl false) μ := Iff.rfl
theorem g_neg : mNeg ma σ μ Q E ↔ ma σ μ (kNeg Q) E := Iff.rfl
theorem h_neg : kNeg Q (.int v) μ ↔ Q (.int (-v)) μ := Iff.rfl
theorem g_CB : mCB rc mas σ μ Q E ↔ mas σ μ (kCB rc Q) E := Iff.rfl
theorem h_CB : kCB rc Q ds μ ↔ rc ds μ Q := Iff.rfl
theorem g_call : mCall n F mas σ μ Q E ↔ mas σ μ (kCall n F Q E) E := Iff.rfl
theorem h_call : kCall n F Q E ds μ ↔ ds.length = n ∧ F ds μ Q E := Iff.rfl
theorem g_nil : mNil σ μ QA E ↔ QA [] μ := Iff.rfl
theorem g_cons : mCons ma mas σ μ QA E ↔ ma σ μ (kCons mas σ QA E) E := Iff.rfl
theorem h_cons : kCons mas σ QA E d μ ↔ mas σ μ (kCons2 d QA) E := Iff.rfl
theorem h_cons2 : kCons2 d QA ds μ ↔ QA (d :: ds) μ := Iff.rfl
theorem g_tup : mTup mas σ μ Q E ↔ mas σ μ (kTup Q) E := Iff.rfl
theorem h_tup : kTup Q ds μ ↔ ds.length ≤ sizeLine ∧ Q (.tup ds) μ := Iff.rfl
theorem g_lst : mLst b mas σ μ Q E ↔ mas σ μ (kLst b Q) E := Iff.rfl
theorem h_lst : kLst b Q ds μ ↔ ds.length ≤ sizeLine ∧ mkL b ds μ Q := Iff.rfl
theorem g_sl : mSl b ma lo hi σ μ Q E ↔ ma σ μ (kSl b lo hi σ Q E) E := Iff.rfl
theorem h_sl : kSl b lo hi σ Q E d μ ↔ lo σ μ (fun i μ2 => hi σ μ2 (fun j μ3 => match viewL μ3 d with
  | some ds => mkL b (cutD ds i j) μ3 Q
  | none => False) E) E := Iff.rfl
theorem g_oN : oNone σ μ QO E ↔ QO none μ := Iff.rfl
theorem g_oS : oSome ma σ μ QO E ↔ ma σ μ (kO QO) E := Iff.rfl
theorem h_oS : kO QO (.int v) μ ↔ QO (some v) μ := Iff.rfl
theorem g_fld : mFld P f ma σ μ Q E ↔ ma σ μ (kFld P f Q) E := Iff.rfl
theorem h_fld : kFld P f Q d μ ↔ ∃ C ns ds x, viewI μ d = some (C, ns, ds) ∧ P C ∧ fget f ns ds = some x ∧ Q x μ := Iff.rfl
theorem g_prop : mProp P n FA ma σ μ Q E ↔ ma σ μ (kProp P n FA Q) E := Iff.rfl
theorem h_prop : kProp P n FA Q d μ ↔ ∃ C ns ds, viewI μ d = some (C, ns, ds) ∧ P C ∧ 1 = n ∧ FA C [d] μ Q noE := Iff.rfl
theorem g_meth : mMeth P f n FA ma mas σ μ Q E ↔ ma σ μ (kMeth P f n FA mas σ Q E) E := Iff.rfl
theorem h_meth : kMeth P f n FA mas σ Q E d μ ↔ ∃ C ns ds, viewI μ d = some (C, ns, ds) ∧ P C ∧ f ∉ ns ∧ mas σ μ (kMeth2 C n FA d Q E) E := Iff.rfl
theorem h_meth2 : kMeth2 C n FA d Q E ds μ ↔ ds.length + 1 = n ∧ FA C (d :: ds) μ Q E := Iff.rfl
theorem g_make : mMake b C n F mas σ μ Q E ↔ mas σ μ (kMake b C n F Q E) E := Iff.rfl
theorem h_make : kMake b C n F Q E ds μ ↔ ds.length + 1 = n ∧ ∀ p, μ p = none → F (.raw (.ref p) :: ds) (sset μ p (.ins C [] [])) (fun d μ2 => d = .non ∧ mkI b p μ2 Q) (wE E) := Iff.rfl
theorem g_app : mAppend mo me σ μ Q E ↔ mo σ μ (kApp me σ Q E) E := Iff.rfl
theorem h_app : kApp me σ Q E d μ ↔ ∃ p, d = .raw (.ref p) ∧ (∃ ds, μ p = some (.lst ds)) ∧ me σ μ (kApp2 p Q) E := Iff.rfl
theorem h_app2 {p : Addr} : kApp2 p Q y μ ↔ ∃ ds, μ p = some (.lst ds) ∧ ds.length < sizeLine ∧ Q .non (sset μ p (.lst (ds ++ [y]))) := Iff.rfl
theorem g_clear : mClear mo σ μ Q E ↔ mo σ μ (kClear Q) E := Iff.rfl
theorem h_clear : kClear Q d μ ↔ ∃ p ds, d = .raw (.ref p) ∧ μ p = some (.lst ds) ∧ Q .non (sset μ p (.lst [])) := Iff.rfl
theorem g_fz : mFz ma σ μ Q E ↔ ma σ μ (kFz Q) E := Iff.rfl
theorem h_fz {p : Addr} (h : μ p = some (.lst ds)) : kFz Q (.raw (.ref p)) μ ↔ Q (.lst ds) (sdel μ p) := by
  unfold kFz
  dsimp only
  rw [h]
theorem g_sub : mSub me mo mi Dn σ μ ↔ me σ μ (kSub mo mi σ Dn) (exAt Dn σ) := Iff.rfl
theorem h_sub : kSub mo mi σ Dn y μ ↔ mo σ μ (kSub2 mi y σ Dn) (exAt Dn σ) := Iff.rfl
theorem h_sub2 : kSub2 mi y σ Dn d μ ↔ mi σ μ (kSub3 d y σ Dn) (exAt Dn σ) := Iff.rfl
theorem h_sub3 : kSub3 d y σ Dn e μ ↔ ∃ p ds i j, d = .raw (.ref p) ∧ e = .int i ∧ μ p = some (.lst ds) ∧ ixN ds.length i = some j ∧ Dn.nx σ (sset μ p (.lst (ds.set j y))) := Iff.rfl
theorem g_ir {PP : List D → Sto → Prop} : mIR1 ma σ μ PP E ↔ ma σ μ (kIR PP) E := Iff.rfl
theorem h_ir {PP : List D → Sto → Prop} : kIR PP (.int v) μ ↔ -(2 ^ 62) ≤ v ∧ v < 2 ^ 62 ∧ PP (rngD 0 v.toNat) μ := Iff.rfl
theorem g_gN {q : SD → Sto → Prop} : gN i d σ μ q ↔ q (σ.set i (some d)) μ := Iff.rfl
theorem g_gT {q : SD → Sto → Prop} : gT n gs (.tup ds) σ μ q ↔ ds.length = n ∧ gs ds σ μ q := Iff.rfl
theorem g_gL {q : SD → Sto → Prop} : gL n gs (.lst ds) σ μ q ↔ ds.length = n ∧ gs ds σ μ q := Iff.rfl
theorem g_gNil {q : SD → Sto → Prop} : gNilD [] σ μ q ↔ q σ μ := Iff.rfl
theorem g_gCons {q : SD → Sto → Prop} : gConsD g gs (d :: ds) σ μ q ↔ g d σ μ (fun σ1 μ1 => gs ds σ1 μ1 q) := Iff.rfl
theorem g_yes : mYes σ μ QB E ↔ QB true μ := Iff.rfl
theorem g_name0 {x : D} {t : SD} : mName 0 (some x :: t) μ Q E ↔ Q x μ := Iff.rfl
theorem g_name {x : Option D} {t : SD} : mName (n + 1) (x :: t) μ Q E ↔ mName n t μ Q E := by
  unfold mName
  rw [List.getElem?_cons_succ]
theorem g_add {x z : Int} : rAdd (.int x) (.int z) μ Q ↔ Q (.int (x + z)) μ := Iff.rfl
theorem g_sub' {x z : Int} : rSub (.int x) (.int z) μ Q ↔ Q (.int (x - z)) μ := Iff.rfl
theorem g_mul {x z : Int} : rMul (.int x) (.int z) μ Q ↔ IntMulOk x z ∧ Q (.int (x * z)) μ := Iff.rfl
theorem g_fdiv {x z : Int} : rFdiv (.int x) (.int z) μ Q ↔ CDivW x z ∧ Q (.int (x / z)) μ := Iff.rfl
theorem g_mod {x z : Int} : rMod (.int x) (.int z) μ Q ↔ 0 < z ∧ Q (.int (x % z)) μ := Iff.rfl
theorem g_pow {x z : Int} : rPow (.int x) (.int z) μ Q ↔ CPowW x z ∧ Q (.int (x ^ z.toNat)) μ := Iff.rfl
theorem g_lt {x z : Int} : rLt (.int x) (.int z) μ Q ↔ Q (.bl (decide (x < z))) μ := Iff.rfl
theorem g_le {x z : Int} : rLe (.int x) (.int z) μ Q ↔ Q (.bl (decide (x ≤ z))) μ := Iff.rfl
theorem g_gt {x z : Int} : rGt (.int x) (.int z) μ Q ↔ Q (.bl (decide (z < x))) μ := Iff.rfl
theorem g_ge {x z : Int} : rGe (.int x) (.int z) μ Q ↔ Q (.bl (decide (z ≤ x))) μ := Iff.rfl
theorem g_eqI {x z : Int} : TL.rEqD (.int x) (.int z) μ Q ↔ Q (.bl (decide (x = z))) μ := Iff.rfl
theorem g_neI {x z : Int} : TL.rNeD (.int x) (.int z) μ Q ↔ Q (.bl (!decide (x = z))) μ := Iff.rfl
theorem g_eqS {x z : Str} : TL.rEqD (.str x) (.str z) μ Q ↔ Q (.bl (decide (x = z))) μ := Iff.rfl
theorem g_neS {x z : Str} : TL.rNeD (.str x) (.str z) μ Q ↔ Q (.bl (!decide (x = z))) μ := Iff.rfl
theorem g_notN : rNotND .non .non μ Q ↔ Q (.bl false) μ := Iff.rfl
theorem g_ixL : rIxD (.lst ds) (.int v) μ Q ↔ match L2.atI ds v with
    | some d => Q d μ
    | none => False := Iff.rfl
theorem g_ixT : rIxD (.tup ds) (.int v) μ Q ↔ match L2.atI ds v with
    | some d => Q d μ
    | none => False := Iff.rfl
theorem g_lenL : rLen [.lst ds] μ Q ↔ Q (.int ds.length) μ := Iff.rfl
theorem g_lenT : rLen [.tup ds] μ Q ↔ Q (.int ds.length) μ := Iff.rfl
theorem g_intI {x : Int} : rIntD [.int x] μ Q ↔ Q (.int x) μ := Iff.rfl
theorem g_listL : rList b [.lst ds] μ Q ↔ mkL b ds μ Q := Iff.rfl
theorem g_mkF : mkL false ds μ Q ↔ Q (.lst ds) μ := Iff.rfl
theorem g_mkT : mkL true ds μ Q ↔ ∀ p, μ p = none → Q (.raw (.ref p)) (sset μ p (.lst ds)) := Iff.rfl
theorem g_ix (h : viewQ μ d = some ds) (hx : L2.atI ds v = some e) : rIxD d (.int v) μ Q ↔ Q e μ := by
  unfold rIxD
  rw [h]
  dsimp only
  rw [hx]
theorem g_len (h : viewQ μ d = some ds) : rLen [d] μ Q ↔ Q (.int ds.length) μ := by
  unfold rLen
  dsimp only
  rw [h]
end
end TL

local macro_rules
  | `(tactic| walk_at "go") => `(tactic| simp only [TL.mSeq, TL.mIfS, TL.mNext, TL.mRet, TL.mRetN, TL.mExpr, TL.mAsg, TL.mPar, TL.mPar3, TL.mNever, TL.mBreak, TL.mCont, TL.mAug, TL.mSub, TL.mSFld, TL.mRaise, TL.exAt, TL.mName, TL.mC, TL.mBin, TL.mChain, TL.mAndV, TL.mOrV, TL.mNotV, TL.mNeg, TL.mIf, TL.mTup, TL.mLst, TL.mSl, TL.oNone, TL.oSome, TL.mRev, TL.mFld, TL.mProp, TL.mCall, TL.mMake, TL.mCB, TL.mAppend, TL.mPop, TL.mClear, TL.mMeth, TL.mFz, TL.mNil, TL.mCons, TL.mB, TL.mTru, TL.mAnd, TL.mOr, TL.mNot, TL.rInt2, TL.rInt2C, TL.rAdd, TL.rSub, TL.rMul, TL.rFdiv, TL.rMod, TL.rPow, TL.rLt, TL.rLe, TL.rGt, TL.rGe, TL.rEqD, TL.rNeD, TL.sclD, TL.rIsND, TL.rNotND, TL.rIxD, TL.rLen, TL.rTuple, TL.rIntD, TL.rI1, TL.rI2, TL.gN, TL.gT, TL.gL, TL.gNilD, TL.gConsD, TL.startD, TL.endD, TL.mIL, TL.mIT, TL.mIR1, TL.mIE, TL.mIZ, List.map_cons, List.map_nil, List.length_cons, List.length_nil, List.cons_append, List.nil_append, List.getElem?_cons_zero, List.getElem?_cons_succ, TL.set0, TL.setS, List.replicate, TL.view_lst, TL.view_scr, TL.viewM_lst, TL.viewQ_lst, TL.viewQ_scr, TL.viewQ_tup, TL.viewI_ins, TL.ite_bT, TL.ite_bF, Nat.reduceAdd, Nat.reduceSub, Int.reduceToNat, Int.reducePow, List.length_map, true_and, and_true, TL.mkL, TL.rSum_lst, TL.sset_sset, TL.rList, TL.atI_c0, TL.atI_c1, TL.atI_c2, TL.atI_c3, TL.cut_map])
local macro_rules
  | `(tactic| walk_at "gk") => `(tactic| simp only [TL.startD, TL.endD, TL.g_seq, TL.g_ifs, TL.h_ifs, TL.g_next, TL.g_break, TL.g_cont, TL.g_never, TL.g_expr, TL.h_expr, TL.g_ret, TL.g_retN, TL.g_asg, TL.h_asg, TL.g_par, TL.h_par, TL.g_C, TL.g_bin, TL.h_bin, TL.h_bin2, TL.g_B, TL.h_B, TL.g_not, TL.h_not, TL.g_and, TL.h_and, TL.g_or, TL.h_or, TL.g_andV, TL.h_andV, TL.g_neg, TL.h_neg, TL.g_CB, TL.h_CB, TL.g_call, TL.h_call, TL.g_nil, TL.g_cons, TL.h_cons, TL.h_cons2, TL.g_tup, TL.h_tup, TL.g_lst, TL.h_lst, TL.g_sl, TL.h_sl, TL.g_oN, TL.g_oS, TL.h_oS, TL.g_fld, TL.h_fld, TL.g_prop, TL.h_prop, TL.g_meth, TL.h_meth, TL.h_meth2, TL.g_make, TL.h_make, TL.g_app, TL.h_app, TL.h_app2, TL.g_clear, TL.h_clear, TL.g_fz, TL.g_sub, TL.h_sub, TL.h_sub2, TL.h_sub3, TL.g_ir, TL.h_ir, TL.g_gN, TL.g_gT, TL.g_gL, TL.g_gNil, TL.g_gCons, TL.g_yes, TL.g_name0, TL.g_name, TL.g_add, TL.g_sub', TL.g_mul, TL.g_fdiv, TL.g_mod, TL.g_pow, TL.g_lt, TL.g_le, TL.g_gt, TL.g_ge, TL.g_eqI, TL.g_neI, TL.g_eqS, TL.g_neS, TL.g_notN, TL.g_ixL, TL.g_ixT, TL.g_lenL, TL.g_lenT, TL.g_intI, TL.g_listL, TL.g_mkF, TL.g_mkT,
      List.map_cons, List.map_nil, List.length_cons, List.length_nil, List.cons_append, List.nil_append, TL.set0, TL.setS, List.replicate, TL.ite_bT, TL.ite_bF, Nat.reduceAdd, Nat.reduceSub, Int.reduceToNat, Int.reducePow, List.length_map, true_and, and_true, TL.rSum_lst, TL.sset_sset, TL.atI_c0, TL.atI_c1, TL.atI_c2, TL.atI_c3, TL.cut_map, TL.view_lst])
namespace T64

theorem sum_take_succ {xs : List Int} {i : Nat} (h : i < xs.length) : (xs.take (i + 1)).sum = (xs.take i).sum + xs.getD i 0 := by
  induction xs generalizing i with
  | nil => simp at h
  | cons x xs ih =>
    cases i with
    | zero => simp
    | succ i =>
      have := ih (i := i) (by simpa using h)
      simp only [List.take_succ_cons, List.sum_cons, List.getD_cons_succ]
      omega
structure SpOk (sp : List Int) : Prop where
  l1 : 1 ≤ sp.length
  l2 : sp.length ≤ 12
  r : ∀ x, x ∈ sp → 0 ≤ x ∧ x ≤ 3
  s : 0 < sp.sum
def spAt (sp : List Int) (t : Int) : Int := sp.getD (t % sp.length).toNat 0
theorem sum_le {xs : List Int} (h : ∀ x, x ∈ xs → 0 ≤ x ∧ x ≤ 3) : 0 ≤ xs.sum ∧ xs.sum ≤ 3 * xs.length := by
  induction xs with
  | nil => simp
  | cons x xs ih =>
    have h1 := h x (by simp)
    have h2 := ih fun y hy => h y (by simp [hy])
    simp only [List.sum_cons, List.length_cons]
    omega
theorem SpOk.sum (h : SpOk sp) : sp.sum ≤ 36 := by
  have := (sum_le h.r).2
  have := h.l2
  omega
theorem SpOk.ix (h : SpOk sp) (t : Int) : 0 ≤ t % sp.length ∧ t % sp.length < sp.length := by
  have := h.l1
  exact ⟨Int.emod_nonneg _ (by omega), Int.emod_lt_of_pos _ (by omega)⟩
theorem SpOk.at (h : SpOk sp) (t : Int) : sp[(t % sp.length).toNat]? = some (spAt sp t) ∧ 0 ≤ spAt sp t ∧ spAt sp t ≤ 3 := by
  have hi := h.ix t
  have hl : (t % sp.length).toNat < sp.length := by omega
  have e : sp[(t % sp.length).toNat]? = some sp[(t % sp.length).toNat] := List.getElem?_eq_getElem hl
  have e2 : spAt sp t = sp[(t % sp.length).toNat] := by
    unfold spAt
    rw [List.getD_eq_getElem?_getD, e]
    rfl
  rw [e2]
  exact ⟨e, h.r _ (List.getElem_mem hl)⟩
def cum (sp : List Int) (t : Int) : Int := t / sp.length * sp.sum + (sp.take (t % sp.length).toNat).sum
theorem cum_succ (h : SpOk sp) (t : Int) : cum sp (t + 1) = cum sp t + spAt sp t := by
  have hn := h.l1
  have hi := h.ix t
  have hp : (0 : Int) < sp.length := by omega
  have hd := Int.emod_add_mul_ediv t sp.length
  unfold cum spAt
  generalize hq : t / (sp.length : Int) = q at *
  generalize hr : t % (sp.length : Int) = r at *
  by_cases c : r + 1 < sp.length
  · have e1 : (t + 1) / (sp.length : Int) = q := by
      have : t + 1 = (r + 1) + sp.length * q := by omega
      rw [this, Int.add_mul_ediv_left _ _ (by omega), Int.ediv_eq_zero_of_lt (by omega) c]
      omega
    have e2 : (t + 1) % (sp.length : Int) = r + 1 := by
      have : t + 1 = (r + 1) + sp.length * q := by omega
      rw [this, Int.add_mul_emod_self_left, Int.emod_eq_of_lt (by omega) c]
    rw [e1, e2]
    have e3 : (r + 1).toNat = r.toNat + 1 := by omega
    rw [e3, sum_take_succ (by omega)]
    omega
  · have er : r = sp.length - 1 := by omega
    have e0 : t + 1 = sp.length * (q + 1) := by
      rw [Int.mul_add]
      omega
    have e1 : (t + 1) / (sp.length : Int) = q + 1 := by
      rw [e0, Int.mul_ediv_cancel_left _ (by omega)]
    have e2 : (t + 1) % (sp.length : Int) = 0 := by
      rw [e0, Int.mul_emod_right]
    rw [e1, e2]
    have e3 : r.toNat + 1 = sp.length := by omega
    have e4 := sum_take_succ (xs := sp) (i := r.toNat) (by omega)
    rw [e3, List.take_length] at e4
    simp only [Int.toNat_zero, List.take_zero, List.sum_nil]
    rw [Int.add_mul]
    omega
def nxt (sp : List Int) (t : Int) (m : Nat) : Int := cum sp (t + m) - cum sp t
theorem nxt_zero : nxt sp t 0 = 0 := by simp [nxt]
theorem nxt_succ (h : SpOk sp) (t : Int) (m : Nat) : nxt sp t (m + 1) = spAt sp t + nxt sp (t + 1) m := by
  unfold nxt
  have e1 : t + ((m + 1 : Nat) : Int) = t + 1 + m := by omega
  rw [e1, cum_succ h t]
  omega
theorem cum_week (h : SpOk sp) (t : Int) : cum sp (t + sp.length) = cum sp t + sp.sum := by
  have hn := h.l1
  unfold cum
  have e1 : (t + sp.length) / (sp.length : Int) = t / sp.length + 1 := by
    rw [Int.add_ediv_of_dvd_right (Int.dvd_refl _), Int.ediv_self (by omega)]
  have e2 : (t + sp.length) % (sp.length : Int) = t % sp.length := by
    rw [Int.add_emod_right]
  rw [e1, e2, Int.add_mul]
  omega
theorem nxt_week (h : SpOk sp) (t : Int) : nxt sp t sp.length = sp.sum := by
  unfold nxt
  rw [cum_week h]
  omega
def wowV (sp : List Int) (b e : Int) : Int := cum sp e - cum sp b
def eowL (sp : List Int) : Nat → Int → Int → Int
  | 0, _, at_ => at_
  | n + 1, left, at_ => if 0 < left then eowL sp n (left - spAt sp at_) (at_ + 1) else at_
def eowV (sp : List Int) (b m : Int) : Int := if m = 0 then b else eowL sp sp.length (m - (m - 1) / sp.sum * sp.sum) (b + (m - 1) / sp.sum * sp.length)
def bowL (sp : List Int) : Nat → Int → Int → Int
  | 0, _, at_ => at_
  | n + 1, left, at_ => if 0 < left then bowL sp n (left - spAt sp (at_ - 1)) (at_ - 1) else at_
def bowV (sp : List Int) (e m : Int) : Int := if m = 0 then e else bowL sp sp.length (m - (m - 1) / sp.sum * sp.sum) (e - (m - 1) / sp.sum * sp.length)
theorem rest_le {m s : Int} (hs : 0 < s) (hm : 0 < m) : 0 < m - (m - 1) / s * s ∧ m - (m - 1) / s * s ≤ s := by
  have h1 := Int.emod_nonneg (m - 1) (show s ≠ 0 by omega)
  have h2 := Int.emod_lt_of_pos (m - 1) hs
  have h3 := Int.emod_add_mul_ediv (m - 1) s
  rw [Int.mul_comm s] at h3
  omega
theorem eowL_le (sp : List Int) (n : Nat) (left at_ : Int) : at_ ≤ eowL sp n left at_ ∧ eowL sp n left at_ ≤ at_ + n := by
  induction n generalizing left at_ with
  | zero => simp [eowL]
  | succ n ih =>
    unfold eowL
    split
    · have := ih (left - spAt sp at_) (at_ + 1)
      omega
    · omega
theorem bowL_le (sp : List Int) (n : Nat) (left at_ : Int) : at_ - n ≤ bowL sp n left at_ ∧ bowL sp n left at_ ≤ at_ := by
  induction n generalizing left at_ with
  | zero => simp [bowL]
  | succ n ih =>
    unfold bowL
    split
    · have := ih (left - spAt sp (at_ - 1)) (at_ - 1)
      omega
    · omega
theorem weeks_le {m s n : Int} (hs : 0 < s) (hn : 0 ≤ n) (hm : 0 < m) : 0 ≤ (m - 1) / s * n ∧ (m - 1) / s * n ≤ m * n := by
  have h0 : 0 ≤ (m - 1) / s := Int.ediv_nonneg (by omega) (by omega)
  have h1 : (m - 1) / s ≤ m - 1 := Int.ediv_le_self _ (by omega)
  exact ⟨Int.mul_nonneg h0 hn, Int.mul_le_mul_of_nonneg_right (by omega) hn⟩
theorem eowV_le (h : SpOk sp) (hm : 0 ≤ m) (b : Int) : b ≤ eowV sp b m ∧ eowV sp b m ≤ b + 12 * m + 12 := by
  unfold eowV
  split
  · omega
  · have h1 := eowL_le sp sp.length (m - (m - 1) / sp.sum * sp.sum) (b + (m - 1) / sp.sum * sp.length)
    have h2 := weeks_le (m := m) (n := sp.length) h.s (by omega) (by omega)
    have h3 := h.l2
    have h4 : m * (sp.length : Int) ≤ m * 12 := Int.mul_le_mul_of_nonneg_left (by omega) hm
    omega
theorem bowV_le (h : SpOk sp) (hm : 0 ≤ m) (e : Int) : e - 12 * m - 12 ≤ bowV sp e m ∧ bowV sp e m ≤ e := by
  unfold bowV
  split
  · omega
  · have h1 := bowL_le sp sp.length (m - (m - 1) / sp.sum * sp.sum) (e - (m - 1) / sp.sum * sp.length)
    have h2 := weeks_le (m := m) (n := sp.length) h.s (by omega) (by omega)
    have h3 := h.l2
    have h4 : m * (sp.length : Int) ≤ m * 12 := Int.mul_le_mul_of_nonneg_left (by omega) hm
    omega

structure ChOk (ch : List (Int × Int)) : Prop where
  r : ∀ p, p ∈ ch → 0 ≤ p.2 ∧ p.2 ≤ 3
  s : ch.Pairwise fun p q => p.1 < q.1
structure Cal where
  sp : List Int
  ch : List (Int × Int)
structure CalOk (c : Cal) : Prop where
  sp : SpOk c.sp
  ch : ChOk c.ch
def realV (sp : List Int) (ch : List (Int × Int)) : List (Int × Int) := ch.filter fun p => decide (spAt sp p.1 ≠ p.2)
theorem ChOk.real (h : ChOk ch) (sp : List Int) : ChOk (realV sp ch) := ⟨fun p hp => h.r p ((List.mem_filter.mp hp).1), h.s.filter _⟩
def workL (sp : List Int) (b e : Int) : List (Int × Int) → Int → Int
  | [], f => f
  | p :: r, f => workL sp b e r (if b ≤ p.1 ∧ p.1 < e then f + (p.2 - spAt sp p.1) else f)
def workV (c : Cal) (b e : Int) : Int := workL c.sp b e c.ch (wowV c.sp b e)
def dueV (sp : List Int) : List (Int × Int) → Int → Int → Int
  | [], at_, left => eowV sp at_ left
  | p :: r, at_, left => if p.1 < at_ ∨ left = 0 then dueV sp r at_ left else
      if wowV sp at_ p.1 ≥ left then eowV sp at_ left else
      if wowV sp at_ p.1 + p.2 ≥ left then p.1 + 1 else dueV sp r (p.1 + 1) (left - wowV sp at_ p.1 - p.2)
def latV (sp : List Int) : List (Int × Int) → Int → Int → Int
  | [], at_, left => bowV sp at_ left
  | p :: r, at_, left => if p.1 ≥ at_ ∨ left = 0 then latV sp r at_ left else
      if wowV sp (p.1 + 1) at_ ≥ left then bowV sp at_ left else
      if wowV sp (p.1 + 1) at_ + p.2 ≥ left then p.1 else latV sp r p.1 (left - wowV sp (p.1 + 1) at_ - p.2)
end T64

namespace T64
theorem cum_mono (h : SpOk sp) (t : Int) (n : Nat) : cum sp t ≤ cum sp (t + n) ∧ cum sp (t + n) ≤ cum sp t + 3 * n := by
  induction n with
  | zero => simp
  | succ n ih =>
    have e : t + ((n + 1 : Nat) : Int) = t + n + 1 := by omega
    have := cum_succ h (t + n)
    have h3 := (h.at (t + n)).2
    rw [e]
    omega
theorem wow_nonneg (h : SpOk sp) {b e : Int} (hbe : b ≤ e) : 0 ≤ wowV sp b e := by
  have := cum_mono h b (e - b).toNat
  have e1 : b + ((e - b).toNat : Int) = e := by omega
  rw [e1] at this
  unfold wowV
  omega
def corr (sp : List Int) (b e : Int) : List (Int × Int) → Int
  | [] => 0
  | p :: r => (if b ≤ p.1 ∧ p.1 < e then p.2 - spAt sp p.1 else 0) + corr sp b e r
theorem workL_eq (sp : List Int) (b e : Int) (ch : List (Int × Int)) (f : Int) : workL sp b e ch f = f + corr sp b e ch := by
  induction ch generalizing f with
  | nil => simp [workL, corr]
  | cons p r ih =>
    unfold workL corr
    rw [ih]
    split <;> omega
theorem corr_none {sp : List Int} {b e : Int} : ∀ {ch : List (Int × Int)}, (∀ p, p ∈ ch → p.1 ≠ e) → corr sp b (e + 1) ch = corr sp b e ch
  | [], _ => rfl
  | p :: r, h => by
    have h1 := h p (by simp)
    have h2 := corr_none (sp := sp) (b := b) (e := e) (ch := r) fun q hq => h q (List.mem_cons_of_mem p hq)
    unfold corr
    rw [h2]
    congr 1
    by_cases c : b ≤ p.1 ∧ p.1 < e
    · rw [if_pos c, if_pos ⟨c.1, by omega⟩]
    · rw [if_neg c, if_neg (fun z => c ⟨z.1, by omega⟩)]
theorem corr_step {sp : List Int} {b e : Int} (hbe : b ≤ e) : ∀ {ch : List (Int × Int)}, (ch.Pairwise fun p q => p.1 < q.1) → (∀ p, p ∈ ch → 0 ≤ p.2 ∧ p.2 ≤ 3) →
    corr sp b (e + 1) ch = corr sp b e ch ∨ ∃ v, 0 ≤ v ∧ v ≤ 3 ∧ corr sp b (e + 1) ch = corr sp b e ch + (v - spAt sp e)
  | [], _, _ => .inl rfl
  | p :: r, hp, hr => by
    have hp1 := (List.pairwise_cons.mp hp).1
    have hp2 := (List.pairwise_cons.mp hp).2
    by_cases c : p.1 = e
    · have hn := corr_none (sp := sp) (b := b) (e := e) (ch := r) fun q hq => by
        have := hp1 q hq
        omega
      refine .inr ⟨p.2, (hr p (by simp)).1, (hr p (by simp)).2, ?_⟩
      unfold corr
      rw [hn, if_pos ⟨by omega, by omega⟩, if_neg (by omega), c]
      omega
    · have e1 : (if b ≤ p.1 ∧ p.1 < e + 1 then p.2 - spAt sp p.1 else 0) = (if b ≤ p.1 ∧ p.1 < e then p.2 - spAt sp p.1 else 0) := by
        by_cases d : b ≤ p.1 ∧ p.1 < e
        · rw [if_pos d, if_pos ⟨d.1, by omega⟩]
        · rw [if_neg d, if_neg (fun z => d ⟨z.1, by omega⟩)]
      rcases corr_step (sp := sp) hbe hp2 (fun q hq => hr q (by simp [hq])) with h | ⟨v, h1, h2, h⟩
      · refine .inl ?_
        unfold corr
        rw [e1, h]
      · refine .inr ⟨v, h1, h2, ?_⟩
        unfold corr
        rw [e1, h]
        omega
theorem corr_refl {sp : List Int} {b : Int} : ∀ {ch : List (Int × Int)}, corr sp b b ch = 0
  | [] => rfl
  | p :: r => by
    unfold corr
    rw [corr_refl, if_neg (by omega)]
    rfl
theorem work_bd (h : CalOk c) (b : Int) (n : Nat) : 0 ≤ workV c b (b + n) ∧ workV c b (b + n) ≤ 3 * n := by
  induction n with
  | zero =>
    have e : b + ((0 : Nat) : Int) = b := by omega
    rw [e]
    unfold workV
    rw [workL_eq, corr_refl]
    unfold wowV
    omega
  | succ n ih =>
    have e : b + ((n + 1 : Nat) : Int) = b + n + 1 := by omega
    rw [e]
    unfold workV at ih ⊢
    rw [workL_eq] at ih ⊢
    have h1 := cum_succ h.sp (b + n)
    have h3 := (h.sp.at (b + n)).2
    unfold wowV at ih ⊢
    rw [h1]
    rcases corr_step (sp := c.sp) (b := b) (e := b + n) (by omega) h.ch.s h.ch.r with k | ⟨v, k1, k2, k⟩
    · rw [k]; omega
    · rw [k]; omega
theorem work_le (h : CalOk c) {b e : Int} (hbe : b ≤ e) : 0 ≤ workV c b e ∧ workV c b e ≤ 3 * (e - b) := by
  have := work_bd h b (e - b).toNat
  have e1 : b + ((e - b).toNat : Int) = e := by omega
  rw [e1] at this
  omega
theorem due_bd (h : SpOk sp) {B A : Int} (hA : 0 ≤ A) : ∀ {ch : List (Int × Int)} {at_ left : Int}, (∀ p, p ∈ ch → 0 ≤ p.2 ∧ p.1 ≤ B) → at_ ≤ B + 1 → 0 ≤ left → left ≤ A →
    at_ ≤ dueV sp ch at_ left ∧ dueV sp ch at_ left ≤ B + 12 * A + 13
  | [], at_, left, _, h1, h2, h3 => by
    have := eowV_le h h2 at_
    unfold dueV
    omega
  | p :: r, at_, left, hp, h1, h2, h3 => by
    have hp1 := hp p (by simp)
    have hr := fun q hq => hp q (List.mem_cons_of_mem p hq)
    unfold dueV
    split
    · exact due_bd h hA hr h1 h2 h3
    · rename_i c
      have hw := wow_nonneg h (b := at_) (e := p.1) (by omega)
      have := eowV_le h h2 at_
      split
      · omega
      · split
        · omega
        · have := due_bd h hA (at_ := p.1 + 1) (left := left - wowV sp at_ p.1 - p.2) hr (by omega) (by omega) (by omega)
          omega
theorem lat_bd (h : SpOk sp) {B A : Int} (hA : 0 ≤ A) : ∀ {ch : List (Int × Int)} {at_ left : Int}, (∀ p, p ∈ ch → 0 ≤ p.2 ∧ B ≤ p.1) → B ≤ at_ → 0 ≤ left → left ≤ A →
    latV sp ch at_ left ≤ at_ ∧ B - 12 * A - 13 ≤ latV sp ch at_ left
  | [], at_, left, _, h1, h2, h3 => by
    have := bowV_le h h2 at_
    unfold latV
    omega
  | p :: r, at_, left, hp, h1, h2, h3 => by
    have hp1 := hp p (by simp)
    have hr := fun q hq => hp q (List.mem_cons_of_mem p hq)
    unfold latV
    split
    · exact lat_bd h hA hr h1 h2 h3
    · rename_i c
      have hw := wow_nonneg h (b := p.1 + 1) (e := at_) (by omega)
      have := bowV_le h h2 at_
      split
      · omega
      · split
        · omega
        · have := lat_bd h hA (at_ := p.1) (left := left - wowV sp (p.1 + 1) at_ - p.2) hr (by omega) (by omega) (by omega)
          omega
end T64

namespace T64
open PySem PySem.Spec PyProof.Rows L2 TL
def top (i : Nat) : Stmt := PySem.Challenge.pw_dueclocks_k64_tickets_taken_back.main.body.getD i (.Pass ⟨0, 0, 0, 0⟩)
abbrev s_check_speeds : Stmt := top 18
abbrev s_check_changes : Stmt := top 19
abbrev s_Calendar_init : Stmt := inClass (top 21) 0
abbrev s_Calendar_speeds : Stmt := inClass (top 21) 2
abbrev s_Calendar_changes : Stmt := inClass (top 21) 3
abbrev s_Calendar_eq : Stmt := inClass (top 21) 10
abbrev s_work_of_weeks : Stmt := top 23
abbrev s_end_of_weeks : Stmt := top 24
abbrev s_begin_of_weeks : Stmt := top 25
abbrev s_check_span : Stmt := top 26
abbrev s_check_amount : Stmt := top 27
abbrev s_work : Stmt := top 28
abbrev s_due : Stmt := top 29
abbrev s_latest : Stmt := top 30
abbrev s_left_of : Stmt := top 32
abbrev s_Ticket_init : Stmt := inClass (top 33) 0
abbrev s_Ticket_moment : Stmt := inClass (top 33) 1
abbrev s_Ticket_left : Stmt := inClass (top 33) 2
abbrev s_Ticket_is_paused : Stmt := inClass (top 33) 3
abbrev s_Ticket_left_at : Stmt := inClass (top 33) 4
abbrev s_Ticket_done_at : Stmt := inClass (top 33) 5
abbrev s_Ticket_can_wait : Stmt := inClass (top 33) 6
abbrev s_Ticket_note : Stmt := inClass (top 33) 7
abbrev s_Ticket_pause : Stmt := inClass (top 33) 8
abbrev s_Ticket_resume : Stmt := inClass (top 33) 9
abbrev s_Ticket_switch : Stmt := inClass (top 33) 10
abbrev s_Ticket_enlarge : Stmt := inClass (top 33) 11
abbrev s_Ticket_undo : Stmt := inClass (top 33) 12
abbrev s_Ticket_story : Stmt := inClass (top 33) 13
abbrev s_Ticket_len : Stmt := inClass (top 33) 14
abbrev s_law_well : Stmt := top 35
abbrev s_law_take : Stmt := top 36
abbrev s_law_number : Stmt := top 37
abbrev s_law_paces : Stmt := top 38
abbrev s_law_marks : Stmt := top 39
abbrev s_law_near : Stmt := top 40
abbrev s_law_told : Stmt := top 41
abbrev s_law_nothing : Stmt := top 42
abbrev s_law_call : Stmt := top 43
abbrev s_law_look : Stmt := top 44
abbrev s_law_same : Stmt := top 45
abbrev s_law_long : Stmt := top 46
abbrev s_law_fits : Stmt := top 47
abbrev s_law : Stmt := top 48
abbrev s_DueError_init : Stmt := inClass (top 2) 0
structure Ads where
  (f_check_speeds f_check_changes f_Calendar_init f_Calendar_speeds f_Calendar_changes f_Calendar_eq f_work_of_weeks f_end_of_weeks f_begin_of_weeks f_check_span f_check_amount f_work f_due f_latest f_left_of f_Ticket_init f_Ticket_moment f_Ticket_left f_Ticket_is_paused f_Ticket_left_at f_Ticket_done_at f_Ticket_can_wait f_Ticket_note f_Ticket_pause f_Ticket_resume f_Ticket_switch f_Ticket_enlarge f_Ticket_undo f_Ticket_story f_Ticket_len f_law_well f_law_take f_law_number f_law_paces f_law_marks f_law_near f_law_told f_law_nothing f_law_call f_law_look f_law_same f_law_long f_law_fits f_law f_DueError_init : Addr)
  (d_check_speeds d_check_changes d_Calendar_init d_Calendar_speeds d_Calendar_changes d_Calendar_eq d_work_of_weeks d_end_of_weeks d_begin_of_weeks d_check_span d_check_amount d_work d_due d_latest d_left_of d_Ticket_init d_Ticket_moment d_Ticket_left d_Ticket_is_paused d_Ticket_left_at d_Ticket_done_at d_Ticket_can_wait d_Ticket_note d_Ticket_pause d_Ticket_resume d_Ticket_switch d_Ticket_enlarge d_Ticket_undo d_Ticket_story d_Ticket_len d_law_well d_law_take d_law_number d_law_paces d_law_marks d_law_near d_law_told d_law_nothing d_law_call d_law_look d_law_same d_law_long d_law_fits d_law d_DueError_init : FuncData)
  (c_Calendar c_Ticket c_NothingToUndo c_DueError c_WrongState c_TooMany c_InvalidMoment c_InvalidAmount p_Calendar_speeds p_Calendar_changes p_Ticket_moment p_Ticket_left p_Ticket_is_paused : Addr)
structure Txt (K : PySem.W.Frag) (mg : Str → Option Value) (a : Ads) : Prop where
  f_check_speeds : Fun K "check_speeds" "check_speeds" s_check_speeds a.f_check_speeds a.d_check_speeds
  b_check_speeds : Binds K a.d_check_speeds ["speeds"] []
  g_check_speeds : mg "check_speeds" = some (.ref a.f_check_speeds)
  f_check_changes : Fun K "check_changes" "check_changes" s_check_changes a.f_check_changes a.d_check_changes
  b_check_changes : Binds K a.d_check_changes ["changes"] []
  g_check_changes : mg "check_changes" = some (.ref a.f_check_changes)
  f_Calendar_init : Fun K "__init__" "Calendar.__init__" s_Calendar_init a.f_Calendar_init a.d_Calendar_init
  b_Calendar_init : Binds K a.d_Calendar_init ["self", "speeds", "changes"] []
  mk_Calendar : Mk K a.c_Calendar a.f_Calendar_init
  f_Calendar_speeds : Fun K "speeds" "Calendar.speeds" s_Calendar_speeds a.f_Calendar_speeds a.d_Calendar_speeds
  b_Calendar_speeds : Binds K a.d_Calendar_speeds ["self"] []
  pp_Calendar_speeds : PropOf K a.c_Calendar "speeds" a.p_Calendar_speeds a.f_Calendar_speeds
  f_Calendar_changes : Fun K "changes" "Calendar.changes" s_Calendar_changes a.f_Calendar_changes a.d_Calendar_changes
  b_Calendar_changes : Binds K a.d_Calendar_changes ["self"] []
  pp_Calendar_changes : PropOf K a.c_Calendar "changes" a.p_Calendar_changes a.f_Calendar_changes
  f_Calendar_eq : Fun K "__eq__" "Calendar.__eq__" s_Calendar_eq a.f_Calendar_eq a.d_Calendar_eq
  b_Calendar_eq : Binds K a.d_Calendar_eq ["self", "other"] []
  mh_Calendar_eq : Meth K a.c_Calendar "__eq__" a.f_Calendar_eq
  f_work_of_weeks : Fun K "work_of_weeks" "work_of_weeks" s_work_of_weeks a.f_work_of_weeks a.d_work_of_weeks
  b_work_of_weeks : Binds K a.d_work_of_weeks ["speeds", "begin", "end"] []
  g_work_of_weeks : mg "work_of_weeks" = some (.ref a.f_work_of_weeks)
  f_end_of_weeks : Fun K "end_of_weeks" "end_of_weeks" s_end_of_weeks a.f_end_of_weeks a.d_end_of_weeks
  b_end_of_weeks : Binds K a.d_end_of_weeks ["speeds", "begin", "amount"] []
  g_end_of_weeks : mg "end_of_weeks" = some (.ref a.f_end_of_weeks)
  f_begin_of_weeks : Fun K "begin_of_weeks" "begin_of_weeks" s_begin_of_weeks a.f_begin_of_weeks a.d_begin_of_weeks
  b_begin_of_weeks : Binds K a.d_begin_of_weeks ["speeds", "end", "amount"] []
  g_begin_of_weeks : mg "begin_of_weeks" = some (.ref a.f_begin_of_weeks)
  f_check_span : Fun K "check_span" "check_span" s_check_span a.f_check_span a.d_check_span
  b_check_span : Binds K a.d_check_span ["begin", "end"] []
  g_check_span : mg "check_span" = some (.ref a.f_check_span)
  f_check_amount : Fun K "check_amount" "check_amount" s_check_amount a.f_check_amount a.d_check_amount
  b_check_amount : Binds K a.d_check_amount ["amount"] []
  g_check_amount : mg "check_amount" = some (.ref a.f_check_amount)
  f_work : Fun K "work" "work" s_work a.f_work a.d_work
  b_work : Binds K a.d_work ["calendar", "begin", "end"] []
  g_work : mg "work" = some (.ref a.f_work)
  f_due : Fun K "due" "due" s_due a.f_due a.d_due
  b_due : Binds K a.d_due ["calendar", "moment", "amount"] []
  g_due : mg "due" = some (.ref a.f_due)
  f_latest : Fun K "latest" "latest" s_latest a.f_latest a.d_latest
  b_latest : Binds K a.d_latest ["calendar", "moment", "amount"] []
  g_latest : mg "latest" = some (.ref a.f_latest)
  f_left_of : Fun K "left_of" "left_of" s_left_of a.f_left_of a.d_left_of
  b_left_of : Binds K a.d_left_of ["state", "moment"] []
  g_left_of : mg "left_of" = some (.ref a.f_left_of)
  f_Ticket_init : Fun K "__init__" "Ticket.__init__" s_Ticket_init a.f_Ticket_init a.d_Ticket_init
  b_Ticket_init : Binds K a.d_Ticket_init ["self", "calendar", "amount", "moment"] []
  mk_Ticket : Mk K a.c_Ticket a.f_Ticket_init
  f_Ticket_moment : Fun K "moment" "Ticket.moment" s_Ticket_moment a.f_Ticket_moment a.d_Ticket_moment
  b_Ticket_moment : Binds K a.d_Ticket_moment ["self"] []
  pp_Ticket_moment : PropOf K a.c_Ticket "moment" a.p_Ticket_moment a.f_Ticket_moment
  f_Ticket_left : Fun K "left" "Ticket.left" s_Ticket_left a.f_Ticket_left a.d_Ticket_left
  b_Ticket_left : Binds K a.d_Ticket_left ["self"] []
  pp_Ticket_left : PropOf K a.c_Ticket "left" a.p_Ticket_left a.f_Ticket_left
  f_Ticket_is_paused : Fun K "is_paused" "Ticket.is_paused" s_Ticket_is_paused a.f_Ticket_is_paused a.d_Ticket_is_paused
  b_Ticket_is_paused : Binds K a.d_Ticket_is_paused ["self"] []
  pp_Ticket_is_paused : PropOf K a.c_Ticket "is_paused" a.p_Ticket_is_paused a.f_Ticket_is_paused
  f_Ticket_left_at : Fun K "left_at" "Ticket.left_at" s_Ticket_left_at a.f_Ticket_left_at a.d_Ticket_left_at
  b_Ticket_left_at : Binds K a.d_Ticket_left_at ["self", "moment"] []
  mh_Ticket_left_at : Meth K a.c_Ticket "left_at" a.f_Ticket_left_at
  f_Ticket_done_at : Fun K "done_at" "Ticket.done_at" s_Ticket_done_at a.f_Ticket_done_at a.d_Ticket_done_at
  b_Ticket_done_at : Binds K a.d_Ticket_done_at ["self"] []
  mh_Ticket_done_at : Meth K a.c_Ticket "done_at" a.f_Ticket_done_at
  f_Ticket_can_wait : Fun K "can_wait" "Ticket.can_wait" s_Ticket_can_wait a.f_Ticket_can_wait a.d_Ticket_can_wait
  b_Ticket_can_wait : Binds K a.d_Ticket_can_wait ["self", "limit"] []
  mh_Ticket_can_wait : Meth K a.c_Ticket "can_wait" a.f_Ticket_can_wait
  f_Ticket_note : Fun K "note" "Ticket.note" s_Ticket_note a.f_Ticket_note a.d_Ticket_note
  b_Ticket_note : Binds K a.d_Ticket_note ["self", "call", "state"] []
  mh_Ticket_note : Meth K a.c_Ticket "note" a.f_Ticket_note
  f_Ticket_pause : Fun K "pause" "Ticket.pause" s_Ticket_pause a.f_Ticket_pause a.d_Ticket_pause
  b_Ticket_pause : Binds K a.d_Ticket_pause ["self", "moment"] []
  mh_Ticket_pause : Meth K a.c_Ticket "pause" a.f_Ticket_pause
  f_Ticket_resume : Fun K "resume" "Ticket.resume" s_Ticket_resume a.f_Ticket_resume a.d_Ticket_resume
  b_Ticket_resume : Binds K a.d_Ticket_resume ["self", "moment"] []
  mh_Ticket_resume : Meth K a.c_Ticket "resume" a.f_Ticket_resume
  f_Ticket_switch : Fun K "switch" "Ticket.switch" s_Ticket_switch a.f_Ticket_switch a.d_Ticket_switch
  b_Ticket_switch : Binds K a.d_Ticket_switch ["self", "calendar", "moment"] []
  mh_Ticket_switch : Meth K a.c_Ticket "switch" a.f_Ticket_switch
  f_Ticket_enlarge : Fun K "enlarge" "Ticket.enlarge" s_Ticket_enlarge a.f_Ticket_enlarge a.d_Ticket_enlarge
  b_Ticket_enlarge : Binds K a.d_Ticket_enlarge ["self", "amount", "moment"] []
  mh_Ticket_enlarge : Meth K a.c_Ticket "enlarge" a.f_Ticket_enlarge
  f_Ticket_undo : Fun K "undo" "Ticket.undo" s_Ticket_undo a.f_Ticket_undo a.d_Ticket_undo
  b_Ticket_undo : Binds K a.d_Ticket_undo ["self"] []
  mh_Ticket_undo : Meth K a.c_Ticket "undo" a.f_Ticket_undo
  f_Ticket_story : Fun K "story" "Ticket.story" s_Ticket_story a.f_Ticket_story a.d_Ticket_story
  b_Ticket_story : Binds K a.d_Ticket_story ["self"] []
  mh_Ticket_story : Meth K a.c_Ticket "story" a.f_Ticket_story
  f_Ticket_len : Fun K "__len__" "Ticket.__len__" s_Ticket_len a.f_Ticket_len a.d_Ticket_len
  b_Ticket_len : Binds K a.d_Ticket_len ["self"] []
  mh_Ticket_len : Meth K a.c_Ticket "__len__" a.f_Ticket_len
  f_law_well : Fun K "_law_well" "_law_well" s_law_well a.f_law_well a.d_law_well
  b_law_well : Binds K a.d_law_well ["script", "place"] []
  g_law_well : mg "_law_well" = some (.ref a.f_law_well)
  f_law_take : Fun K "_law_take" "_law_take" s_law_take a.f_law_take a.d_law_take
  b_law_take : Binds K a.d_law_take ["well", "many"] []
  g_law_take : mg "_law_take" = some (.ref a.f_law_take)
  f_law_number : Fun K "_law_number" "_law_number" s_law_number a.f_law_number a.d_law_number
  b_law_number : Binds K a.d_law_number ["well"] []
  g_law_number : mg "_law_number" = some (.ref a.f_law_number)
  f_law_paces : Fun K "_law_paces" "_law_paces" s_law_paces a.f_law_paces a.d_law_paces
  b_law_paces : Binds K a.d_law_paces ["well", "size"] []
  g_law_paces : mg "_law_paces" = some (.ref a.f_law_paces)
  f_law_marks : Fun K "_law_marks" "_law_marks" s_law_marks a.f_law_marks a.d_law_marks
  b_law_marks : Binds K a.d_law_marks ["well", "size", "cap"] []
  g_law_marks : mg "_law_marks" = some (.ref a.f_law_marks)
  f_law_near : Fun K "_law_near" "_law_near" s_law_near a.f_law_near a.d_law_near
  b_law_near : Binds K a.d_law_near ["well", "marks", "back"] []
  g_law_near : mg "_law_near" = some (.ref a.f_law_near)
  f_law_told : Fun K "_law_told" "_law_told" s_law_told a.f_law_told a.d_law_told
  b_law_told : Binds K a.d_law_told ["ticket"] []
  g_law_told : mg "_law_told" = some (.ref a.f_law_told)
  f_law_nothing : Fun K "_law_nothing" "_law_nothing" s_law_nothing a.f_law_nothing a.d_law_nothing
  b_law_nothing : Binds K a.d_law_nothing ["ticket"] []
  g_law_nothing : mg "_law_nothing" = some (.ref a.f_law_nothing)
  f_law_call : Fun K "_law_call" "_law_call" s_law_call a.f_law_call a.d_law_call
  b_law_call : Binds K a.d_law_call ["well", "ticket", "spot", "lists"] []
  g_law_call : mg "_law_call" = some (.ref a.f_law_call)
  f_law_look : Fun K "_law_look" "_law_look" s_law_look a.f_law_look a.d_law_look
  b_law_look : Binds K a.d_law_look ["ticket", "bound"] []
  g_law_look : mg "_law_look" = some (.ref a.f_law_look)
  f_law_same : Fun K "_law_same" "_law_same" s_law_same a.f_law_same a.d_law_same
  b_law_same : Binds K a.d_law_same ["story", "want"] []
  g_law_same : mg "_law_same" = some (.ref a.f_law_same)
  f_law_long : Fun K "_law_long" "_law_long" s_law_long a.f_law_long a.d_law_long
  b_law_long : Binds K a.d_law_long ["made", "at", "load", "many"] []
  g_law_long : mg "_law_long" = some (.ref a.f_law_long)
  f_law_fits : Fun K "_law_fits" "_law_fits" s_law_fits a.f_law_fits a.d_law_fits
  b_law_fits : Binds K a.d_law_fits ["well"] []
  g_law_fits : mg "_law_fits" = some (.ref a.f_law_fits)
  f_law : Fun K "law" "law" s_law a.f_law a.d_law
  b_law : Binds K a.d_law ["script"] []
  g_law : mg "law" = some (.ref a.f_law)
  f_DueError_init : Fun K "__init__" "DueError.__init__" s_DueError_init a.f_DueError_init a.d_DueError_init
  b_DueError_init : Binds K a.d_DueError_init ["self", "value"] []
  tI : PySem.W.typeIn K (.ref a.f_DueError_init) = some (.type "function")
  c_Calendar : mg "Calendar" = some (.ref a.c_Calendar)
  c_Ticket : mg "Ticket" = some (.ref a.c_Ticket)
  c_NothingToUndo : mg "NothingToUndo" = some (.ref a.c_NothingToUndo)
  c_DueError : mg "DueError" = some (.ref a.c_DueError)
  c_WrongState : mg "WrongState" = some (.ref a.c_WrongState)
  c_TooMany : mg "TooMany" = some (.ref a.c_TooMany)
  c_InvalidMoment : mg "InvalidMoment" = some (.ref a.c_InvalidMoment)
  c_InvalidAmount : mg "InvalidAmount" = some (.ref a.c_InvalidAmount)
  cl_Calendar : Cls K a.c_Calendar
  cl_Ticket : Cls K a.c_Ticket
  x_NothingToUndo : ExT K a.f_DueError_init a.c_NothingToUndo
  xg_NothingToUndo : ExcG K a.c_NothingToUndo
  na_real_changes : NoAttr K a.c_Calendar "real_changes"
  na_week_speeds : NoAttr K a.c_Calendar "week_speeds"
  na_states : NoAttr K a.c_Ticket "states"
  na_calls : NoAttr K a.c_Ticket "calls"
  na_most : NoAttr K a.c_Ticket "most"
  na_asked : NoAttr K a.c_Ticket "asked"
  z_max : mg "max" = none
  z_enumerate : mg "enumerate" = none
  z_len : mg "len" = none
  z_tuple : mg "tuple" = none
  z_list : mg "list" = none
  z_isinstance : mg "isinstance" = none
  z_sum : mg "sum" = none
  z_int : mg "int" = none
  z_abs : mg "abs" = none
  z_range : mg "range" = none
  z_repr : mg "repr" = none
  z_zip : mg "zip" = none
  z_min : mg "min" = none
  g_FASTEST : ∃ u, mg "FASTEST" = some u ∧ L2.RelV (.int 3) u
  g_LONGEST_WEEK : ∃ u, mg "LONGEST_WEEK" = some u ∧ L2.RelV (.int 12) u
  ty1 : PySem.W.findIn K (.ref a.c_Calendar) "__class__" = some (some (.builtin "object.__class__"))
  ty2 : PySem.W.specialIn K (.builtin "object.__class__") "__get__" = some (some (.builtin "getset_descriptor.__get__"))
  ty3 : PySem.W.takesIn K (.builtin "object.__class__") = some true
  ty4 : PySem.W.mroIn K a.c_Calendar (.type "object") = some true
  ki_NothingToUndo_NothingToUndo : PySem.W.kitOne K (.ref a.c_NothingToUndo) (.ref a.c_NothingToUndo) = some true
  ki_NothingToUndo_InvalidAmount : PySem.W.kitOne K (.ref a.c_NothingToUndo) (.ref a.c_InvalidAmount) = some false
  ki_NothingToUndo_InvalidMoment : PySem.W.kitOne K (.ref a.c_NothingToUndo) (.ref a.c_InvalidMoment) = some false
  ki_NothingToUndo_TooMany : PySem.W.kitOne K (.ref a.c_NothingToUndo) (.ref a.c_TooMany) = some false
  ki_NothingToUndo_WrongState : PySem.W.kitOne K (.ref a.c_NothingToUndo) (.ref a.c_WrongState) = some false
  ki_NothingToUndo_DueError : PySem.W.kitOne K (.ref a.c_NothingToUndo) (.ref a.c_DueError) = some true
  ex_NothingToUndo_DueError : PySem.W.exmOne K (.ref a.c_NothingToUndo) (.ref a.c_DueError) = some true
  bl_law : ∀ (s : Shared) (u : Value), BindsTo s a.d_law ⟨[u], []⟩ [("script", u)]
section
variable {K : PySem.W.Frag} {mg : Str → Option Value} {a : Ads}
theorem Txt.h_real_changes (T : Txt K mg a) : ∀ C, (· = a.c_Calendar) C → Cls K C ∧ NoAttr K C "real_changes" := fun C h => by
  subst h
  exact ⟨T.cl_Calendar, T.na_real_changes⟩
theorem Txt.h_week_speeds (T : Txt K mg a) : ∀ C, (· = a.c_Calendar) C → Cls K C ∧ NoAttr K C "week_speeds" := fun C h => by
  subst h
  exact ⟨T.cl_Calendar, T.na_week_speeds⟩
theorem Txt.h_states (T : Txt K mg a) : ∀ C, (· = a.c_Ticket) C → Cls K C ∧ NoAttr K C "states" := fun C h => by
  subst h
  exact ⟨T.cl_Ticket, T.na_states⟩
theorem Txt.h_calls (T : Txt K mg a) : ∀ C, (· = a.c_Ticket) C → Cls K C ∧ NoAttr K C "calls" := fun C h => by
  subst h
  exact ⟨T.cl_Ticket, T.na_calls⟩
theorem Txt.h_most (T : Txt K mg a) : ∀ C, (· = a.c_Ticket) C → Cls K C ∧ NoAttr K C "most" := fun C h => by
  subst h
  exact ⟨T.cl_Ticket, T.na_most⟩
theorem Txt.h_asked (T : Txt K mg a) : ∀ C, (· = a.c_Ticket) C → Cls K C ∧ NoAttr K C "asked" := fun C h => by
  subst h
  exact ⟨T.cl_Ticket, T.na_asked⟩
theorem Txt.tyc (T : Txt K mg a) : ∀ C, (· = a.c_Calendar) C → TyC K C := fun C h => by
  subst h
  exact ⟨T.cl_Calendar, T.ty1, T.ty2, T.ty3, T.ty4⟩
end
end T64

namespace T64
open PySem PySem.Spec PyProof.Rows L2 TL
def iD (ns : List Int) : List D := ns.map D.int
def prD (p : Int × Int) : D := .tup [.int p.1, .int p.2]
def chD (ch : List (Int × Int)) : List D := ch.map prD
abbrev calN : List Str := ["week_speeds", "real_changes"]
def calD (a : Ads) (c : Cal) : D := .ins a.c_Calendar calN [.tup (iD c.sp), .tup (chD c.ch)]
def F_check_speeds (K : PySem.W.Frag) (a : Ads) : TL.Spec := fun ds μ Q E => ∃ sp, ds = [.lst (iD sp)] ∧ SpOk sp ∧ Q .non μ
def F_check_changes (K : PySem.W.Frag) (a : Ads) : TL.Spec := fun ds μ Q E => ∃ ch, ds = [.lst (chD ch)] ∧ ChOk ch ∧ Q .non μ
def F_Calendar_init (K : PySem.W.Frag) (a : Ads) : TL.Spec := fun ds μ Q E => ∃ p sp ch, ds = [.raw (.ref p), .lst (iD sp), .lst (chD ch)] ∧ SpOk sp ∧ ChOk ch ∧ ch.length ≤ 1000 ∧ μ p = some (.ins a.c_Calendar [] []) ∧
  Q .non (sset μ p (.ins a.c_Calendar calN [.tup (iD sp), .tup (chD (realV sp ch))]))
def F_Calendar_speeds (K : PySem.W.Frag) (a : Ads) : TL.Spec := fun ds μ Q E => ∃ c, ds = [calD a c] ∧ Q (.lst (iD c.sp)) μ
def F_Calendar_changes (K : PySem.W.Frag) (a : Ads) : TL.Spec := fun ds μ Q E => ∃ c, ds = [calD a c] ∧ Q (.lst (chD c.ch)) μ
def F_Calendar_eq (K : PySem.W.Frag) (a : Ads) : TL.Spec := fun ds μ Q E => ∃ c, ds = [calD a c, calD a c] ∧ Q (.bl true) μ
def F_work_of_weeks (K : PySem.W.Frag) (a : Ads) : TL.Spec := fun ds μ Q E => ∃ sp b e, ds = [.lst (iD sp), .int b, .int e] ∧ SpOk sp ∧ Q (.int (wowV sp b e)) μ
def F_end_of_weeks (K : PySem.W.Frag) (a : Ads) : TL.Spec := fun ds μ Q E => ∃ sp b m, ds = [.lst (iD sp), .int b, .int m] ∧ SpOk sp ∧ 0 ≤ m ∧ Q (.int (eowV sp b m)) μ
def F_begin_of_weeks (K : PySem.W.Frag) (a : Ads) : TL.Spec := fun ds μ Q E => ∃ sp b m, ds = [.lst (iD sp), .int b, .int m] ∧ SpOk sp ∧ 0 ≤ m ∧ Q (.int (bowV sp b m)) μ
def F_check_span (K : PySem.W.Frag) (a : Ads) : TL.Spec := fun ds μ Q E => ∃ b e : Int, ds = [.int b, .int e] ∧ b ≤ e ∧ Q .non μ
def F_check_amount (K : PySem.W.Frag) (a : Ads) : TL.Spec := fun ds μ Q E => ∃ m : Int, ds = [.int m] ∧ 0 ≤ m ∧ Q .non μ
def F_work (K : PySem.W.Frag) (a : Ads) : TL.Spec := fun ds μ Q E => ∃ c b e, ds = [calD a c, .int b, .int e] ∧ CalOk c ∧ b ≤ e ∧ Q (.int (workV c b e)) μ
def F_due (K : PySem.W.Frag) (a : Ads) : TL.Spec := fun ds μ Q E => ∃ c m am, ds = [calD a c, .int m, .int am] ∧ CalOk c ∧ 0 ≤ am ∧ Q (.int (dueV c.sp c.ch m am)) μ
def F_latest (K : PySem.W.Frag) (a : Ads) : TL.Spec := fun ds μ Q E => ∃ c m am, ds = [calD a c, .int m, .int am] ∧ CalOk c ∧ 0 ≤ am ∧ Q (.int (latV c.sp c.ch.reverse m am)) μ
structure TS where
  c : Cal
  l : Int
  m : Int
  p : Bool
def stD (a : Ads) (s : TS) : D := .tup [calD a s.c, .int s.l, .int s.m, .bl s.p]
abbrev tkN : List Str := ["asked", "most", "calls", "states"]
structure Tk (a : Ads) (μ : Sto) (t pc ps : Addr) (ask most : D) (cs : List D) (ss : List TS) : Prop where
  t : μ t = some (.ins a.c_Ticket tkN [ask, most, .raw (.ref pc), .raw (.ref ps)])
  c : μ pc = some (.lst cs)
  s : μ ps = some (.lst (ss.map (stD a)))
  ne : pc ≠ ps
def Same2 (μ μ' : Sto) (p q : Addr) : Prop := ∀ b, b ≠ p → b ≠ q → μ' b = μ b
def leftV (s : TS) (m : Int) : Int := if s.p = true then s.l else max 0 (s.l - workV s.c s.m m)
def doneV (s : TS) : D := if s.p = true then .non else .int (dueV s.c.sp s.c.ch s.m s.l)
def waitV (s : TS) (lim : Int) : D := if lim < s.m then .non else if latV s.c.sp s.c.ch.reverse lim s.l < s.m then .non else .int (latV s.c.sp s.c.ch.reverse lim s.l)
def F_left_of (K : PySem.W.Frag) (a : Ads) : TL.Spec := fun ds μ Q E => ∃ s m, ds = [stD a s, .int m] ∧ CalOk s.c ∧ s.m ≤ m ∧ Q (.int (leftV s m)) μ
def F_Ticket_init (K : PySem.W.Frag) (a : Ads) : TL.Spec := fun ds μ Q E => ∃ t c am m, ds = [.raw (.ref t), calD a c, .int am, .int m] ∧ 0 ≤ am ∧ μ t = some (.ins a.c_Ticket [] []) ∧
  ∀ μ' pc ps, Tk a μ' t pc ps (.tup [calD a c, .int am, .int m]) .non [] [⟨c, am, m, false⟩] → (∀ b, b ≠ t → b ≠ pc → b ≠ ps → μ' b = μ b) → μ pc = none → μ ps = none → Q .non μ'
def OnTk (a : Ads) (μ : Sto) (d : D) (f : Addr → Addr → Addr → D → D → List D → List TS → TS → Prop) : Prop := ∃ t pc ps ask most cs ss s, d = .raw (.ref t) ∧ Tk a μ t pc ps ask most cs (ss ++ [s]) ∧ f t pc ps ask most cs ss s
def F_Ticket_moment (K : PySem.W.Frag) (a : Ads) : TL.Spec := fun ds μ Q E => ∃ d, ds = [d] ∧ OnTk a μ d fun _ _ _ _ _ _ _ s => Q (.int s.m) μ
def F_Ticket_left (K : PySem.W.Frag) (a : Ads) : TL.Spec := fun ds μ Q E => ∃ d, ds = [d] ∧ OnTk a μ d fun _ _ _ _ _ _ _ s => Q (.int s.l) μ
def F_Ticket_is_paused (K : PySem.W.Frag) (a : Ads) : TL.Spec := fun ds μ Q E => ∃ d, ds = [d] ∧ OnTk a μ d fun _ _ _ _ _ _ _ s => Q (.bl s.p) μ
def F_Ticket_left_at (K : PySem.W.Frag) (a : Ads) : TL.Spec := fun ds μ Q E => ∃ d m, ds = [d, .int m] ∧ OnTk a μ d fun _ _ _ _ _ _ _ s => CalOk s.c ∧ s.m ≤ m ∧ Q (.int (leftV s m)) μ
def F_Ticket_done_at (K : PySem.W.Frag) (a : Ads) : TL.Spec := fun ds μ Q E => ∃ d, ds = [d] ∧ OnTk a μ d fun _ _ _ _ _ _ _ s => CalOk s.c ∧ 0 ≤ s.l ∧ Q (doneV s) μ
def F_Ticket_can_wait (K : PySem.W.Frag) (a : Ads) : TL.Spec := fun ds μ Q E => ∃ d lim, ds = [d, .int lim] ∧ OnTk a μ d fun _ _ _ _ _ _ _ s => CalOk s.c ∧ 0 ≤ s.l ∧ Q (waitV s lim) μ
def noted (a : Ads) (μ : Sto) (t pc ps : Addr) (ask most : D) (cs : List D) (ss : List TS) (d : D) (s : TS) (Q : QD) : Prop := cs.length ≤ 1000 ∧ ss.length ≤ 1000 ∧ ∀ μ', Tk a μ' t pc ps ask most (cs ++ [d]) (ss ++ [s]) → Same2 μ μ' pc ps → Q .non μ'
def F_Ticket_note (K : PySem.W.Frag) (a : Ads) : TL.Spec := fun ds μ Q E => ∃ t pc ps ask most cs ss d s, ds = [.raw (.ref t), d, stD a s] ∧ Tk a μ t pc ps ask most cs ss ∧ noted a μ t pc ps ask most cs ss d s Q
def pauseD (m : Int) : D := .tup [.str "pause", .int m]
def resumeD (m : Int) : D := .tup [.str "resume", .int m]
def switchD (a : Ads) (c : Cal) (m : Int) : D := .tup [.str "switch", calD a c, .int m]
def enlargeD (am m : Int) : D := .tup [.str "enlarge", .int am, .int m]
def F_Ticket_pause (K : PySem.W.Frag) (a : Ads) : TL.Spec := fun ds μ Q E => ∃ d m, ds = [d, .int m] ∧ OnTk a μ d fun t pc ps ask most cs ss s => CalOk s.c ∧ s.m ≤ m ∧ leftV s m ≠ 0 ∧ s.p = false ∧ noted a μ t pc ps ask most cs (ss ++ [s]) (pauseD m) ⟨s.c, leftV s m, m, true⟩ Q
def F_Ticket_resume (K : PySem.W.Frag) (a : Ads) : TL.Spec := fun ds μ Q E => ∃ d m, ds = [d, .int m] ∧ OnTk a μ d fun t pc ps ask most cs ss s => CalOk s.c ∧ s.m ≤ m ∧ s.p = true ∧ noted a μ t pc ps ask most cs (ss ++ [s]) (resumeD m) ⟨s.c, leftV s m, m, false⟩ Q
def F_Ticket_switch (K : PySem.W.Frag) (a : Ads) : TL.Spec := fun ds μ Q E => ∃ d c m, ds = [d, calD a c, .int m] ∧ OnTk a μ d fun t pc ps ask most cs ss s => CalOk s.c ∧ s.m ≤ m ∧ leftV s m ≠ 0 ∧ noted a μ t pc ps ask most cs (ss ++ [s]) (switchD a c m) ⟨c, leftV s m, m, s.p⟩ Q
def F_Ticket_enlarge (K : PySem.W.Frag) (a : Ads) : TL.Spec := fun ds μ Q E => ∃ d am m, ds = [d, .int am, .int m] ∧ OnTk a μ d fun t pc ps ask most cs ss s => CalOk s.c ∧ s.m ≤ m ∧ 0 ≤ am ∧ leftV s m ≠ 0 ∧ noted a μ t pc ps ask most cs (ss ++ [s]) (enlargeD am m) ⟨s.c, leftV s m + am, m, s.p⟩ Q
def F_Ticket_undo (K : PySem.W.Frag) (a : Ads) : TL.Spec := fun ds μ Q E => ∃ t pc ps ask most cs ss, ds = [.raw (.ref t)] ∧ Tk a μ t pc ps ask most cs ss ∧
  ((cs = [] ∧ E a.c_NothingToUndo (.int 0) μ) ∨ ∃ cs0 d ss0 s, cs = cs0 ++ [d] ∧ ss = ss0 ++ [s] ∧ ∀ μ', Tk a μ' t pc ps ask most cs0 ss0 → Same2 μ μ' pc ps → Q .non μ')
def F_Ticket_story (K : PySem.W.Frag) (a : Ads) : TL.Spec := fun ds μ Q E => ∃ t pc ps ask most cs ss, ds = [.raw (.ref t)] ∧ Tk a μ t pc ps ask most cs ss ∧ ∀ p, μ p = none → Q (.raw (.ref p)) (sset μ p (.lst cs))
def F_Ticket_len (K : PySem.W.Frag) (a : Ads) : TL.Spec := fun ds μ Q E => ∃ t pc ps ask most cs ss, ds = [.raw (.ref t)] ∧ Tk a μ t pc ps ask most cs ss ∧ Q (.int cs.length) μ
def Wl (w : List D) (n : Nat) : Prop := ∃ c s k : Int, w = [.int c, .int s, .int k] ∧ 0 ≤ c ∧ 0 ≤ s ∧ s < 2 ^ 62 ∧ 0 ≤ k ∧ k ≤ n
def OnWl (μ : Sto) (d : D) (m : Nat) (f : (Sto → Prop) → Prop) : Prop := ∃ p n w, d = .raw (.ref p) ∧ n + m ≤ 100000 ∧ μ p = some (.lst w) ∧ Wl w n ∧ f (fun μ' => ∃ w', Wl w' (n + m) ∧ μ' = sset μ p (.lst w'))
def F_law_well (K : PySem.W.Frag) (a : Ads) : TL.Spec := fun ds μ Q E => ∃ (ns : List Int) (i : Nat), ds = [.scr (ns.map D.int), .int i] ∧ i ≤ 100 ∧ ∀ p w, μ p = none → Wl w 0 → Q (.raw (.ref p)) (sset μ p (.lst w))
def F_law_take (K : PySem.W.Frag) (a : Ads) : TL.Spec := fun ds μ Q E => ∃ d many, ds = [d, .int many] ∧ 0 < many ∧ many ≤ 10000000000000000000000000000000000000000 ∧ OnWl μ d 1 fun N => ∀ r μ', 0 ≤ r → r < many → N μ' → Q (.int r) μ'
def F_law_number (K : PySem.W.Frag) (a : Ads) : TL.Spec := fun ds μ Q E => ∃ d, ds = [d] ∧ OnWl μ d 4 fun N => ∀ (v : Int) μ', -10 ^ 30 ≤ v → v ≤ 10 ^ 30 → N μ' → Q (.int v) μ'
def F_law_paces (K : PySem.W.Frag) (a : Ads) : TL.Spec := fun ds μ Q E => ∃ (d : D) (n : Nat), ds = [d, .int n] ∧ 1 ≤ n ∧ n ≤ 12 ∧ OnWl μ d 16 fun N => ∀ sp μ', SpOk sp → sp.length = n → N μ' → Q (.lst (iD sp)) μ'
structure ChB (ch : List (Int × Int)) (n : Nat) : Prop where
  ok : ChOk ch
  l : ch.length ≤ n
  b : ∀ p, p ∈ ch → -10 ^ 32 ≤ p.1 ∧ p.1 ≤ 10 ^ 32
def F_law_marks (K : PySem.W.Frag) (a : Ads) : TL.Spec := fun ds μ Q E => ∃ (d : D) (sz cap : Nat), ds = [d, .int sz, .int cap] ∧ 1 ≤ sz ∧ sz ≤ 12 ∧ cap ≤ 20 ∧ OnWl μ d (5 + 3 * cap) fun N => ∀ ch μ', ChB ch cap → N μ' → Q (.lst (chD ch)) μ'
def F_law_near (K : PySem.W.Frag) (a : Ads) : TL.Spec := fun ds μ Q E => ∃ (d : D) (ch : List (Int × Int)) (b : Int), ds = [d, .lst (chD ch), .int b] ∧ ChB ch 100 ∧ 0 < b ∧ b ≤ 1000 ∧ OnWl μ d 7 fun N => ∀ (v : Int) μ', -10 ^ 33 ≤ v → v ≤ 10 ^ 33 → N μ' → Q (.int v) μ'
def toldD (s : TS) : D := .lst [.int s.m, .int s.l, .bl s.p]
def F_law_told (K : PySem.W.Frag) (a : Ads) : TL.Spec := fun ds μ Q E => ∃ d, ds = [d] ∧ OnTk a μ d fun _ _ _ _ _ _ _ s => Q (toldD s) μ
structure StB (s : TS) : Prop where
  c : CalOk s.c
  b : ∀ p, p ∈ s.c.ch → -10000000000000000000000000000000000000000 ≤ p.1 ∧ p.1 ≤ 10000000000000000000000000000000000000000
  m : -10000000000000000000000000000000000000000 ≤ s.m ∧ s.m ≤ 10000000000000000000000000000000000000000
  l : 0 ≤ s.l ∧ s.l ≤ 10000000000000000000000000000000000000000
def lookD (s : TS) (n : Nat) (lim : Int) : D := .lst [.int s.m, .int s.l, .bl s.p, .int n, doneV s, waitV s lim]
def F_law_look (K : PySem.W.Frag) (a : Ads) : TL.Spec := fun ds μ Q E => ∃ d lim, ds = [d, .int lim] ∧ OnTk a μ d fun _ _ _ _ _ cs _ s => StB s ∧ -10000000000000000000000000000000000000000 ≤ lim ∧ lim ≤ 10000000000000000000000000000000000000000 ∧ cs.length ≤ 1000 ∧ Q (.str (pyD (lookD s cs.length lim)).shown) μ
def F_law_nothing (K : PySem.W.Frag) (a : Ads) : TL.Spec := fun ds μ Q E => ∃ t pc ps ask most ss, ds = [.raw (.ref t)] ∧ Tk a μ t pc ps ask most [] ss ∧ Q (.bl true) μ
def IsCall (a : Ads) (d : D) : Prop := ∃ m : Int, (-10000000000000000000000000000000000000000 ≤ m ∧ m ≤ 10000000000000000000000000000000000000000) ∧ (d = pauseD m ∨ d = resumeD m ∨ (∃ am, d = enlargeD am m) ∨ ∃ c, d = switchD a c m)
def F_law_same (K : PySem.W.Frag) (a : Ads) : TL.Spec := fun ds μ Q E => ∃ d1 d2 xs, ds = [d1, d2] ∧ viewM μ d1 = some xs ∧ viewM μ d2 = some xs ∧ (∀ x, x ∈ xs → IsCall a x) ∧ Q (.bl true) μ
def calsD (c : Cal) : D := .lst [.lst (iD c.sp), .lst (chD c.ch)]
structure CalB (c : Cal) : Prop where
  ok : CalOk c
  b : ∀ p, p ∈ c.ch → -10000000000000000000000000000000000000000 ≤ p.1 ∧ p.1 ≤ 10000000000000000000000000000000000000000
  l : c.ch.length ≤ 100
def realC (c : Cal) : Cal := ⟨c.sp, realV c.sp c.ch⟩
def F_law_call (K : PySem.W.Frag) (a : Ads) : TL.Spec := fun ds μ Q E => ∃ d pw n w m c0 c1 t pc ps ask most cs ss s, ds = [.raw (.ref pw), d, .int m, .lst [calsD c0, calsD c1]] ∧ d = .raw (.ref t) ∧ Tk a μ t pc ps ask most cs (ss ++ [s]) ∧
  μ pw = some (.lst w) ∧ Wl w n ∧ n + 2 ≤ 100000 ∧ pw ≠ pc ∧ pw ≠ ps ∧ CalB c0 ∧ CalB c1 ∧ CalOk s.c ∧ s.m ≤ m ∧ (-10000000000000000000000000000000000000000 ≤ m ∧ m ≤ 10000000000000000000000000000000000000000) ∧ 0 < leftV s m ∧ cs.length ≤ 900 ∧ ss.length ≤ 900 ∧
  ∀ d' s' w' μ', IsCall a d' → s'.m = m → (s'.c = s.c ∨ s'.c = realC c0 ∨ s'.c = realC c1) → leftV s m ≤ s'.l → s'.l ≤ leftV s m + 9 → Tk a μ' t pc ps ask most (cs ++ [d']) (ss ++ [s] ++ [s']) → μ' pw = some (.lst w') → Wl w' (n + 2) →
    (∀ b, b ≠ pw → b ≠ pc → b ≠ ps → μ' b = μ b) → Q d' μ'
def F_law_long (K : PySem.W.Frag) (a : Ads) : TL.Spec := fun ds μ Q E => ∃ (c : Cal) (at_ load : Int) (many : Nat), ds = [calD a c, .int at_, .int load, .int many] ∧ CalB c ∧ 1 ≤ many ∧ many ≤ 40 ∧ 5000 ≤ load ∧ load ≤ 10 ^ 20 ∧ -10 ^ 35 ≤ at_ ∧ at_ ≤ 10 ^ 35 ∧ Q (.bl true) μ
def F_law_fits (K : PySem.W.Frag) (a : Ads) : TL.Spec := fun ds μ Q E => ∃ p w, ds = [.raw (.ref p)] ∧ μ p = some (.lst w) ∧ Wl w 0 ∧ ∀ μ', Q (.bl true) μ'
def F_script : TL.Spec := fun ds μ Q E => ∃ ns : List Int, ds = [.scr (ns.map D.int)] ∧ ns.length ≤ 63 ∧ ∀ μ, Q (.bl true) μ
def F_law (K : PySem.W.Frag) (a : Ads) : TL.Spec := F_script
end T64

namespace T64
open PySem PySem.Spec PyProof.Rows L2 TL
def m_check_speeds (K : PySem.W.Frag) (a : Ads) : MS := (mSeq (mIfS (mNot (mB (mChain (fun i j => decide (i ≤ j)) (fun i j => decide (i ≤ j)) (mC (.int 1)) (mCB rLen (mCons (mName 0) mNil)) (mC (.int 12)))))
  mNever
  mNext)
  (mSeq (mFor (mIE (mName 0)) (gT 2 (gConsD (gN 1) (gConsD (gN 2) gNilD)))
  (mIfS (mNot (mB (mChain (fun i j => decide (i ≤ j)) (fun i j => decide (i ≤ j)) (mC (.int 0)) (mName 2) (mC (.int 3)))))
  mNever
  mNext))
  (mIfS (mB (mBin rEqD (mCB rMaxD (mCons (mName 0) mNil)) (mC (.int 0))))
  mNever
  mNext)))
def m_check_changes (K : PySem.W.Frag) (a : Ads) : MS := (mFor (mIE (mName 0)) (gT 2 (gConsD (gN 1) (gConsD (gT 2 (gConsD (gN 2) (gConsD (gN 3) gNilD))) gNilD)))
  (mSeq (mIfS (mNot (mB (mChain (fun i j => decide (i ≤ j)) (fun i j => decide (i ≤ j)) (mC (.int 0)) (mName 3) (mC (.int 3)))))
  mNever
  mNext)
  (mIfS (mAnd (mB (mBin rGt (mName 1) (mC (.int 0)))) (mB (mBin rLe (mName 2) (mBin rIxD (mBin rIxD (mName 0) (mBin rSub (mName 1) (mC (.int 1)))) (mC (.int 0))))))
  mNever
  mNext)))
def m_Calendar_init (K : PySem.W.Frag) (a : Ads) : MS := (mSeq (mExpr (mCall 1 (F_check_speeds K a) (mCons (mName 1) mNil)))
  (mSeq (mExpr (mCall 1 (F_check_changes K a) (mCons (mName 2) mNil)))
  (mSeq (mSFld (· = a.c_Calendar) "week_speeds" (mCB rTuple (mCons (mName 1) mNil)) (mName 0))
  (mSFld (· = a.c_Calendar) "real_changes" (mCB rTuple (mCons (mLc false (mIL (mName 2)) (gT 2 (gConsD (gN 3) (gConsD (gN 4) gNilD))) (mB (mBin rNeD (mBin rIxD (mName 1) (mBin rMod (mName 3) (mCB rLen (mCons (mName 1) mNil)))) (mName 4))) (mTup (mCons (mName 3) (mCons (mName 4) mNil))) [3, 4]) mNil)) (mName 0)))))
def m_Calendar_speeds (K : PySem.W.Frag) (a : Ads) : MS := (mRet (mCB (rList false) (mCons (mFld (· = a.c_Calendar) "week_speeds" (mName 0)) mNil)))
def m_Calendar_changes (K : PySem.W.Frag) (a : Ads) : MS := (mRet (mCB (rList false) (mCons (mFld (· = a.c_Calendar) "real_changes" (mName 0)) mNil)))
def m_Calendar_eq (K : PySem.W.Frag) (a : Ads) : MS := (mSeq (mIfS (mNot (mB (mCB (rIsiC K (· = a.c_Calendar)) (mCons (mName 1) (mCons (mC (.raw (.ref a.c_Calendar))) mNil)))))
  (mRet (mC (.bl false)))
  mNext)
  (mRet (mAndV (mBin rEqDat (mFld (· = a.c_Calendar) "week_speeds" (mName 0)) (mFld (· = a.c_Calendar) "week_speeds" (mName 1))) (mBin rEqDat (mFld (· = a.c_Calendar) "real_changes" (mName 0)) (mFld (· = a.c_Calendar) "real_changes" (mName 1))))))
def m_work_of_weeks (K : PySem.W.Frag) (a : Ads) : MS := (mSeq (mAsg (mCB rLen (mCons (mName 0) mNil)) (gN 3))
  (mSeq (mAsg (mBin rMul (mBin rSub (mBin rFdiv (mName 2) (mName 3)) (mBin rFdiv (mName 1) (mName 3))) (mCB rSumD (mCons (mName 0) mNil))) (gN 4))
  (mRet (mBin rSub (mBin rAdd (mName 4) (mCB rSumD (mCons (mSl false (mName 0) oNone (oSome (mBin rMod (mName 2) (mName 3)))) mNil))) (mCB rSumD (mCons (mSl false (mName 0) oNone (oSome (mBin rMod (mName 1) (mName 3)))) mNil))))))
def m_end_of_weeks (K : PySem.W.Frag) (a : Ads) : MS := (mSeq (mIfS (mB (mBin rEqD (mName 2) (mC (.int 0))))
  (mRet (mName 1))
  mNext)
  (mSeq (mAsg (mBin rFdiv (mBin rSub (mName 2) (mC (.int 1))) (mCB rSumD (mCons (mName 0) mNil))) (gN 3))
  (mSeq (mAsg (mBin rSub (mName 2) (mBin rMul (mName 3) (mCB rSumD (mCons (mName 0) mNil)))) (gN 4))
  (mSeq (mAsg (mBin rAdd (mName 1) (mBin rMul (mName 3) (mCB rLen (mCons (mName 0) mNil)))) (gN 5))
  (mSeq (mWhile (mB (mBin rGt (mName 4) (mC (.int 0))))
  (mSeq (mAug 4 (fun i j => i - j) (mBin rIxD (mName 0) (mBin rMod (mName 5) (mCB rLen (mCons (mName 0) mNil)))))
  (mAug 5 (fun i j => i + j) (mC (.int 1)))))
  (mRet (mName 5)))))))
def m_begin_of_weeks (K : PySem.W.Frag) (a : Ads) : MS := (mSeq (mIfS (mB (mBin rEqD (mName 2) (mC (.int 0))))
  (mRet (mName 1))
  mNext)
  (mSeq (mAsg (mBin rFdiv (mBin rSub (mName 2) (mC (.int 1))) (mCB rSumD (mCons (mName 0) mNil))) (gN 3))
  (mSeq (mAsg (mBin rSub (mName 2) (mBin rMul (mName 3) (mCB rSumD (mCons (mName 0) mNil)))) (gN 4))
  (mSeq (mAsg (mBin rSub (mName 1) (mBin rMul (mName 3) (mCB rLen (mCons (mName 0) mNil)))) (gN 5))
  (mSeq (mWhile (mB (mBin rGt (mName 4) (mC (.int 0))))
  (mSeq (mAug 5 (fun i j => i - j) (mC (.int 1)))
  (mAug 4 (fun i j => i - j) (mBin rIxD (mName 0) (mBin rMod (mName 5) (mCB rLen (mCons (mName 0) mNil)))))))
  (mRet (mName 5)))))))
def m_check_span (K : PySem.W.Frag) (a : Ads) : MS := (mIfS (mB (mBin rLt (mName 1) (mName 0)))
  mNever
  mNext)
def m_check_amount (K : PySem.W.Frag) (a : Ads) : MS := (mIfS (mB (mBin rLt (mName 0) (mC (.int 0))))
  mNever
  mNext)
def m_work (K : PySem.W.Frag) (a : Ads) : MS := (mSeq (mExpr (mCall 2 (F_check_span K a) (mCons (mName 1) (mCons (mName 2) mNil))))
  (mSeq (mAsg (mProp (· = a.c_Calendar) 1 (fun _ => F_Calendar_speeds K a) (mName 0)) (gN 3))
  (mSeq (mAsg (mCall 3 (F_work_of_weeks K a) (mCons (mName 3) (mCons (mName 1) (mCons (mName 2) mNil)))) (gN 4))
  (mSeq (mFor (mIL (mProp (· = a.c_Calendar) 1 (fun _ => F_Calendar_changes K a) (mName 0))) (gT 2 (gConsD (gN 5) (gConsD (gN 6) gNilD)))
  (mIfS (mB (mChain (fun i j => decide (i ≤ j)) (fun i j => decide (i < j)) (mName 1) (mName 5) (mName 2)))
  (mAug 4 (fun i j => i + j) (mBin rSub (mName 6) (mBin rIxD (mName 3) (mBin rMod (mName 5) (mCB rLen (mCons (mName 3) mNil))))))
  mNext))
  (mRet (mName 4))))))
def m_due (K : PySem.W.Frag) (a : Ads) : MS := (mSeq (mExpr (mCall 1 (F_check_amount K a) (mCons (mName 2) mNil)))
  (mSeq (mPar3 3 4 5 (mCons (mProp (· = a.c_Calendar) 1 (fun _ => F_Calendar_speeds K a) (mName 0)) (mCons (mName 1) (mCons (mName 2) mNil))))
  (mSeq (mFor (mIL (mProp (· = a.c_Calendar) 1 (fun _ => F_Calendar_changes K a) (mName 0))) (gT 2 (gConsD (gN 6) (gConsD (gN 7) gNilD)))
  (mSeq (mIfS (mOr (mB (mBin rLt (mName 6) (mName 4))) (mB (mBin rEqD (mName 5) (mC (.int 0)))))
  mCont
  mNext)
  (mSeq (mAsg (mCall 3 (F_work_of_weeks K a) (mCons (mName 3) (mCons (mName 4) (mCons (mName 6) mNil)))) (gN 8))
  (mSeq (mIfS (mB (mBin rGe (mName 8) (mName 5)))
  mBreak
  mNext)
  (mSeq (mIfS (mB (mBin rGe (mBin rAdd (mName 8) (mName 7)) (mName 5)))
  (mRet (mBin rAdd (mName 6) (mC (.int 1))))
  mNext)
  (mPar 4 5 (mCons (mBin rAdd (mName 6) (mC (.int 1))) (mCons (mBin rSub (mBin rSub (mName 5) (mName 8)) (mName 7)) mNil))))))))
  (mRet (mCall 3 (F_end_of_weeks K a) (mCons (mName 3) (mCons (mName 4) (mCons (mName 5) mNil))))))))
def m_latest (K : PySem.W.Frag) (a : Ads) : MS := (mSeq (mExpr (mCall 1 (F_check_amount K a) (mCons (mName 2) mNil)))
  (mSeq (mPar3 3 4 5 (mCons (mProp (· = a.c_Calendar) 1 (fun _ => F_Calendar_speeds K a) (mName 0)) (mCons (mName 1) (mCons (mName 2) mNil))))
  (mSeq (mFor (mIL (mRev false (mProp (· = a.c_Calendar) 1 (fun _ => F_Calendar_changes K a) (mName 0)))) (gT 2 (gConsD (gN 6) (gConsD (gN 7) gNilD)))
  (mSeq (mIfS (mOr (mB (mBin rGe (mName 6) (mName 4))) (mB (mBin rEqD (mName 5) (mC (.int 0)))))
  mCont
  mNext)
  (mSeq (mAsg (mCall 3 (F_work_of_weeks K a) (mCons (mName 3) (mCons (mBin rAdd (mName 6) (mC (.int 1))) (mCons (mName 4) mNil)))) (gN 8))
  (mSeq (mIfS (mB (mBin rGe (mName 8) (mName 5)))
  mBreak
  mNext)
  (mSeq (mIfS (mB (mBin rGe (mBin rAdd (mName 8) (mName 7)) (mName 5)))
  (mRet (mName 6))
  mNext)
  (mPar 4 5 (mCons (mName 6) (mCons (mBin rSub (mBin rSub (mName 5) (mName 8)) (mName 7)) mNil))))))))
  (mRet (mCall 3 (F_begin_of_weeks K a) (mCons (mName 3) (mCons (mName 4) (mCons (mName 5) mNil))))))))
def m_left_of (K : PySem.W.Frag) (a : Ads) : MS := (mSeq (mAsg (mName 0) (gT 4 (gConsD (gN 2) (gConsD (gN 3) (gConsD (gN 4) (gConsD (gN 5) gNilD))))))
  (mSeq (mIfS (mB (mName 5))
  (mRet (mName 3))
  mNext)
  (mRet (mCB (rI2 max) (mCons (mC (.int 0)) (mCons (mBin rSub (mName 3) (mCall 3 (F_work K a) (mCons (mName 2) (mCons (mName 4) (mCons (mName 1) mNil))))) mNil))))))
def m_Ticket_init (K : PySem.W.Frag) (a : Ads) : MS := (mSeq (mIfS (mB (mBin rLt (mName 2) (mC (.int 0))))
  mNever
  mNext)
  (mSeq (mSFld (· = a.c_Ticket) "asked" (mTup (mCons (mName 1) (mCons (mName 2) (mCons (mName 3) mNil)))) (mName 0))
  (mSeq (mSFld (· = a.c_Ticket) "most" (mC .non) (mName 0))
  (mSeq (mSFld (· = a.c_Ticket) "calls" (mLst true mNil) (mName 0))
  (mSFld (· = a.c_Ticket) "states" (mLst true (mCons (mTup (mCons (mName 1) (mCons (mName 2) (mCons (mName 3) (mCons (mC (.bl false)) mNil))))) mNil)) (mName 0))))))
def m_Ticket_moment (K : PySem.W.Frag) (a : Ads) : MS := (mRet (mBin rIxD (mBin rIxD (mFld (· = a.c_Ticket) "states" (mName 0)) (mNeg (mC (.int 1)))) (mC (.int 2))))
def m_Ticket_left (K : PySem.W.Frag) (a : Ads) : MS := (mRet (mBin rIxD (mBin rIxD (mFld (· = a.c_Ticket) "states" (mName 0)) (mNeg (mC (.int 1)))) (mC (.int 1))))
def m_Ticket_is_paused (K : PySem.W.Frag) (a : Ads) : MS := (mRet (mBin rIxD (mBin rIxD (mFld (· = a.c_Ticket) "states" (mName 0)) (mNeg (mC (.int 1)))) (mC (.int 3))))
def m_Ticket_left_at (K : PySem.W.Frag) (a : Ads) : MS := (mSeq (mIfS (mB (mBin rLt (mName 1) (mBin rIxD (mBin rIxD (mFld (· = a.c_Ticket) "states" (mName 0)) (mNeg (mC (.int 1)))) (mC (.int 2)))))
  mNever
  mNext)
  (mRet (mCall 2 (F_left_of K a) (mCons (mBin rIxD (mFld (· = a.c_Ticket) "states" (mName 0)) (mNeg (mC (.int 1)))) (mCons (mName 1) mNil)))))
def m_Ticket_done_at (K : PySem.W.Frag) (a : Ads) : MS := (mSeq (mAsg (mBin rIxD (mFld (· = a.c_Ticket) "states" (mName 0)) (mNeg (mC (.int 1)))) (gT 4 (gConsD (gN 1) (gConsD (gN 2) (gConsD (gN 3) (gConsD (gN 4) gNilD))))))
  (mSeq (mIfS (mB (mName 4))
  (mRet (mC .non))
  mNext)
  (mRet (mCall 3 (F_due K a) (mCons (mName 1) (mCons (mName 3) (mCons (mName 2) mNil)))))))
def m_Ticket_can_wait (K : PySem.W.Frag) (a : Ads) : MS := (mSeq (mAsg (mBin rIxD (mFld (· = a.c_Ticket) "states" (mName 0)) (mNeg (mC (.int 1)))) (gT 4 (gConsD (gN 2) (gConsD (gN 3) (gConsD (gN 4) (gConsD (gN 5) gNilD))))))
  (mSeq (mIfS (mB (mBin rLt (mName 1) (mName 4)))
  (mRet (mC .non))
  mNext)
  (mSeq (mAsg (mCall 3 (F_latest K a) (mCons (mName 2) (mCons (mName 1) (mCons (mName 3) mNil)))) (gN 6))
  (mSeq (mIfS (mB (mBin rLt (mName 6) (mName 4)))
  (mRet (mC .non))
  mNext)
  (mRet (mName 6))))))
def m_Ticket_note (K : PySem.W.Frag) (a : Ads) : MS := (mSeq (mExpr (mAppend (mFld (· = a.c_Ticket) "calls" (mName 0)) (mName 1)))
  (mExpr (mAppend (mFld (· = a.c_Ticket) "states" (mName 0)) (mName 2))))
def m_Ticket_pause (K : PySem.W.Frag) (a : Ads) : MS := (mSeq (mAsg (mMeth (· = a.c_Ticket) "left_at" 2 (fun _ => F_Ticket_left_at K a) (mName 0) (mCons (mName 1) mNil)) (gN 2))
  (mSeq (mIfS (mOr (mB (mBin rEqD (mName 2) (mC (.int 0)))) (mB (mBin rIxD (mBin rIxD (mFld (· = a.c_Ticket) "states" (mName 0)) (mNeg (mC (.int 1)))) (mC (.int 3)))))
  mNever
  mNext)
  (mExpr (mMeth (· = a.c_Ticket) "note" 3 (fun _ => F_Ticket_note K a) (mName 0) (mCons (mTup (mCons (mC (.str "pause")) (mCons (mName 1) mNil))) (mCons (mTup (mCons (mBin rIxD (mBin rIxD (mFld (· = a.c_Ticket) "states" (mName 0)) (mNeg (mC (.int 1)))) (mC (.int 0))) (mCons (mName 2) (mCons (mName 1) (mCons (mC (.bl true)) mNil))))) mNil))))))
def m_Ticket_resume (K : PySem.W.Frag) (a : Ads) : MS := (mSeq (mAsg (mMeth (· = a.c_Ticket) "left_at" 2 (fun _ => F_Ticket_left_at K a) (mName 0) (mCons (mName 1) mNil)) (gN 2))
  (mSeq (mIfS (mNot (mB (mBin rIxD (mBin rIxD (mFld (· = a.c_Ticket) "states" (mName 0)) (mNeg (mC (.int 1)))) (mC (.int 3)))))
  mNever
  mNext)
  (mExpr (mMeth (· = a.c_Ticket) "note" 3 (fun _ => F_Ticket_note K a) (mName 0) (mCons (mTup (mCons (mC (.str "resume")) (mCons (mName 1) mNil))) (mCons (mTup (mCons (mBin rIxD (mBin rIxD (mFld (· = a.c_Ticket) "states" (mName 0)) (mNeg (mC (.int 1)))) (mC (.int 0))) (mCons (mName 2) (mCons (mName 1) (mCons (mC (.bl false)) mNil))))) mNil))))))
def m_Ticket_switch (K : PySem.W.Frag) (a : Ads) : MS := (mSeq (mAsg (mMeth (· = a.c_Ticket) "left_at" 2 (fun _ => F_Ticket_left_at K a) (mName 0) (mCons (mName 2) mNil)) (gN 3))
  (mSeq (mIfS (mB (mBin rEqD (mName 3) (mC (.int 0))))
  mNever
  mNext)
  (mExpr (mMeth (· = a.c_Ticket) "note" 3 (fun _ => F_Ticket_note K a) (mName 0) (mCons (mTup (mCons (mC (.str "switch")) (mCons (mName 1) (mCons (mName 2) mNil)))) (mCons (mTup (mCons (mName 1) (mCons (mName 3) (mCons (mName 2) (mCons (mBin rIxD (mBin rIxD (mFld (· = a.c_Ticket) "states" (mName 0)) (mNeg (mC (.int 1)))) (mC (.int 3))) mNil))))) mNil))))))
def m_Ticket_enlarge (K : PySem.W.Frag) (a : Ads) : MS := (mSeq (mAsg (mMeth (· = a.c_Ticket) "left_at" 2 (fun _ => F_Ticket_left_at K a) (mName 0) (mCons (mName 2) mNil)) (gN 3))
  (mSeq (mIfS (mB (mBin rLt (mName 1) (mC (.int 0))))
  mNever
  mNext)
  (mSeq (mIfS (mB (mBin rEqD (mName 3) (mC (.int 0))))
  mNever
  mNext)
  (mSeq (mAsg (mBin rIxD (mFld (· = a.c_Ticket) "states" (mName 0)) (mNeg (mC (.int 1)))) (gT 4 (gConsD (gN 4) (gConsD (gN 5) (gConsD (gN 6) (gConsD (gN 7) gNilD))))))
  (mExpr (mMeth (· = a.c_Ticket) "note" 3 (fun _ => F_Ticket_note K a) (mName 0) (mCons (mTup (mCons (mC (.str "enlarge")) (mCons (mName 1) (mCons (mName 2) mNil)))) (mCons (mTup (mCons (mName 4) (mCons (mBin rAdd (mName 3) (mName 1)) (mCons (mName 2) (mCons (mName 7) mNil))))) mNil))))))))
def m_Ticket_undo (K : PySem.W.Frag) (a : Ads) : MS := (mSeq (mIfS (mB (mBin rEqN (mFld (· = a.c_Ticket) "calls" (mName 0)) (mLst false mNil)))
  (mRaise a.c_NothingToUndo (mC (.int 0)))
  mNext)
  (mSeq (mExpr (mPop (mFld (· = a.c_Ticket) "calls" (mName 0))))
  (mExpr (mPop (mFld (· = a.c_Ticket) "states" (mName 0))))))
def m_Ticket_story (K : PySem.W.Frag) (a : Ads) : MS := (mRet (mCB (rList true) (mCons (mFld (· = a.c_Ticket) "calls" (mName 0)) mNil)))
def m_Ticket_len (K : PySem.W.Frag) (a : Ads) : MS := (mRet (mCB rLen (mCons (mFld (· = a.c_Ticket) "calls" (mName 0)) mNil)))
def m_law_well (K : PySem.W.Frag) (a : Ads) : MS := (mSeq (mAsg (mC (.int 0)) (gN 2))
  (mSeq (mIfS (mB (mBin rLt (mName 1) (mCB rLen (mCons (mName 0) mNil))))
  (mAsg (mBin rIxD (mName 0) (mName 1)) (gN 2))
  mNext)
  (mSeq (mAsg (mBin rMod (mCB rIntD (mCons (mBin rAdd (mBin rMul (mCB (rI1 iabs) (mCons (mName 2) mNil)) (mC (.int 2))) (mCB rIntD (mCons (mBin rLt (mName 2) (mC (.int 0))) mNil))) mNil)) (mC (.int 2305843009213693951))) (gN 3))
  (mRet (mLst true (mCons (mBin rMul (mName 2) (mCB rIntD (mCons (mBin rGe (mName 2) (mBin rPow (mC (.int 10)) (mC (.int 18)))) mNil))) (mCons (mBin rAdd (mName 3) (mBin rMul (mC (.int 1000003)) (mName 1))) (mCons (mC (.int 0)) mNil))))))))
def m_law_take (K : PySem.W.Frag) (a : Ads) : MS := (mSeq (mIfS (mB (mBin rGt (mBin rIxD (mName 0) (mC (.int 0))) (mC (.int 0))))
  (mSeq (mAsg (mBin rMod (mCB rIntD (mCons (mBin rIxD (mName 0) (mC (.int 0))) mNil)) (mName 1)) (gN 2))
  (mSeq (mSub (mBin rFdiv (mBin rIxD (mName 0) (mC (.int 0))) (mName 1)) (mName 0) (mC (.int 0)))
  (mRet (mName 2))))
  mNext)
  (mSeq (mSub (mBin rAdd (mBin rIxD (mName 0) (mC (.int 2))) (mC (.int 1))) (mName 0) (mC (.int 2)))
  (mSeq (mAsg (mBin rAdd (mBin rPow (mBin rAdd (mBin rIxD (mName 0) (mC (.int 1))) (mBin rMul (mC (.int 6700417)) (mBin rIxD (mName 0) (mC (.int 2))))) (mC (.int 3))) (mBin rMul (mC (.int 97)) (mBin rIxD (mName 0) (mC (.int 2))))) (gN 3))
  (mSeq (mAsg (mBin rAdd (mBin rMod (mCB rIntD (mCons (mName 3) mNil)) (mC (.int 2305843009213693951))) (mBin rMul (mC (.int 2971215073)) (mBin rIxD (mName 0) (mC (.int 2))))) (gN 3))
  (mSeq (mAsg (mBin rMod (mCB rIntD (mCons (mBin rPow (mName 3) (mC (.int 3))) mNil)) (mC (.int 618970019642690137449562111))) (gN 3))
  (mRet (mBin rMod (mCB rIntD (mCons (mBin rFdiv (mName 3) (mC (.int 131072))) mNil)) (mName 1))))))))
def m_law_number (K : PySem.W.Frag) (a : Ads) : MS := (mSeq (mAsg (mCall 2 (F_law_take K a) (mCons (mName 0) (mCons (mC (.int 4)) mNil))) (gN 1))
  (mSeq (mAsg (mCall 2 (F_law_take K a) (mCons (mName 0) (mCons (mBin rIxD (mLst false (mCons (mC (.int 13)) (mCons (mC (.int 60)) (mCons (mC (.int 1000)) (mCons (mBin rPow (mC (.int 10)) (mC (.int 15))) mNil))))) (mName 1)) mNil))) (gN 2))
  (mSeq (mIfS (mB (mBin rEqD (mName 1) (mC (.int 3))))
  (mAsg (mBin rAdd (mBin rMul (mName 2) (mBin rPow (mC (.int 10)) (mC (.int 15)))) (mCall 2 (F_law_take K a) (mCons (mName 0) (mCons (mBin rPow (mC (.int 10)) (mC (.int 15))) mNil)))) (gN 2))
  mNext)
  (mRet (mBin rMul (mName 2) (mBin rSub (mC (.int 1)) (mBin rMul (mC (.int 2)) (mCall 2 (F_law_take K a) (mCons (mName 0) (mCons (mC (.int 2)) mNil))))))))))
def m_law_paces_4 (K : PySem.W.Frag) (a : Ads) : MS := (mSeq (mIfS (mB (mBin rEqD (mCB rMaxD (mCons (mName 3) mNil)) (mC (.int 0))))
  (mSeq (mAsg (mCall 2 (F_law_take K a) (mCons (mName 0) (mCons (mName 1) mNil))) (gN 4))
  (mSub (mBin rAdd (mC (.int 1)) (mCall 2 (F_law_take K a) (mCons (mName 0) (mCons (mC (.int 3)) mNil)))) (mName 3) (mName 4)))
  mNext)
  (mRet (mFz (mName 3))))
def m_law_paces (K : PySem.W.Frag) (a : Ads) : MS := (mSeq (mAsg (mCall 2 (F_law_take K a) (mCons (mName 0) (mCons (mC (.int 4)) mNil))) (gN 2))
  (mSeq (mAsg (mBin (rRepL true) (mLst false (mCons (mC (.int 0)) mNil)) (mName 1)) (gN 3))
  (mSeq (mIfS (mB (mBin rLt (mName 2) (mC (.int 2))))
  (mAsg (mLc true (mIR1 (mName 1)) (gN 5) mYes (mCall 2 (F_law_take K a) (mCons (mName 0) (mCons (mBin rSub (mC (.int 4)) (mBin rMul (mC (.int 2)) (mName 2))) mNil))) [5]) (gN 3))
  mNext)
  (mSeq (mIfS (mB (mBin rEqD (mName 2) (mC (.int 3))))
  (mAsg (mBin (rRepL true) (mLst false (mCons (mBin rAdd (mC (.int 1)) (mCall 2 (F_law_take K a) (mCons (mName 0) (mCons (mC (.int 3)) mNil)))) mNil)) (mName 1)) (gN 3))
  mNext)
  (m_law_paces_4 K a)))))
def m_law_marks (K : PySem.W.Frag) (a : Ads) : MS := (mSeq (mAsg (mLst true mNil) (gN 3))
  (mSeq (mAsg (mCall 2 (F_law_take K a) (mCons (mName 0) (mCons (mBin rAdd (mName 2) (mC (.int 1))) mNil))) (gN 4))
  (mSeq (mAsg (mCall 1 (F_law_number K a) (mCons (mName 0) mNil)) (gN 5))
  (mSeq (mFor (mIR1 (mName 4)) (gN 6)
  (mSeq (mExpr (mAppend (mName 3) (mTup (mCons (mName 5) (mCons (mCall 2 (F_law_take K a) (mCons (mName 0) (mCons (mC (.int 4)) mNil))) mNil)))))
  (mAsg (mBin rAdd (mBin rAdd (mName 5) (mC (.int 1))) (mCall 2 (F_law_take K a) (mCons (mName 0) (mCons (mBin rIxD (mLst false (mCons (mC (.int 1)) (mCons (mC (.int 4)) (mCons (mBin rMul (mC (.int 3)) (mName 1)) (mCons (mBin rPow (mC (.int 10)) (mC (.int 29))) mNil))))) (mCall 2 (F_law_take K a) (mCons (mName 0) (mCons (mC (.int 4)) mNil)))) mNil)))) (gN 5))))
  (mRet (mFz (mName 3)))))))
def m_law_near (K : PySem.W.Frag) (a : Ads) : MS := (mSeq (mAsg (mCall 2 (F_law_take K a) (mCons (mName 0) (mCons (mC (.int 3)) mNil))) (gN 3))
  (mSeq (mIfS (mOr (mB (mBin rEqN (mName 1) (mLst false mNil))) (mB (mBin rEqD (mName 3) (mC (.int 0)))))
  (mRet (mCall 1 (F_law_number K a) (mCons (mName 0) mNil)))
  mNext)
  (mRet (mBin rSub (mBin rAdd (mBin rIxD (mBin rIxD (mName 1) (mCall 2 (F_law_take K a) (mCons (mName 0) (mCons (mCB rLen (mCons (mName 1) mNil)) mNil)))) (mC (.int 0))) (mC (.int 3))) (mCall 2 (F_law_take K a) (mCons (mName 0) (mCons (mName 2) mNil)))))))
def m_law_told (K : PySem.W.Frag) (a : Ads) : MS := (mRet (mLst false (mCons (mProp (· = a.c_Ticket) 1 (fun _ => F_Ticket_moment K a) (mName 0)) (mCons (mProp (· = a.c_Ticket) 1 (fun _ => F_Ticket_left K a) (mName 0)) (mCons (mProp (· = a.c_Ticket) 1 (fun _ => F_Ticket_is_paused K a) (mName 0)) mNil)))))
def m_law_nothing (K : PySem.W.Frag) (a : Ads) : MS := (mSeq (mAsg (mC .non) (gN 1))
  (mSeq (mTry K (fun C => PySem.W.exmOne K (.ref C) (.ref a.c_DueError)) 2 (mExpr (mMeth (· = a.c_Ticket) "undo" 1 (fun _ => F_Ticket_undo K a) (mName 0) mNil))
  (fun ea eC ev => (mAsg (mLst false (mCons (mExIs ea (PySem.W.kitOne K (.ref eC) (.ref a.c_NothingToUndo)) (mName 2)) (mCons (mExIs ea (PySem.W.kitOne K (.ref eC) (.ref a.c_InvalidAmount)) (mName 2)) (mCons (mExIs ea (PySem.W.kitOne K (.ref eC) (.ref a.c_InvalidMoment)) (mName 2)) (mCons (mExIs ea (PySem.W.kitOne K (.ref eC) (.ref a.c_TooMany)) (mName 2)) (mCons (mExIs ea (PySem.W.kitOne K (.ref eC) (.ref a.c_WrongState)) (mName 2)) (mCons (mExVal ea ev (mName 2)) mNil))))))) (gN 1))))
  (mRet (mBin rEqD (mCB rRepr (mCons (mName 1) mNil)) (mCB rRepr (mCons (mLst false (mCons (mC (.bl true)) (mCons (mC (.bl false)) (mCons (mC (.bl false)) (mCons (mC (.bl false)) (mCons (mC (.bl false)) (mCons (mC (.int 0)) mNil))))))) mNil))))))
def m_law_call (K : PySem.W.Frag) (a : Ads) : MS := (mSeq (mAsg (mCall 2 (F_law_take K a) (mCons (mName 0) (mCons (mC (.int 3)) mNil))) (gN 4))
  (mSeq (mIfS (mB (mBin rEqD (mName 4) (mC (.int 0))))
  (mSeq (mIfS (mB (mProp (· = a.c_Ticket) 1 (fun _ => F_Ticket_is_paused K a) (mName 1)))
  (mSeq (mExpr (mMeth (· = a.c_Ticket) "resume" 2 (fun _ => F_Ticket_resume K a) (mName 1) (mCons (mName 2) mNil)))
  (mRet (mTup (mCons (mC (.str "resume")) (mCons (mName 2) mNil)))))
  mNext)
  (mSeq (mExpr (mMeth (· = a.c_Ticket) "pause" 2 (fun _ => F_Ticket_pause K a) (mName 1) (mCons (mName 2) mNil)))
  (mRet (mTup (mCons (mC (.str "pause")) (mCons (mName 2) mNil))))))
  mNext)
  (mSeq (mIfS (mB (mBin rEqD (mName 4) (mC (.int 1))))
  (mSeq (mAsg (mCall 2 (F_law_take K a) (mCons (mName 0) (mCons (mC (.int 9)) mNil))) (gN 5))
  (mSeq (mExpr (mMeth (· = a.c_Ticket) "enlarge" 3 (fun _ => F_Ticket_enlarge K a) (mName 1) (mCons (mName 5) (mCons (mName 2) mNil))))
  (mRet (mTup (mCons (mC (.str "enlarge")) (mCons (mName 5) (mCons (mName 2) mNil)))))))
  mNext)
  (mSeq (mAsg (mBin rIxD (mName 3) (mCall 2 (F_law_take K a) (mCons (mName 0) (mCons (mC (.int 2)) mNil)))) (gL 2 (gConsD (gN 6) (gConsD (gN 7) gNilD))))
  (mSeq (mExpr (mMeth (· = a.c_Ticket) "switch" 3 (fun _ => F_Ticket_switch K a) (mName 1) (mCons (mMake true a.c_Calendar 3 (F_Calendar_init K a) (mCons (mCB (rList false) (mCons (mName 6) mNil)) (mCons (mCB (rList false) (mCons (mName 7) mNil)) mNil))) (mCons (mName 2) mNil))))
  (mRet (mTup (mCons (mC (.str "switch")) (mCons (mMake true a.c_Calendar 3 (F_Calendar_init K a) (mCons (mCB (rList false) (mCons (mName 6) mNil)) (mCons (mCB (rList false) (mCons (mName 7) mNil)) mNil))) (mCons (mName 2) mNil))))))))))
def m_law_look (K : PySem.W.Frag) (a : Ads) : MS := (mRet (mCB rRepr (mCons (mBin (rAddL false) (mCall 1 (F_law_told K a) (mCons (mName 0) mNil)) (mLst false (mCons (mCB (rLenI (· = a.c_Ticket) 1 (fun _ => F_Ticket_len K a)) (mCons (mName 0) mNil)) (mCons (mMeth (· = a.c_Ticket) "done_at" 1 (fun _ => F_Ticket_done_at K a) (mName 0) mNil) (mCons (mMeth (· = a.c_Ticket) "can_wait" 2 (fun _ => F_Ticket_can_wait K a) (mName 0) (mCons (mName 1) mNil)) mNil))))) mNil)))
def m_law_same (K : PySem.W.Frag) (a : Ads) : MS := (mSeq (mIfS (mOr (mNot (mB (mCB (rIsiB K "list") (mCons (mName 0) (mCons (mC (.raw (.ty "list"))) mNil))))) (mB (mBin rNeD (mCB rLen (mCons (mName 0) mNil)) (mCB rLen (mCons (mName 1) mNil)))))
  (mRet (mC (.bl false)))
  mNext)
  (mSeq (mFor2 (mIZ2 (mCons (mName 0) (mCons (mName 1) mNil))) (gT 2 (gConsD (gN 2) (gConsD (gN 3) gNilD)))
  (mSeq (mIfS (mOr (mNot (mB (mCB (rIsiB K "tuple") (mCons (mName 2) (mCons (mC (.raw (.ty "tuple"))) mNil))))) (mOr (mB (mBin rNeD (mCB rLen (mCons (mName 2) mNil)) (mCB rLen (mCons (mName 3) mNil)))) (mB (mBin rNeD (mCB rRepr (mCons (mLst false (mCons (mBin rIxD (mName 2) (mC (.int 0))) (mCons (mBin rIxD (mName 2) (mNeg (mC (.int 1)))) mNil))) mNil)) (mCB rRepr (mCons (mLst false (mCons (mBin rIxD (mName 3) (mC (.int 0))) (mCons (mBin rIxD (mName 3) (mNeg (mC (.int 1)))) mNil))) mNil))))))
  (mRet (mC (.bl false)))
  mNext)
  (mIfS (mNot (mB (mBin (rEqSh a.c_Calendar (F_Calendar_eq K a) 3) (mName 2) (mName 3))))
  (mRet (mC (.bl false)))
  mNext)))
  (mRet (mC (.bl true)))))
def m_law_long_8 (K : PySem.W.Frag) (a : Ads) : MS := (mRet (mAndV (mBin rEqD (mCB rRepr (mCons (mCall 1 (F_law_told K a) (mCons (mName 4) mNil)) mNil)) (mCB rRepr (mCons (mBin rIxD (mName 5) (mC (.int 0))) mNil))) (mCall 1 (F_law_nothing K a) (mCons (mName 4) mNil))))
def m_law_long_7 (K : PySem.W.Frag) (a : Ads) : MS := (mSeq (mFor (mIR1 (mName 7)) (gN 6)
  (mExpr (mMeth (· = a.c_Ticket) "undo" 1 (fun _ => F_Ticket_undo K a) (mName 4) mNil)))
  (m_law_long_8 K a))
def m_law_long_5 (K : PySem.W.Frag) (a : Ads) : MS := (mSeq (mAsg (mLc false (mIR1 (mName 7)) (gN 6) mYes (mTup (mCons (mC (.str "enlarge")) (mCons (mName 6) (mCons (mBin rAdd (mName 1) (mName 6)) mNil)))) [6]) (gN 8))
  (mSeq (mIfS (mB (mBin rNeD (mCB rRepr (mCons (mFz (mMeth (· = a.c_Ticket) "story" 1 (fun _ => F_Ticket_story K a) (mName 4) mNil)) mNil)) (mCB rRepr (mCons (mName 8) mNil))))
  (mRet (mC (.bl false)))
  mNext)
  (m_law_long_7 K a)))
def m_law_long_4 (K : PySem.W.Frag) (a : Ads) : MS := (mSeq (mIfS (mOr (mB (mBin rNeD (mCB rRepr (mCons (mCall 1 (F_law_told K a) (mCons (mName 4) mNil)) mNil)) (mCB rRepr (mCons (mBin rIxD (mName 5) (mName 7)) mNil)))) (mB (mBin rNeD (mCB (rLenI (· = a.c_Ticket) 1 (fun _ => F_Ticket_len K a)) (mCons (mName 4) mNil)) (mName 7))))
  (mRet (mC (.bl false)))
  mNext)
  (m_law_long_5 K a))
def m_law_long_2 (K : PySem.W.Frag) (a : Ads) : MS := (mSeq (mAsg (mBin rFdiv (mName 3) (mC (.int 2))) (gN 7))
  (mSeq (mFor (mIR1 (mBin rSub (mName 3) (mName 7))) (gN 6)
  (mExpr (mMeth (· = a.c_Ticket) "undo" 1 (fun _ => F_Ticket_undo K a) (mName 4) mNil)))
  (m_law_long_4 K a)))
def m_law_long (K : PySem.W.Frag) (a : Ads) : MS := (mSeq (mPar 4 5 (mCons (mMake false a.c_Ticket 4 (F_Ticket_init K a) (mCons (mName 0) (mCons (mName 2) (mCons (mName 1) mNil)))) (mCons (mLst true mNil) mNil)))
  (mSeq (mFor (mIR1 (mName 3)) (gN 6)
  (mSeq (mExpr (mAppend (mName 5) (mCall 1 (F_law_told K a) (mCons (mName 4) mNil))))
  (mExpr (mMeth (· = a.c_Ticket) "enlarge" 3 (fun _ => F_Ticket_enlarge K a) (mName 4) (mCons (mName 6) (mCons (mBin rAdd (mName 1) (mName 6)) mNil))))))
  (m_law_long_2 K a)))
def m_law_fits_13 (K : PySem.W.Frag) (a : Ads) : MS := (mRet (mAndV (mCall 1 (F_law_nothing K a) (mCons (mName 7) mNil)) (mAndV (mCall 1 (F_law_nothing K a) (mCons (mName 7) mNil)) (mBin rEqD (mCall 2 (F_law_look K a) (mCons (mName 7) (mCons (mName 8) mNil))) (mBin rIxD (mName 10) (mC (.int 0)))))))
def m_law_fits_11 (K : PySem.W.Frag) (a : Ads) : MS := (mSeq (mIfS (mNot (mB (mCall 2 (F_law_same K a) (mCons (mMeth (· = a.c_Ticket) "story" 1 (fun _ => F_Ticket_story K a) (mName 7) mNil) (mCons (mBin (rAddL false) (mSl false (mName 9) oNone (oSome (mNeg (mC (.int 1))))) (mLst false (mCons (mTup (mCons (mC (.str "enlarge")) (mCons (mC (.int 1)) (mCons (mName 5) mNil)))) mNil))) mNil)))))
  (mRet (mC (.bl false)))
  mNext)
  (mSeq (mFor (mIR1 (mCB rLen (mCons (mName 9) mNil))) (gN 11)
  (mSeq (mIfS (mB (mBin rNotND (mMeth (· = a.c_Ticket) "undo" 1 (fun _ => F_Ticket_undo K a) (mName 7) mNil) (mC .non)))
  (mRet (mC (.bl false)))
  mNext)
  (mSeq (mAsg (mSl true (mName 9) oNone (oSome (mNeg (mC (.int 1))))) (gN 9))
  (mIfS (mOr (mB (mBin rNeD (mCall 2 (F_law_look K a) (mCons (mName 7) (mCons (mName 8) mNil))) (mBin rIxD (mName 10) (mCB rLen (mCons (mName 9) mNil))))) (mNot (mB (mCall 2 (F_law_same K a) (mCons (mMeth (· = a.c_Ticket) "story" 1 (fun _ => F_Ticket_story K a) (mName 7) mNil) (mCons (mName 9) mNil))))))
  (mRet (mC (.bl false)))
  mNext))))
  (m_law_fits_13 K a)))
def m_law_fits_9 (K : PySem.W.Frag) (a : Ads) : MS := (mSeq (mExpr (mMeth (· = a.c_Ticket) "undo" 1 (fun _ => F_Ticket_undo K a) (mName 7) mNil))
  (mSeq (mExpr (mMeth (· = a.c_Ticket) "enlarge" 3 (fun _ => F_Ticket_enlarge K a) (mName 7) (mCons (mC (.int 1)) (mCons (mName 5) mNil))))
  (m_law_fits_11 K a)))
def m_law_fits_7 (K : PySem.W.Frag) (a : Ads) : MS := (mSeq (mPar 9 10 (mCons (mLst true mNil) (mCons (mLst true (mCons (mCall 2 (F_law_look K a) (mCons (mName 7) (mCons (mName 8) mNil))) mNil)) mNil)))
  (mSeq (mFor (mIR1 (mBin rAdd (mC (.int 1)) (mCall 2 (F_law_take K a) (mCons (mName 0) (mCons (mC (.int 8)) mNil))))) (gN 11)
  (mSeq (mAsg (mBin rAdd (mName 5) (mCall 2 (F_law_take K a) (mCons (mName 0) (mCons (mC (.int 40)) mNil)))) (gN 5))
  (mSeq (mExpr (mAppend (mName 9) (mCall 4 (F_law_call K a) (mCons (mName 0) (mCons (mName 7) (mCons (mName 5) (mCons (mName 3) mNil)))))))
  (mSeq (mExpr (mAppend (mName 10) (mCall 2 (F_law_look K a) (mCons (mName 7) (mCons (mName 8) mNil)))))
  (mSeq (mAsg (mMeth (· = a.c_Ticket) "story" 1 (fun _ => F_Ticket_story K a) (mName 7) mNil) (gN 12))
  (mSeq (mIfS (mNot (mB (mCall 2 (F_law_same K a) (mCons (mName 12) (mCons (mName 9) mNil)))))
  (mRet (mC (.bl false)))
  mNext)
  (mExpr (mClear (mName 12)))))))))
  (m_law_fits_9 K a)))
def m_law_fits (K : PySem.W.Frag) (a : Ads) : MS := (mSeq (mPar 1 2 (mCons (mBin rAdd (mC (.int 1)) (mCall 2 (F_law_take K a) (mCons (mName 0) (mCons (mC (.int 12)) mNil)))) (mCons (mBin rAdd (mC (.int 1)) (mCall 2 (F_law_take K a) (mCons (mName 0) (mCons (mC (.int 12)) mNil)))) mNil)))
  (mSeq (mAsg (mLst false (mCons (mLst false (mCons (mCall 2 (F_law_paces K a) (mCons (mName 0) (mCons (mName 1) mNil))) (mCons (mCall 3 (F_law_marks K a) (mCons (mName 0) (mCons (mName 1) (mCons (mC (.int 3)) mNil)))) mNil))) (mCons (mLst false (mCons (mCall 2 (F_law_paces K a) (mCons (mName 0) (mCons (mName 2) mNil))) (mCons (mCall 3 (F_law_marks K a) (mCons (mName 0) (mCons (mName 2) (mCons (mC (.int 3)) mNil)))) mNil))) mNil))) (gN 3))
  (mSeq (mAsg (mCall 3 (F_law_near K a) (mCons (mName 0) (mCons (mBin rIxD (mBin rIxD (mName 3) (mC (.int 0))) (mC (.int 1))) (mCons (mC (.int 30)) mNil)))) (gN 4))
  (mSeq (mPar 5 6 (mCons (mName 4) (mCons (mBin rAdd (mC (.int 5000)) (mCall 2 (F_law_take K a) (mCons (mName 0) (mCons (mBin rPow (mC (.int 10)) (mC (.int 15))) mNil)))) mNil)))
  (mSeq (mAsg (mMake false a.c_Ticket 4 (F_Ticket_init K a) (mCons (mMake true a.c_Calendar 3 (F_Calendar_init K a) (mCons (mCB (rList false) (mCons (mBin rIxD (mBin rIxD (mName 3) (mC (.int 0))) (mC (.int 0))) mNil)) (mCons (mCB (rList false) (mCons (mBin rIxD (mBin rIxD (mName 3) (mC (.int 0))) (mC (.int 1))) mNil)) mNil))) (mCons (mName 6) (mCons (mName 4) mNil)))) (gN 7))
  (mSeq (mAsg (mBin rAdd (mBin rAdd (mName 4) (mName 6)) (mCall 2 (F_law_take K a) (mCons (mName 0) (mCons (mBin rPow (mC (.int 10)) (mC (.int 16))) mNil)))) (gN 8))
  (mSeq (mIfS (mB (mBin rEqD (mCall 2 (F_law_take K a) (mCons (mName 0) (mCons (mC (.int 4)) mNil))) (mC (.int 0))))
  (mRet (mCall 4 (F_law_long K a) (mCons (mMake true a.c_Calendar 3 (F_Calendar_init K a) (mCons (mCB (rList false) (mCons (mBin rIxD (mBin rIxD (mName 3) (mC (.int 0))) (mC (.int 0))) mNil)) (mCons (mCB (rList false) (mCons (mBin rIxD (mBin rIxD (mName 3) (mC (.int 0))) (mC (.int 1))) mNil)) mNil))) (mCons (mName 4) (mCons (mName 6) (mCons (mBin rAdd (mC (.int 1)) (mCall 2 (F_law_take K a) (mCons (mName 0) (mCons (mC (.int 40)) mNil)))) mNil))))))
  mNext)
  (m_law_fits_7 K a))))))))
def m_law (K : PySem.W.Frag) (a : Ads) : MS := (mSeq (mFor (mIR1 (mCB (rI2 max) (mCons (mC (.int 1)) (mCons (mCB (rI2 min) (mCons (mC (.int 63)) (mCons (mCB rLen (mCons (mName 0) mNil)) mNil))) mNil)))) (gN 1)
  (mSeq (mAsg (mCall 2 (F_law_well K a) (mCons (mName 0) (mCons (mName 1) mNil))) (gN 2))
  (mFor (mIR1 (mC (.int 1))) (gN 3)
  (mIfS (mNot (mB (mCall 1 (F_law_fits K a) (mCons (mName 2) mNil))))
  (mRet (mC (.bl false)))
  mNext))))
  (mRet (mC (.bl true))))
end T64

namespace T64
open PySem PySem.Spec PyProof.Rows L2 TL
theorem iD_len {ns : List Int} : (iD ns).length = ns.length := by simp [iD]
theorem chD_len {ns : List (Int × Int)} : (chD ns).length = ns.length := by simp [chD]
theorem iD_get {ns : List Int} {i : Nat} {v : Int} (h : ns[i]? = some v) : (iD ns)[i]? = some (.int v) := by simp [iD, h]
theorem iD_getD {ns : List Int} {i : Nat} {d : D} (h : (iD ns)[i]? = some d) : ∃ v, ns[i]? = some v ∧ d = .int v := by
  unfold iD at h
  rw [List.getElem?_map] at h
  cases e : ns[i]? with
  | none => rw [e] at h; cases h
  | some v => rw [e] at h; cases h; exact ⟨v, rfl, rfl⟩
theorem chD_getD {ns : List (Int × Int)} {i : Nat} {d : D} (h : (chD ns)[i]? = some d) : ∃ p, ns[i]? = some p ∧ d = prD p := by
  unfold chD at h
  rw [List.getElem?_map] at h
  cases e : ns[i]? with
  | none => rw [e] at h; cases h
  | some v => rw [e] at h; cases h; exact ⟨v, rfl, rfl⟩
theorem at_nonneg {α : Type} {xs : List α} {i : Int} {x : α} (h0 : 0 ≤ i) (h : xs[i.toNat]? = some x) : L2.atI xs i = some x := by
  have hl := (List.getElem?_eq_some_iff.mp h).1
  unfold L2.atI ixN
  rw [if_pos h0, if_pos (by omega)]
  exact h
theorem at_last {α : Type} {xs : List α} {x : α} : L2.atI (xs ++ [x]) (-1) = some x := by
  unfold L2.atI ixN
  rw [if_neg (by omega), if_pos (by simp; omega)]
  have e : ((-1 : Int) + ((xs ++ [x]).length : Int)).toNat = xs.length := by simp; omega
  show (xs ++ [x])[((-1 : Int) + ((xs ++ [x]).length : Int)).toNat]? = some x
  rw [e]
  simp
theorem at_sp {sp : List Int} (h : SpOk sp) (t : Int) : L2.atI (iD sp) (t % sp.length) = some (.int (spAt sp t)) := at_nonneg (h.ix t).1 (iD_get (h.at t).1)
section
variable {K : PySem.W.Frag} {mg : Str → Option Value} {a : Ads}
theorem sem_check_amount (T : Txt K mg a) (ds : List D) (μ : Sto) (Q : QD) (E : ExD) (h : F_check_amount K a ds μ Q E) : m_check_amount K a (endD Q E) (startD ["amount"] ds) μ := by
  obtain ⟨m, rfl, h0, q⟩ := h
  unfold m_check_amount
  walk_at "go"
  rw [if_neg (by simp; omega)]
  exact wQ.mk q
theorem sem_check_span (T : Txt K mg a) (ds : List D) (μ : Sto) (Q : QD) (E : ExD) (h : F_check_span K a ds μ Q E) : m_check_span K a (endD Q E) (startD ["begin", "end"] ds) μ := by
  obtain ⟨b, e, rfl, h0, q⟩ := h
  unfold m_check_span
  walk_at "go"
  rw [if_neg (by simp; omega)]
  exact wQ.mk q
theorem sem_check_speeds (T : Txt K mg a) (ds : List D) (μ : Sto) (Q : QD) (E : ExD) (h : F_check_speeds K a ds μ Q E) : m_check_speeds K a (endD Q E) (startD ["speeds", "index", "speed"] ds) μ := by
  obtain ⟨sp, rfl, h, q⟩ := h
  have h1 := h.l1
  have h2 := h.l2
  unfold m_check_speeds iD
  walk_at "go"
  rw [if_pos (by simp; omega)]
  rw [if_neg (by simp; omega)]
  unfold mFor
  walk_at "go"
  refine ⟨fun i σ' μ' => μ' = μ ∧ ∃ x y, σ' = [some (.lst (List.map D.int sp)), x, y], ⟨rfl, _, _, rfl⟩, ?_, ?_⟩
  · rintro i d σ' μ' hd ⟨rfl, x, y, rfl⟩
    obtain ⟨v, hv, rfl⟩ := enum_get hd
    have hr := h.r v (List.mem_of_getElem? hv)
    walk_at "go"
    rw [if_pos (by simp; omega)]
    try walk_at "go"
    rw [if_neg (by simp; omega)]
    exact Wk.mk ⟨rfl, _, _, rfl⟩
  · rintro σ' μ' ⟨rfl, x, y, rfl⟩
    walk_at "go"
    refine ⟨_, sp, rfl, rfl, by omega, fun m hm hall => ?_⟩
    walk_at "go"
    have pos : m ≠ 0 := fun z => by
      subst z
      have hz : ∀ (l : List Int), (∀ x, x ∈ l → x ≤ 0) → l.sum ≤ 0 := by
        intro l
        induction l with
        | nil => simp
        | cons x l ih =>
          intro hl
          have := ih fun y hy => hl y (by simp [hy])
          have := hl x (by simp)
          simp only [List.sum_cons]
          omega
      have := hz sp hall
      have := h.s
      omega
    rw [if_neg (by simpa using pos)]
    exact wQ.mk q
theorem sem_work_of_weeks (T : Txt K mg a) (ds : List D) (μ : Sto) (Q : QD) (E : ExD) (h : F_work_of_weeks K a ds μ Q E) : m_work_of_weeks K a (endD Q E) (startD ["speeds", "begin", "end", "week", "whole"] ds) μ := by
  obtain ⟨sp, b, e, rfl, h, q⟩ := h
  have h1 := h.l1
  have h2 := h.l2
  have hs := h.s
  have hs2 := h.sum
  unfold m_work_of_weeks iD
  walk_at "go"
  have hd : ∀ x, CDivW x (sp.length : Int) := fun x => wide_div (b := 62) (by omega) (by omega) (by omega) (by omega)
  refine ⟨hd _, hd _, mulOk_r (by omega), by omega, by omega, ?_⟩
  rw [cutN_to (h.ix e).1 (by have := h.ix e; omega), cutN_to (h.ix b).1 (by have := h.ix b; omega)]
  refine wQ.mk ?_
  have : wowV sp b e = (e / ↑sp.length - b / ↑sp.length) * sp.sum + (List.take (e % ↑sp.length).toNat sp).sum - (List.take (b % ↑sp.length).toNat sp).sum := by
    unfold wowV cum
    rw [Int.sub_mul]
    omega
  rw [this] at q
  exact q
end

end T64

namespace T64
open PySem PySem.Spec PyProof.Rows L2 TL
theorem fg_ws {x y : D} : fget "week_speeds" calN [x, y] = some x := fget_hd
theorem fg_rc {x y : D} : fget "real_changes" calN [x, y] = some y := by
  show fget "real_changes" ["week_speeds", "real_changes"] [x, y] = some y
  rw [fget_tl (by decide +kernel)]
  exact fget_hd
theorem chD_get {ch : List (Int × Int)} {i : Nat} {p : Int × Int} (h : ch[i]? = some p) : (chD ch)[i]? = some (prD p) := by simp [chD, h]
theorem shp_i (ns : List Int) : isPys (iD ns) = true := isPys_of fun x hx => by
  obtain ⟨n, _, rfl⟩ := List.mem_map.mp hx
  rfl
theorem shp_c (ch : List (Int × Int)) : isPys (chD ch) = true := isPys_of fun x hx => by
  obtain ⟨n, _, rfl⟩ := List.mem_map.mp hx
  rfl
theorem can_i (ns : List Int) : PyData.canLayAll0 (pyDs (iD ns)) = true := by
  induction ns with
  | nil => rfl
  | cons n ns ih =>
    show ((pyD (.int n)).canLay0 && PyData.canLayAll0 (pyDs (iD ns))) = true
    rw [ih]
    rfl
theorem can_c (ch : List (Int × Int)) : PyData.canLayAll0 (pyDs (chD ch)) = true := by
  induction ch with
  | nil => rfl
  | cons n ns ih =>
    show ((pyD (prD n)).canLay0 && PyData.canLayAll0 (pyDs (chD ns))) = true
    rw [ih]
    rfl
theorem dep_i (ns : List Int) : PyData.depthAll (pyDs (iD ns)) ≤ 0 := depthAll_le fun x hx => by
  obtain ⟨n, _, rfl⟩ := List.mem_map.mp hx
  exact Nat.le_refl 0
theorem dep_c (ch : List (Int × Int)) : PyData.depthAll (pyDs (chD ch)) ≤ 1 := depthAll_le fun x hx => by
  obtain ⟨n, _, rfl⟩ := List.mem_map.mp hx
  exact Nat.le_refl 1
theorem shaped_i (ns : List Int) : SeqAt.shaped (pyD (.tup (iD ns))) = true := by
  unfold SeqAt.shaped
  rw [Bool.and_eq_true, decide_eq_true_eq]
  refine ⟨can_i ns, ?_⟩
  show PyData.depthAll (pyDs (iD ns)) + 1 ≤ 64
  have := dep_i ns
  omega
theorem shaped_c (ns : List (Int × Int)) : SeqAt.shaped (pyD (.tup (chD ns))) = true := by
  unfold SeqAt.shaped
  rw [Bool.and_eq_true, decide_eq_true_eq]
  refine ⟨can_c ns, ?_⟩
  show PyData.depthAll (pyDs (chD ns)) + 1 ≤ 64
  have := dep_c ns
  omega
section
variable {K : PySem.W.Frag} {mg : Str → Option Value} {a : Ads}
theorem sem_check_changes (T : Txt K mg a) (ds : List D) (μ : Sto) (Q : QD) (E : ExD) (h : F_check_changes K a ds μ Q E) : m_check_changes K a (endD Q E) (startD ["changes", "index", "moment", "speed"] ds) μ := by
  obtain ⟨ch, rfl, h, q⟩ := h
  unfold m_check_changes mFor
  walk_at "go"
  refine ⟨fun i σ' μ' => μ' = μ ∧ ∃ x y z, σ' = [some (.lst (chD ch)), x, y, z], ⟨rfl, _, _, _, rfl⟩, ?_, ?_⟩
  · rintro i d σ' μ' hd ⟨rfl, x, y, z, rfl⟩
    obtain ⟨x, hx, rfl⟩ := enumD_get hd
    obtain ⟨p, hp, rfl⟩ := chD_getD hx
    have hr := h.r p (List.mem_of_getElem? hp)
    unfold prD
    walk_at "go"
    rw [if_pos (by simp; omega)]
    rw [if_neg (by simp; omega)]
    by_cases hi : 0 < i
    · rw [if_pos (by simpa using hi)]
      have hl := (List.getElem?_eq_some_iff.mp hp).1
      obtain ⟨q, hq⟩ : ∃ q, ch[i - 1]? = some q := ⟨ch[i - 1], List.getElem?_eq_getElem (by omega)⟩
      have hlt : q.1 < p.1 := by
        have h1 := List.pairwise_iff_getElem.mp h.s (i - 1) i (by omega) hl (by omega)
        rw [(List.getElem?_eq_some_iff.mp hq).2, (List.getElem?_eq_some_iff.mp hp).2] at h1
        exact h1
      have e : L2.atI (chD ch) ((i : Int) - 1) = some (prD q) := at_nonneg (by omega) (by
        have : ((i : Int) - 1).toNat = i - 1 := by omega
        rw [this]
        exact chD_get hq)
      rw [e]
      unfold prD
      walk_at "go"
      rw [if_neg (by simpa using hlt)]
      exact Wk.mk ⟨rfl, _, _, _, rfl⟩
    · rw [if_neg (by simpa using hi)]
      try walk_at "go"
      exact Wk.mk ⟨rfl, _, _, _, rfl⟩
  · rintro σ' μ' ⟨rfl, x, y, z, rfl⟩
    exact wQ.mk q
theorem sem_Calendar_speeds (T : Txt K mg a) (ds : List D) (μ : Sto) (Q : QD) (E : ExD) (h : F_Calendar_speeds K a ds μ Q E) : m_Calendar_speeds K a (endD Q E) (startD ["self"] ds) μ := by
  obtain ⟨c, rfl, q⟩ := h
  unfold m_Calendar_speeds
  walk_at "go"
  refine ⟨_, _, _, _, rfl, rfl, fg_ws, ?_⟩
  exact wQ.mk q
theorem sem_Calendar_changes (T : Txt K mg a) (ds : List D) (μ : Sto) (Q : QD) (E : ExD) (h : F_Calendar_changes K a ds μ Q E) : m_Calendar_changes K a (endD Q E) (startD ["self"] ds) μ := by
  obtain ⟨c, rfl, q⟩ := h
  unfold m_Calendar_changes
  walk_at "go"
  refine ⟨_, _, _, _, rfl, rfl, fg_rc, ?_⟩
  exact wQ.mk q
theorem sem_Calendar_eq (T : Txt K mg a) (ds : List D) (μ : Sto) (Q : QD) (E : ExD) (h : F_Calendar_eq K a ds μ Q E) : m_Calendar_eq K a (endD Q E) (startD ["self", "other"] ds) μ := by
  obtain ⟨c, rfl, q⟩ := h
  unfold m_Calendar_eq
  walk_at "go"
  refine ⟨_, true, .ref a.c_Calendar, _, rfl, rfl, fun C' e => by injection e with e; exact e.symm, kit_same, ?_⟩
  walk_at "go"
  rw [if_neg (by simp)]
  refine ⟨_, _, _, _, rfl, rfl, fg_ws, _, _, _, _, rfl, rfl, fg_ws, ?_⟩
  refine ⟨shp_i _, shp_i _, shaped_i _, shaped_i _, ?_⟩
  rw [SeqAt.eqv_refl _ (SeqAt.canLay_of_shaped (shaped_i _))]
  walk_at "go"
  refine ⟨_, _, _, _, rfl, rfl, fg_rc, _, _, _, _, rfl, rfl, fg_rc, ?_⟩
  refine ⟨shp_c _, shp_c _, shaped_c _, shaped_c _, ?_⟩
  rw [SeqAt.eqv_refl _ (SeqAt.canLay_of_shaped (shaped_c _))]
  exact wQ.mk q
end

end T64

namespace T64
open PySem PySem.Spec PyProof.Rows L2 TL
theorem chD_map {ch : List (Int × Int)} {f : List (Int × Int) → List (Int × Int)} : True := trivial
section
variable {K : PySem.W.Frag} {mg : Str → Option Value} {a : Ads}
theorem sem_Calendar_init (T : Txt K mg a) (ds : List D) (μ : Sto) (Q : QD) (E : ExD) (h : F_Calendar_init K a ds μ Q E) : m_Calendar_init K a (endD Q E) (startD ["self", "speeds", "changes", "at", "speed"] ds) μ := by
  obtain ⟨p, sp, ch, rfl, h, hc, hl, hm, q⟩ := h
  have h1 := h.l1
  unfold m_Calendar_init
  walk_at "go"
  refine ⟨sp, rfl, h, ch, rfl, hc, ?_⟩
  walk_at "go"
  refine ⟨p, _, _, _, rfl, hm, rfl, by decide, ?_⟩
  unfold mLc
  walk_at "go"
  refine ⟨fun i acc μ' => μ' = sset μ p (.ins a.c_Calendar ["week_speeds"] [.tup (iD sp)]) ∧ acc = chD (realV sp (ch.take i)), ⟨rfl, rfl⟩, ?_, ?_⟩
  · rintro i d acc μ' hd ⟨rfl, rfl⟩
    obtain ⟨p, hp, rfl⟩ := chD_getD hd
    have hl2 := (List.getElem?_eq_some_iff.mp hp).1
    have et : ch.take (i + 1) = ch.take i ++ [p] := by
      rw [List.take_succ, hp]
      rfl
    unfold prD
    simp only [wipeD]
    walk_at "go"
    rw [iD_len]
    refine ⟨by omega, ?_⟩
    rw [at_sp h]
    walk_at "go"
    have ef : realV sp (ch.take (i + 1)) = realV sp (ch.take i) ++ (if decide (spAt sp p.1 ≠ p.2) = true then [p] else []) := by
      rw [et]
      unfold realV
      rw [List.filter_append, List.filter_cons, List.filter_nil]
    by_cases z : spAt sp p.1 = p.2
    · rw [if_neg (by simp [z])]
      rw [ef, if_neg (by simp [z]), List.append_nil]
    · rw [if_pos (by simp [z])]
      refine ⟨by simp [sizeLine_eq], ?_, ?_⟩
      · rw [chD_len, sizeLine_eq]
        have h3 : (realV sp (ch.take i)).length ≤ (ch.take i).length := List.length_filter_le _ _
        rw [List.length_take] at h3
        omega
      · rw [ef, if_pos (by simp [z])]
        unfold chD
        rw [List.map_append]
        rfl
  · rintro acc μ' ⟨rfl, rfl⟩
    try walk_at "go"
    refine ⟨p, _, _, _, rfl, sset_same, rfl, by decide, ?_⟩
    rw [sset_sset, chD_len, List.take_length]
    have e1 : fpN "real_changes" ["week_speeds"] = calN := by
      rw [fpN_tl (by decide +kernel)]
      rfl
    have e2 : fpD "real_changes" (D.tup (chD (realV sp ch))) ["week_speeds"] [D.tup (iD sp)] = [D.tup (iD sp), D.tup (chD (realV sp ch))] := by
      rw [fpD_tl (by decide +kernel)]
      rfl
    rw [e1, e2]
    exact wQ.mk q
theorem sem_end_of_weeks (T : Txt K mg a) (ds : List D) (μ : Sto) (Q : QD) (E : ExD) (h : F_end_of_weeks K a ds μ Q E) : m_end_of_weeks K a (endD Q E) (startD ["speeds", "begin", "amount", "weeks", "left", "at"] ds) μ := by
  obtain ⟨sp, b, m, rfl, h, hm, q⟩ := h
  have h1 := h.l1
  have h2 := h.l2
  have hs := h.s
  have hs2 := h.sum
  unfold m_end_of_weeks iD
  walk_at "go"
  by_cases z : m = 0
  · rw [if_pos (by simpa using z)]
    subst z
    exact wQ.mk q
  · rw [if_neg (by simpa using z)]
    refine ⟨wide_div (b := 62) hs (by omega) (by omega) (by omega), mulOk_r (by omega), mulOk_r (by omega), ?_⟩
    unfold mWhile
    have hrest := rest_le hs (show 0 < m by omega)
    have hw := nxt_week h (b + (m - 1) / sp.sum * ↑sp.length)
    refine ⟨fun k σ' μ' => μ' = μ ∧ ∃ left at_ w, σ' = [some (.lst (List.map D.int sp)), some (.int b), some (.int m), w, some (.int left), some (.int at_)] ∧ left ≤ nxt sp at_ k ∧ eowL sp k left at_ = eowV sp b m, ⟨sp.length, rfl, _, _, _, rfl, ?_, ?_⟩, ?_⟩
    · rw [hw]; exact hrest.2
    · unfold eowV
      rw [if_neg z]
    · rintro k σ' μ' ⟨rfl, left, at_, w, rfl, hk, he⟩
      walk_at "go"
      by_cases c : 0 < left
      · rw [if_pos (by simpa using c)]
        refine ⟨by omega, ?_⟩
        have e : L2.atI (List.map D.int sp) (at_ % (sp.length : Int)) = some (.int (spAt sp at_)) := at_sp h at_
        rw [e]
        walk_at "go"
        cases k with
        | zero => rw [nxt_zero] at hk; omega
        | succ k =>
          refine Wk.mk ⟨k, Nat.lt_succ_self k, rfl, _, _, _, rfl, ?_, ?_⟩
          · rw [nxt_succ h] at hk; omega
          · unfold eowL at he
            rw [if_pos c] at he
            exact he
      · rw [if_neg (by simpa using c)]
        have e : eowL sp k left at_ = at_ := by
          cases k with
          | zero => rfl
          | succ k => unfold eowL; rw [if_neg c]
        rw [e] at he
        rw [← he] at q
        exact wQ.mk q
theorem sem_begin_of_weeks (T : Txt K mg a) (ds : List D) (μ : Sto) (Q : QD) (E : ExD) (h : F_begin_of_weeks K a ds μ Q E) : m_begin_of_weeks K a (endD Q E) (startD ["speeds", "end", "amount", "weeks", "left", "at"] ds) μ := by
  obtain ⟨sp, b, m, rfl, h, hm, q⟩ := h
  have h1 := h.l1
  have h2 := h.l2
  have hs := h.s
  have hs2 := h.sum
  unfold m_begin_of_weeks iD
  walk_at "go"
  by_cases z : m = 0
  · rw [if_pos (by simpa using z)]
    subst z
    exact wQ.mk q
  · rw [if_neg (by simpa using z)]
    refine ⟨wide_div (b := 62) hs (by omega) (by omega) (by omega), mulOk_r (by omega), mulOk_r (by omega), ?_⟩
    unfold mWhile
    have hrest := rest_le hs (show 0 < m by omega)
    have hw := nxt_week h (b - (m - 1) / sp.sum * ↑sp.length - sp.length)
    refine ⟨fun k σ' μ' => μ' = μ ∧ ∃ left at_ w, σ' = [some (.lst (List.map D.int sp)), some (.int b), some (.int m), w, some (.int left), some (.int at_)] ∧ left ≤ nxt sp (at_ - k) k ∧ bowL sp k left at_ = bowV sp b m, ⟨sp.length, rfl, _, _, _, rfl, ?_, ?_⟩, ?_⟩
    · rw [hw]; exact hrest.2
    · unfold bowV
      rw [if_neg z]
    · rintro k σ' μ' ⟨rfl, left, at_, w, rfl, hk, he⟩
      walk_at "go"
      by_cases c : 0 < left
      · rw [if_pos (by simpa using c)]
        refine ⟨by omega, ?_⟩
        have e : L2.atI (List.map D.int sp) ((at_ - 1) % (sp.length : Int)) = some (.int (spAt sp (at_ - 1))) := at_sp h (at_ - 1)
        rw [e]
        walk_at "go"
        cases k with
        | zero => rw [nxt_zero] at hk; omega
        | succ k =>
          refine Wk.mk ⟨k, Nat.lt_succ_self k, rfl, _, _, _, rfl, ?_, ?_⟩
          · have e1 : nxt sp (at_ - ((k + 1 : Nat) : Int)) (k + 1) = nxt sp (at_ - 1 - k) k + spAt sp (at_ - 1) := by
              have := cum_succ h (at_ - 1)
              unfold nxt
              have e2 : at_ - ((k + 1 : Nat) : Int) + ((k + 1 : Nat) : Int) = at_ - 1 + 1 := by omega
              have e3 : at_ - 1 - (k : Int) + k = at_ - 1 := by omega
              have e4 : at_ - ((k + 1 : Nat) : Int) = at_ - 1 - (k : Int) := by omega
              rw [e2, e3, e4, this]
              omega
            rw [e1] at hk; omega
          · unfold bowL at he
            rw [if_pos c] at he
            exact he
      · rw [if_neg (by simpa using c)]
        have e : bowL sp k left at_ = at_ := by
          cases k with
          | zero => rfl
          | succ k => unfold bowL; rw [if_neg c]
        rw [e] at he
        rw [← he] at q
        exact wQ.mk q
end

end T64

namespace T64
open PySem PySem.Spec PyProof.Rows L2 TL
theorem chD_rev {ch : List (Int × Int)} : (chD ch).reverse = chD ch.reverse := by simp [chD]
theorem drop_cons {α : Type} {xs : List α} {i : Nat} {x : α} (h : xs[i]? = some x) : xs.drop i = x :: xs.drop (i + 1) := by
  obtain ⟨hl, rfl⟩ := List.getElem?_eq_some_iff.mp h
  exact List.drop_eq_getElem_cons hl
section
variable {K : PySem.W.Frag} {mg : Str → Option Value} {a : Ads}
theorem sem_work (T : Txt K mg a) (ds : List D) (μ : Sto) (Q : QD) (E : ExD) (h : F_work K a ds μ Q E) : m_work K a (endD Q E) (startD ["calendar", "begin", "end", "speeds", "found", "moment", "speed"] ds) μ := by
  obtain ⟨c, b, e, rfl, h, hbe, q⟩ := h
  have hn := h.sp.l1
  unfold m_work
  walk_at "go"
  refine ⟨b, e, rfl, hbe, ?_⟩
  refine ⟨_, _, _, rfl, rfl, c, rfl, ?_⟩
  refine ⟨c.sp, b, e, rfl, h.sp, ?_⟩
  unfold mFor
  walk_at "go"
  refine ⟨_, _, _, rfl, rfl, c, rfl, ?_⟩
  refine ⟨fun i σ' μ' => μ' = μ ∧ ∃ f x y, σ' = [some (calD a c), some (.int b), some (.int e), some (.lst (iD c.sp)), some (.int f), x, y] ∧ workL c.sp b e (c.ch.drop i) f = workV c b e, ⟨rfl, _, _, _, rfl, rfl⟩, ?_, ?_⟩
  · rintro i d σ' μ' hd ⟨rfl, f, x, y, rfl, hf⟩
    obtain ⟨p, hp, rfl⟩ := chD_getD hd
    rw [drop_cons hp, workL] at hf
    unfold prD
    walk_at "go"
    rw [iD_len]
    by_cases c1 : b ≤ p.1
    · rw [if_pos (by simpa using c1)]
      by_cases c2 : p.1 < e
      · rw [if_pos (by simpa using c2)]
        refine ⟨by omega, ?_⟩
        rw [at_sp h.sp]
        walk_at "go"
        rw [if_pos ⟨c1, c2⟩] at hf
        exact Wk.mk ⟨rfl, _, _, _, rfl, hf⟩
      · rw [if_neg (by simpa using c2)]
        rw [if_neg (fun z => c2 z.2)] at hf
        exact Wk.mk ⟨rfl, _, _, _, rfl, hf⟩
    · rw [if_neg (by simpa using c1)]
      try walk_at "go"
      rw [if_neg (fun z => c1 z.1)] at hf
      exact Wk.mk ⟨rfl, _, _, _, rfl, hf⟩
  · rintro σ' μ' ⟨rfl, f, x, y, rfl, hf⟩
    walk_at "go"
    rw [chD_len, List.drop_length] at hf
    unfold workL at hf
    rw [← hf] at q
    exact wQ.mk q
theorem sem_due (T : Txt K mg a) (ds : List D) (μ : Sto) (Q : QD) (E : ExD) (h : F_due K a ds μ Q E) : m_due K a (endD Q E) (startD ["calendar", "moment", "amount", "speeds", "at", "left", "place", "speed", "done"] ds) μ := by
  obtain ⟨c, m, am, rfl, h, ham, q⟩ := h
  unfold m_due
  walk_at "go"
  refine ⟨am, rfl, ham, ?_⟩
  refine ⟨_, _, _, rfl, rfl, c, rfl, ?_⟩
  unfold mFor
  walk_at "go"
  refine ⟨_, _, _, rfl, rfl, c, rfl, ?_⟩
  have fin : ∀ (at_ left : Int) (x y z : Option D), 0 ≤ left → eowV c.sp at_ left = dueV c.sp c.ch m am → F_end_of_weeks K a [.lst (iD c.sp), .int at_, .int left] μ (wQ Q) (wE E) := fun at_ left x y z hl he =>
    ⟨c.sp, at_, left, rfl, h.sp, hl, by rw [he]; exact wQ.mk q⟩
  refine ⟨fun i σ' μ' => μ' = μ ∧ ∃ at_ left x y z, σ' = [some (calD a c), some (.int m), some (.int am), some (.lst (iD c.sp)), some (.int at_), some (.int left), x, y, z] ∧ 0 ≤ left ∧ dueV c.sp (c.ch.drop i) at_ left = dueV c.sp c.ch m am, ⟨rfl, _, _, _, _, _, rfl, ham, rfl⟩, ?_, ?_⟩
  · rintro i d σ' μ' hd ⟨rfl, at_, left, x, y, z, rfl, hl, hf⟩
    obtain ⟨p, hp, rfl⟩ := chD_getD hd
    rw [drop_cons hp, dueV] at hf
    unfold prD
    walk_at "go"
    by_cases c1 : p.1 < at_ ∨ left = 0
    · rw [if_pos c1] at hf
      rcases c1 with c1 | c1
      · rw [if_pos (by simpa using c1)]
        try walk_at "go"
        exact Wk.mk ⟨rfl, _, _, _, _, _, rfl, hl, hf⟩
      · by_cases c2 : p.1 < at_
        · rw [if_pos (by simpa using c2)]
          try walk_at "go"
          exact Wk.mk ⟨rfl, _, _, _, _, _, rfl, hl, hf⟩
        · rw [if_neg (by simpa using c2), if_pos (by simpa using c1)]
          exact Wk.mk ⟨rfl, _, _, _, _, _, rfl, hl, hf⟩
    · rw [if_neg c1] at hf
      rw [if_neg (by simp; omega), if_neg (by simp; omega)]
      refine ⟨c.sp, at_, p.1, rfl, h.sp, ?_⟩
      walk_at "go"
      by_cases c2 : wowV c.sp at_ p.1 ≥ left
      · rw [if_pos c2] at hf
        rw [if_pos (by simpa using c2)]
        exact fin _ _ none none none hl hf
      · rw [if_neg c2] at hf
        rw [if_neg (by simpa using c2)]
        by_cases c3 : wowV c.sp at_ p.1 + p.2 ≥ left
        · rw [if_pos c3] at hf
          rw [if_pos (by simpa using c3)]
          rw [← hf] at q
          exact wQ.mk q
        · rw [if_neg c3] at hf
          rw [if_neg (by simpa using c3)]
          exact Wk.mk ⟨rfl, _, _, _, _, _, rfl, by omega, hf⟩
  · rintro σ' μ' ⟨rfl, at_, left, x, y, z, rfl, hl, hf⟩
    walk_at "go"
    rw [chD_len, List.drop_length] at hf
    exact fin _ _ none none none hl hf
theorem sem_latest (T : Txt K mg a) (ds : List D) (μ : Sto) (Q : QD) (E : ExD) (h : F_latest K a ds μ Q E) : m_latest K a (endD Q E) (startD ["calendar", "moment", "amount", "speeds", "at", "left", "place", "speed", "done"] ds) μ := by
  obtain ⟨c, m, am, rfl, h, ham, q⟩ := h
  unfold m_latest
  walk_at "go"
  refine ⟨am, rfl, ham, ?_⟩
  refine ⟨_, _, _, rfl, rfl, c, rfl, ?_⟩
  unfold mFor
  walk_at "go"
  refine ⟨_, _, _, rfl, rfl, c, rfl, ?_⟩
  walk_at "go"
  rw [chD_rev]
  have fin : ∀ (at_ left : Int), 0 ≤ left → bowV c.sp at_ left = latV c.sp c.ch.reverse m am → F_begin_of_weeks K a [.lst (iD c.sp), .int at_, .int left] μ (wQ Q) (wE E) := fun at_ left hl he =>
    ⟨c.sp, at_, left, rfl, h.sp, hl, by rw [he]; exact wQ.mk q⟩
  refine ⟨fun i σ' μ' => μ' = μ ∧ ∃ at_ left x y z, σ' = [some (calD a c), some (.int m), some (.int am), some (.lst (iD c.sp)), some (.int at_), some (.int left), x, y, z] ∧ 0 ≤ left ∧ latV c.sp (c.ch.reverse.drop i) at_ left = latV c.sp c.ch.reverse m am, ⟨rfl, _, _, _, _, _, rfl, ham, rfl⟩, ?_, ?_⟩
  · rintro i d σ' μ' hd ⟨rfl, at_, left, x, y, z, rfl, hl, hf⟩
    obtain ⟨p, hp, rfl⟩ := chD_getD hd
    rw [drop_cons hp, latV] at hf
    unfold prD
    walk_at "go"
    by_cases c1 : p.1 ≥ at_ ∨ left = 0
    · rw [if_pos c1] at hf
      rcases c1 with c1 | c1
      · rw [if_pos (by simpa using c1)]
        try walk_at "go"
        exact Wk.mk ⟨rfl, _, _, _, _, _, rfl, hl, hf⟩
      · by_cases c2 : p.1 ≥ at_
        · rw [if_pos (by simpa using c2)]
          try walk_at "go"
          exact Wk.mk ⟨rfl, _, _, _, _, _, rfl, hl, hf⟩
        · rw [if_neg (by simpa using c2), if_pos (by simpa using c1)]
          exact Wk.mk ⟨rfl, _, _, _, _, _, rfl, hl, hf⟩
    · rw [if_neg c1] at hf
      rw [if_neg (by simp; omega), if_neg (by simp; omega)]
      refine ⟨c.sp, p.1 + 1, at_, rfl, h.sp, ?_⟩
      walk_at "go"
      by_cases c2 : wowV c.sp (p.1 + 1) at_ ≥ left
      · rw [if_pos c2] at hf
        rw [if_pos (by simpa using c2)]
        exact fin _ _ hl hf
      · rw [if_neg c2] at hf
        rw [if_neg (by simpa using c2)]
        by_cases c3 : wowV c.sp (p.1 + 1) at_ + p.2 ≥ left
        · rw [if_pos c3] at hf
          rw [if_pos (by simpa using c3)]
          rw [← hf] at q
          exact wQ.mk q
        · rw [if_neg c3] at hf
          rw [if_neg (by simpa using c3)]
          exact Wk.mk ⟨rfl, _, _, _, _, _, rfl, by omega, hf⟩
  · rintro σ' μ' ⟨rfl, at_, left, x, y, z, rfl, hl, hf⟩
    walk_at "go"
    rw [chD_len, List.drop_length] at hf
    exact fin _ _ hl hf
end

end T64

namespace T64
open PySem PySem.Spec PyProof.Rows L2 TL
theorem fg_asked {x y z w : D} : fget "asked" tkN [x, y, z, w] = some x := fget_hd
theorem fg_most {x y z w : D} : fget "most" tkN [x, y, z, w] = some y := by
  show fget "most" ["asked", "most", "calls", "states"] [x, y, z, w] = some y
  rw [fget_tl (by decide +kernel)]
  exact fget_hd
theorem fg_calls {x y z w : D} : fget "calls" tkN [x, y, z, w] = some z := by
  show fget "calls" ["asked", "most", "calls", "states"] [x, y, z, w] = some z
  rw [fget_tl (by decide +kernel), fget_tl (by decide +kernel)]
  exact fget_hd
theorem fg_states {x y z w : D} : fget "states" tkN [x, y, z, w] = some w := by
  show fget "states" ["asked", "most", "calls", "states"] [x, y, z, w] = some w
  rw [fget_tl (by decide +kernel), fget_tl (by decide +kernel), fget_tl (by decide +kernel)]
  exact fget_hd
theorem at_lastM {α β : Type} {xs : List α} {x : α} {f : α → β} : L2.atI ((xs ++ [x]).map f) (-1) = some (f x) := by
  rw [List.map_append]
  exact at_last
theorem Same2.ne {μ μ' : Sto} {p q b : Addr} (h : Same2 μ μ' p q) (h1 : b ≠ p) (h2 : b ≠ q) : μ' b = μ b := h b h1 h2
section
variable {K : PySem.W.Frag} {mg : Str → Option Value} {a : Ads} {μ : Sto} {t pc ps : Addr} {ask most : D} {cs : List D} {ss : List TS} {s : TS}
theorem Tk.tpc (h : Tk a μ t pc ps ask most cs ss) : t ≠ pc := fun e => by
  have h1 := h.t
  rw [e, h.c] at h1
  cases h1
theorem Tk.tps (h : Tk a μ t pc ps ask most cs ss) : t ≠ ps := fun e => by
  have h1 := h.t
  rw [e, h.s] at h1
  cases h1
theorem sem_left_of (T : Txt K mg a) (ds : List D) (μ : Sto) (Q : QD) (E : ExD) (h : F_left_of K a ds μ Q E) : m_left_of K a (endD Q E) (startD ["state", "moment", "calendar", "left", "begin", "paused"] ds) μ := by
  obtain ⟨s, m, rfl, hc, hm, q⟩ := h
  unfold m_left_of stD
  walk_at "go"
  unfold leftV at q
  by_cases z : s.p = true
  · rw [if_pos z]
    rw [if_pos z] at q
    exact wQ.mk q
  · rw [if_neg z]
    rw [if_neg z] at q
    refine ⟨s.c, s.m, m, rfl, hc, hm, ?_⟩
    exact wQ.mk q
theorem sem_Ticket_moment (T : Txt K mg a) (ds : List D) (μ : Sto) (Q : QD) (E : ExD) (h : F_Ticket_moment K a ds μ Q E) : m_Ticket_moment K a (endD Q E) (startD ["self"] ds) μ := by
  obtain ⟨_, rfl, t, pc, ps, ask, most, cs, ss, s, rfl, h, q⟩ := h
  unfold m_Ticket_moment
  walk_at "go"
  refine ⟨_, _, _, _, viewI_ref h.t, rfl, fg_states, ?_⟩
  rw [viewQ_ref h.s]
  dsimp only
  rw [at_lastM]
  unfold stD
  walk_at "go"
  exact wQ.mk q
theorem sem_Ticket_left (T : Txt K mg a) (ds : List D) (μ : Sto) (Q : QD) (E : ExD) (h : F_Ticket_left K a ds μ Q E) : m_Ticket_left K a (endD Q E) (startD ["self"] ds) μ := by
  obtain ⟨_, rfl, t, pc, ps, ask, most, cs, ss, s, rfl, h, q⟩ := h
  unfold m_Ticket_left
  walk_at "go"
  refine ⟨_, _, _, _, viewI_ref h.t, rfl, fg_states, ?_⟩
  rw [viewQ_ref h.s]
  dsimp only
  rw [at_lastM]
  unfold stD
  walk_at "go"
  exact wQ.mk q
theorem sem_Ticket_is_paused (T : Txt K mg a) (ds : List D) (μ : Sto) (Q : QD) (E : ExD) (h : F_Ticket_is_paused K a ds μ Q E) : m_Ticket_is_paused K a (endD Q E) (startD ["self"] ds) μ := by
  obtain ⟨_, rfl, t, pc, ps, ask, most, cs, ss, s, rfl, h, q⟩ := h
  unfold m_Ticket_is_paused
  walk_at "go"
  refine ⟨_, _, _, _, viewI_ref h.t, rfl, fg_states, ?_⟩
  rw [viewQ_ref h.s]
  dsimp only
  rw [at_lastM]
  unfold stD
  walk_at "go"
  exact wQ.mk q
theorem sem_Ticket_left_at (T : Txt K mg a) (ds : List D) (μ : Sto) (Q : QD) (E : ExD) (h : F_Ticket_left_at K a ds μ Q E) : m_Ticket_left_at K a (endD Q E) (startD ["self", "moment"] ds) μ := by
  obtain ⟨_, m, rfl, t, pc, ps, ask, most, cs, ss, s, rfl, h, hc, hm, q⟩ := h
  unfold m_Ticket_left_at
  walk_at "go"
  refine ⟨_, _, _, _, viewI_ref h.t, rfl, fg_states, ?_⟩
  rw [viewQ_ref h.s]
  dsimp only
  rw [at_lastM]
  unfold stD
  walk_at "go"
  rw [if_neg (by simp; omega)]
  refine ⟨_, _, _, _, viewI_ref h.t, rfl, fg_states, ?_⟩
  rw [viewQ_ref h.s]
  dsimp only
  rw [at_lastM]
  exact ⟨s, m, rfl, hc, hm, wQ.mk q⟩
theorem sem_Ticket_done_at (T : Txt K mg a) (ds : List D) (μ : Sto) (Q : QD) (E : ExD) (h : F_Ticket_done_at K a ds μ Q E) : m_Ticket_done_at K a (endD Q E) (startD ["self", "calendar", "left", "begin", "paused"] ds) μ := by
  obtain ⟨_, rfl, t, pc, ps, ask, most, cs, ss, s, rfl, h, hc, hl, q⟩ := h
  unfold m_Ticket_done_at
  walk_at "go"
  refine ⟨_, _, _, _, viewI_ref h.t, rfl, fg_states, ?_⟩
  rw [viewQ_ref h.s]
  dsimp only
  rw [at_lastM]
  unfold stD
  walk_at "go"
  unfold doneV at q
  by_cases z : s.p = true
  · rw [if_pos z]
    rw [if_pos z] at q
    exact wQ.mk q
  · rw [if_neg z]
    rw [if_neg z] at q
    exact ⟨s.c, s.m, s.l, rfl, hc, hl, wQ.mk q⟩
theorem sem_Ticket_can_wait (T : Txt K mg a) (ds : List D) (μ : Sto) (Q : QD) (E : ExD) (h : F_Ticket_can_wait K a ds μ Q E) : m_Ticket_can_wait K a (endD Q E) (startD ["self", "limit", "calendar", "left", "begin", "paused", "start"] ds) μ := by
  obtain ⟨_, lim, rfl, t, pc, ps, ask, most, cs, ss, s, rfl, h, hc, hl, q⟩ := h
  unfold m_Ticket_can_wait
  walk_at "go"
  refine ⟨_, _, _, _, viewI_ref h.t, rfl, fg_states, ?_⟩
  rw [viewQ_ref h.s]
  dsimp only
  rw [at_lastM]
  unfold stD
  walk_at "go"
  unfold waitV at q
  by_cases z : lim < s.m
  · rw [if_pos (by simpa using z)]
    rw [if_pos z] at q
    exact wQ.mk q
  · rw [if_neg (by simpa using z)]
    rw [if_neg z] at q
    refine ⟨s.c, lim, s.l, rfl, hc, hl, ?_⟩
    by_cases y : latV s.c.sp s.c.ch.reverse lim s.l < s.m
    · rw [if_pos y] at q
      walk_at "go"
      rw [if_pos (by simpa using y)]
      exact wQ.mk q
    · rw [if_neg y] at q
      walk_at "go"
      rw [if_neg (by simpa using y)]
      exact wQ.mk q
theorem sem_Ticket_note (T : Txt K mg a) (ds : List D) (μ : Sto) (Q : QD) (E : ExD) (h : F_Ticket_note K a ds μ Q E) : m_Ticket_note K a (endD Q E) (startD ["self", "call", "state"] ds) μ := by
  obtain ⟨t, pc, ps, ask, most, cs, ss, d, s, rfl, h, l1, l2, q⟩ := h
  unfold m_Ticket_note
  walk_at "go"
  refine ⟨_, _, _, _, viewI_ref h.t, rfl, fg_calls, pc, rfl, ⟨_, h.c⟩, _, h.c, by rw [sizeLine_eq]; omega, ?_⟩
  have e1 : sset μ pc (.lst (cs ++ [d])) t = some (.ins a.c_Ticket tkN [ask, most, .raw (.ref pc), .raw (.ref ps)]) := by rw [sset_ne h.tpc]; exact h.t
  have e2 : sset μ pc (.lst (cs ++ [d])) ps = some (.lst (ss.map (stD a))) := by rw [sset_ne h.ne.symm]; exact h.s
  refine ⟨_, _, _, _, viewI_ref e1, rfl, fg_states, ps, rfl, ⟨_, e2⟩, _, e2, by rw [sizeLine_eq, List.length_map]; omega, ?_⟩
  refine wQ.mk (q _ ⟨?_, ?_, ?_, h.ne⟩ ?_)
  · rw [sset_ne h.tps]; exact e1
  · rw [sset_ne h.ne, sset_same]
  · rw [sset_same, List.map_append]; rfl
  · intro b n1 n2
    rw [sset_ne n2, sset_ne n1]
theorem sem_Ticket_story (T : Txt K mg a) (ds : List D) (μ : Sto) (Q : QD) (E : ExD) (h : F_Ticket_story K a ds μ Q E) : m_Ticket_story K a (endD Q E) (startD ["self"] ds) μ := by
  obtain ⟨t, pc, ps, ask, most, cs, ss, rfl, h, q⟩ := h
  unfold m_Ticket_story
  walk_at "go"
  refine ⟨_, _, _, _, viewI_ref h.t, rfl, fg_calls, ?_⟩
  rw [viewQ_ref h.c]
  exact fun p hp => wQ.mk (q p hp)
theorem sem_Ticket_len (T : Txt K mg a) (ds : List D) (μ : Sto) (Q : QD) (E : ExD) (h : F_Ticket_len K a ds μ Q E) : m_Ticket_len K a (endD Q E) (startD ["self"] ds) μ := by
  obtain ⟨t, pc, ps, ask, most, cs, ss, rfl, h, q⟩ := h
  unfold m_Ticket_len
  walk_at "go"
  refine ⟨_, _, _, _, viewI_ref h.t, rfl, fg_calls, ?_⟩
  rw [viewQ_ref h.c]
  exact wQ.mk q
end

end T64

namespace T64
open PySem PySem.Spec PyProof.Rows L2 TL
section
variable {K : PySem.W.Frag} {mg : Str → Option Value} {a : Ads} {μ : Sto} {t pc ps : Addr} {ask most : D} {cs : List D} {ss : List TS} {s : TS}
theorem no_la : ("left_at" : Str) ∉ tkN := by decide +kernel
theorem no_note : ("note" : Str) ∉ tkN := by decide +kernel
theorem le_size {n : Nat} (h : n ≤ 1000) : n ≤ sizeLine := by rw [sizeLine_eq]; omega
theorem sem_Ticket_pause (T : Txt K mg a) (ds : List D) (μ : Sto) (Q : QD) (E : ExD) (h : F_Ticket_pause K a ds μ Q E) : m_Ticket_pause K a (endD Q E) (startD ["self", "moment", "left"] ds) μ := by
  obtain ⟨_, m, rfl, t, pc, ps, ask, most, cs, ss, s, rfl, h, hc, hm, hl, hp, l1, l2, q⟩ := h
  unfold m_Ticket_pause
  walk_at "go"
  refine ⟨_, _, _, viewI_ref h.t, rfl, no_la, _, m, rfl, t, pc, ps, ask, most, cs, ss, s, rfl, h, hc, hm, ?_⟩
  walk_at "go"
  rw [if_neg (by simpa using hl)]
  refine ⟨_, _, _, _, viewI_ref h.t, rfl, fg_states, ?_⟩
  rw [viewQ_ref h.s]
  dsimp only
  rw [at_lastM]
  unfold stD
  walk_at "go"
  rw [if_neg (by rw [hp]; decide)]
  refine ⟨_, _, _, viewI_ref h.t, rfl, no_note, le_size (by decide), ?_⟩
  refine ⟨_, _, _, _, viewI_ref h.t, rfl, fg_states, ?_⟩
  rw [viewQ_ref h.s]
  dsimp only
  rw [at_lastM]
  unfold stD
  walk_at "go"
  refine ⟨le_size (by decide), t, pc, ps, ask, most, cs, ss ++ [s], _, ⟨s.c, leftV s m, m, true⟩, rfl, h, l1, l2, fun μ' h' e => ?_⟩
  exact wQ.mk (q μ' h' e)
theorem sem_Ticket_resume (T : Txt K mg a) (ds : List D) (μ : Sto) (Q : QD) (E : ExD) (h : F_Ticket_resume K a ds μ Q E) : m_Ticket_resume K a (endD Q E) (startD ["self", "moment", "left"] ds) μ := by
  obtain ⟨_, m, rfl, t, pc, ps, ask, most, cs, ss, s, rfl, h, hc, hm, hp, l1, l2, q⟩ := h
  unfold m_Ticket_resume
  walk_at "go"
  refine ⟨_, _, _, viewI_ref h.t, rfl, no_la, _, m, rfl, t, pc, ps, ask, most, cs, ss, s, rfl, h, hc, hm, ?_⟩
  try walk_at "go"
  refine ⟨_, _, _, _, viewI_ref h.t, rfl, fg_states, ?_⟩
  rw [viewQ_ref h.s]
  dsimp only
  rw [at_lastM]
  unfold stD
  walk_at "go"
  rw [if_neg (by rw [hp]; decide)]
  refine ⟨_, _, _, viewI_ref h.t, rfl, no_note, le_size (by decide), ?_⟩
  refine ⟨_, _, _, _, viewI_ref h.t, rfl, fg_states, ?_⟩
  rw [viewQ_ref h.s]
  dsimp only
  rw [at_lastM]
  unfold stD
  walk_at "go"
  refine ⟨le_size (by decide), t, pc, ps, ask, most, cs, ss ++ [s], _, ⟨s.c, leftV s m, m, false⟩, rfl, h, l1, l2, fun μ' h' e => ?_⟩
  exact wQ.mk (q μ' h' e)
theorem sem_Ticket_switch (T : Txt K mg a) (ds : List D) (μ : Sto) (Q : QD) (E : ExD) (h : F_Ticket_switch K a ds μ Q E) : m_Ticket_switch K a (endD Q E) (startD ["self", "calendar", "moment", "left"] ds) μ := by
  obtain ⟨_, c, m, rfl, t, pc, ps, ask, most, cs, ss, s, rfl, h, hc, hm, hl, l1, l2, q⟩ := h
  unfold m_Ticket_switch
  walk_at "go"
  refine ⟨_, _, _, viewI_ref h.t, rfl, no_la, _, m, rfl, t, pc, ps, ask, most, cs, ss, s, rfl, h, hc, hm, ?_⟩
  walk_at "go"
  rw [if_neg (by simpa using hl)]
  refine ⟨_, _, _, viewI_ref h.t, rfl, no_note, le_size (by decide), ?_⟩
  refine ⟨_, _, _, _, viewI_ref h.t, rfl, fg_states, ?_⟩
  rw [viewQ_ref h.s]
  dsimp only
  rw [at_lastM]
  unfold stD
  walk_at "go"
  refine ⟨le_size (by decide), t, pc, ps, ask, most, cs, ss ++ [s], _, ⟨c, leftV s m, m, s.p⟩, rfl, h, l1, l2, fun μ' h' e => ?_⟩
  exact wQ.mk (q μ' h' e)
theorem sem_Ticket_enlarge (T : Txt K mg a) (ds : List D) (μ : Sto) (Q : QD) (E : ExD) (h : F_Ticket_enlarge K a ds μ Q E) : m_Ticket_enlarge K a (endD Q E) (startD ["self", "amount", "moment", "left", "calendar", "before", "begin", "paused"] ds) μ := by
  obtain ⟨_, am, m, rfl, t, pc, ps, ask, most, cs, ss, s, rfl, h, hc, hm, ha, hl, l1, l2, q⟩ := h
  unfold m_Ticket_enlarge
  walk_at "go"
  refine ⟨_, _, _, viewI_ref h.t, rfl, no_la, _, m, rfl, t, pc, ps, ask, most, cs, ss, s, rfl, h, hc, hm, ?_⟩
  walk_at "go"
  rw [if_neg (by simpa using ha), if_neg (by simpa using hl)]
  refine ⟨_, _, _, _, viewI_ref h.t, rfl, fg_states, ?_⟩
  rw [viewQ_ref h.s]
  dsimp only
  rw [at_lastM]
  unfold stD
  walk_at "go"
  refine ⟨_, _, _, viewI_ref h.t, rfl, no_note, le_size (by decide), le_size (by decide), ?_⟩
  refine ⟨t, pc, ps, ask, most, cs, ss ++ [s], _, ⟨s.c, leftV s m + am, m, s.p⟩, rfl, h, l1, l2, fun μ' h' e => ?_⟩
  exact wQ.mk (q μ' h' e)
theorem sem_Ticket_undo (T : Txt K mg a) (ds : List D) (μ : Sto) (Q : QD) (E : ExD) (h : F_Ticket_undo K a ds μ Q E) : m_Ticket_undo K a (endD Q E) (startD ["self"] ds) μ := by
  obtain ⟨t, pc, ps, ask, most, cs, ss, rfl, h, q⟩ := h
  unfold m_Ticket_undo
  walk_at "go"
  refine ⟨_, _, _, _, viewI_ref h.t, rfl, fg_calls, Nat.zero_le _, ?_⟩
  unfold TL.rEqN
  rw [viewM_ref h.c, viewM_lst]
  rcases q with ⟨rfl, q⟩ | ⟨cs0, d, ss0, s, rfl, rfl, q⟩
  · have e : nilEq ([] : List D) [] = some true := rfl
    dsimp only
    rw [e]
    walk_at "go"
    exact wE.mk q
  · have e : nilEq (cs0 ++ [d]) [] = some false := by
      unfold nilEq
      split
      · rename_i h1 _
        simp at h1
      · rw [if_neg (by simp)]
    dsimp only
    rw [e]
    walk_at "go"
    refine ⟨_, _, _, _, viewI_ref h.t, rfl, fg_calls, pc, _, d, rfl, h.c, by simp, ?_⟩
    rw [List.dropLast_concat]
    have e1 : sset μ pc (.lst cs0) t = some (.ins a.c_Ticket tkN [ask, most, .raw (.ref pc), .raw (.ref ps)]) := by rw [sset_ne h.tpc]; exact h.t
    have e2 : sset μ pc (.lst cs0) ps = some (.lst ((ss0 ++ [s]).map (stD a))) := by rw [sset_ne h.ne.symm]; exact h.s
    refine ⟨_, _, _, _, viewI_ref e1, rfl, fg_states, ps, _, stD a s, rfl, e2, by simp, ?_⟩
    rw [List.map_append, List.map_cons, List.map_nil, List.dropLast_concat]
    refine wQ.mk (q _ ⟨?_, ?_, ?_, h.ne⟩ ?_)
    · rw [sset_ne h.tps]; exact e1
    · rw [sset_ne h.ne, sset_same]
    · rw [sset_same]
    · intro b n1 n2
      rw [sset_ne n2, sset_ne n1]
theorem sem_Ticket_init (T : Txt K mg a) (ds : List D) (μ : Sto) (Q : QD) (E : ExD) (h : F_Ticket_init K a ds μ Q E) : m_Ticket_init K a (endD Q E) (startD ["self", "calendar", "amount", "moment"] ds) μ := by
  obtain ⟨t, c, am, m, rfl, ha, ht, q⟩ := h
  unfold m_Ticket_init
  walk_at "go"
  rw [if_neg (by simpa using ha)]
  refine ⟨le_size (by decide), t, _, _, _, rfl, ht, rfl, by decide, ?_⟩
  have f1 : fpN "asked" [] = (["asked"] : List Str) := rfl
  have f2 : fpN "most" ["asked"] = (["asked", "most"] : List Str) := by rw [fpN_tl (by decide +kernel)]; rfl
  have f3 : fpN "calls" ["asked", "most"] = (["asked", "most", "calls"] : List Str) := by rw [fpN_tl (by decide +kernel), fpN_tl (by decide +kernel)]; rfl
  have f4 : fpN "states" ["asked", "most", "calls"] = tkN := by rw [fpN_tl (by decide +kernel), fpN_tl (by decide +kernel), fpN_tl (by decide +kernel)]; rfl
  have g1 : ∀ x : D, fpD "asked" x [] [] = [x] := fun _ => rfl
  have g2 : ∀ x y : D, fpD "most" y ["asked"] [x] = [x, y] := fun _ _ => by rw [fpD_tl (by decide +kernel)]; rfl
  have g3 : ∀ x y z : D, fpD "calls" z ["asked", "most"] [x, y] = [x, y, z] := fun _ _ _ => by rw [fpD_tl (by decide +kernel), fpD_tl (by decide +kernel)]; rfl
  have g4 : ∀ x y z w : D, fpD "states" w ["asked", "most", "calls"] [x, y, z] = [x, y, z, w] := fun _ _ _ _ => by rw [fpD_tl (by decide +kernel), fpD_tl (by decide +kernel), fpD_tl (by decide +kernel)]; rfl
  refine ⟨t, _, _, _, rfl, sset_same, rfl, by rw [f1]; decide, ?_⟩
  rw [sset_sset, f1, f2, g1, g2]
  refine ⟨Nat.zero_le _, fun pc hpc => ?_⟩
  have npc : pc ≠ t := fun e => by rw [e, sset_same] at hpc; cases hpc
  refine ⟨t, _, _, _, rfl, by rw [sset_ne npc.symm, sset_same], rfl, by decide, ?_⟩
  rw [f3, g3]
  refine ⟨le_size (by decide), le_size (by decide), fun ps hps => ?_⟩
  have nps : ps ≠ t := fun e => by rw [e, sset_same] at hps; cases hps
  rw [sset_ne nps] at hps
  have nne : ps ≠ pc := fun e => by rw [e, sset_same] at hps; cases hps
  rw [sset_ne nne, sset_ne nps] at hps
  rw [sset_ne npc] at hpc
  refine ⟨t, _, _, _, rfl, by rw [sset_ne nps.symm, sset_same], rfl, by decide, ?_⟩
  rw [f4, g4]
  refine wQ.mk (q _ pc ps ⟨?_, ?_, ?_, nne.symm⟩ ?_ hpc hps)
  · rw [sset_same]
  · rw [sset_ne npc, sset_ne nne.symm, sset_ne npc, sset_same]
  · rw [sset_ne nps, sset_same]; rfl
  · intro b n1 n2 n3
    rw [sset_ne n1, sset_ne n3, sset_ne n1, sset_ne n2, sset_ne n1]
end

end T64

namespace T64
open PySem PySem.Spec PyProof.Rows L2 TL
theorem log_lt {x : Int} {k : Nat} (h0 : 0 < k) (h : x.natAbs < 2 ^ k) : x.natAbs.log2 < k := PySem.Flt.log2_lt_of h0 h
theorem pr_int {n : Nat} {x : Int} (h : x.natAbs < 2 ^ 1900) : Pr n 1921 (.int x) := .int (log_lt (by omega) h) (Nat.le_refl _)
theorem pr_bl {n : Nat} {x : Bool} : Pr n 1921 (.bl x) := .bl (by omega)
theorem pr_non {n : Nat} : Pr n 1921 .non := .non (by omega)
theorem Wl.mono {w : List D} {n m : Nat} (h : Wl w n) (l : n ≤ m) : Wl w m := by
  obtain ⟨c, s, k, e, h1, h2, h3, h4, h5⟩ := h
  exact ⟨c, s, k, e, h1, h2, h3, h4, by omega⟩
theorem div_small {i j : Int} (h : 0 < j) (hb : j ≤ 10000000000000000000000000000000000000000) : CDivW i j := wide_div (b := 200) h (by omega) (by omega) (by omega)
theorem pow_small {i : Int} {j : Int} (h : i.natAbs < 2 ^ 200) (h0 : 0 < j) (h1 : j ≤ 1000) : CPowW i j := ⟨h0, h1, by have := log_lt (by omega) h; omega⟩
section
variable {K : PySem.W.Frag} {mg : Str → Option Value} {a : Ads}
theorem sem_law_well (T : Txt K mg a) (ds : List D) (μ : Sto) (Q : QD) (E : ExD) (h : F_law_well K a ds μ Q E) : m_law_well K a (endD Q E) (startD ["script", "place", "cell", "seed"] ds) μ := by
  obtain ⟨ns, i, rfl, hi, q⟩ := h
  unfold m_law_well
  walk_at "go"
  have rest : ∀ x : Int, (IntMulOk (iabs x) 2 ∧ 0 < (2305843009213693951 : Int) ∧ CPowW 10 18 ∧ IntMulOk x (if decide ((10 : Int) ^ (18 : Int).toNat ≤ x) = true then 1 else 0) ∧ IntMulOk 1000003 (i : Int)) := fun x =>
    ⟨mulOk_r (by decide), by decide, pow_small (by decide) (by decide) (by decide), mulOk_r (by split <;> decide), mulOk_l (by decide)⟩
  have fin : ∀ x : Int, ∀ p, μ p = none → Q (.raw (.ref p)) (sset μ p (.lst [.int (x * (if decide ((10 : Int) ^ (18 : Int).toNat ≤ x) = true then 1 else 0)), .int ((iabs x * 2 + (if decide (x < 0) = true then 1 else 0)) % 2305843009213693951 + 1000003 * (i : Int)), .int 0])) := by
    intro x p hp
    refine q p _ hp ⟨_, _, _, rfl, ?_, ?_, ?_, by omega, by omega⟩
    · by_cases z : (10 : Int) ^ (18 : Int).toNat ≤ x
      · rw [if_pos (by simpa using z)]
        have : (10 : Int) ^ (18 : Int).toNat = 1000000000000000000 := by decide
        omega
      · rw [if_neg (by simpa using z)]
        omega
    · have := Int.emod_nonneg (iabs x * 2 + (if decide (x < 0) = true then 1 else 0)) (show (2305843009213693951 : Int) ≠ 0 by decide)
      omega
    · have := Int.emod_lt_of_pos (iabs x * 2 + (if decide (x < 0) = true then 1 else 0)) (show (0 : Int) < 2305843009213693951 by decide)
      omega
  by_cases z : (i : Int) < ns.length
  · rw [if_pos (by simpa using z)]
    obtain ⟨x, hx⟩ : ∃ x, ns[i]? = some x := ⟨ns[i]'(by omega), List.getElem?_eq_getElem _⟩
    have e : L2.atI (List.map D.int ns) (i : Int) = some (.int x) := at_nonneg (by omega) (by
      rw [Int.toNat_natCast]
      exact iD_get hx)
    rw [e]
    walk_at "go"
    obtain ⟨r1, r2, r3, r4, r5⟩ := rest x
    exact ⟨r1, r2, r3, r4, r5, le_size (by decide), fun p hp => wQ.mk (fin x p hp)⟩
  · rw [if_neg (by simpa using z)]
    obtain ⟨r1, r2, r3, r4, r5⟩ := rest 0
    exact ⟨r1, r2, r3, r4, r5, le_size (by decide), fun p hp => wQ.mk (fin 0 p hp)⟩
theorem sem_law_take (T : Txt K mg a) (ds : List D) (μ : Sto) (Q : QD) (E : ExD) (h : F_law_take K a ds μ Q E) : m_law_take K a (endD Q E) (startD ["well", "many", "taken", "mixed"] ds) μ := by
  obtain ⟨_, many, rfl, hm, hm2, p, n, w, rfl, hn, hp, ⟨c, s, k, rfl, h1, h2, h3, h4, h5⟩, q⟩ := h
  unfold m_law_take
  walk_at "go"
  rw [viewQ_ref hp]
  walk_at "go"
  by_cases z : 0 < c
  · rw [if_pos (by simpa using z)]
    refine ⟨hm, div_small hm hm2, p, _, 0, 0, rfl, rfl, hp, rfl, ?_⟩
    rw [set0]
    refine wQ.mk (q _ _ (Int.emod_nonneg _ (by omega)) (Int.emod_lt_of_pos _ hm) ⟨_, ⟨_, _, _, rfl, Int.ediv_nonneg h1 (by omega), h2, h3, h4, by omega⟩, rfl⟩)
  · rw [if_neg (by simpa using z)]
    refine ⟨p, _, 2, 2, rfl, rfl, hp, rfl, ?_⟩
    have hp2 : sset μ p (.lst ([D.int c, .int s, .int k].set 2 (.int (k + 1)))) p = some (.lst [.int c, .int s, .int (k + 1)]) := by rw [sset_same]; rfl
    rw [viewQ_ref hp2]
    walk_at "go"
    have b2 : ∀ x : Int, ((x % 2305843009213693951) + 2971215073 * (k + 1)).natAbs < 2 ^ 200 := fun x => by
      have e1 := Int.emod_nonneg x (show (2305843009213693951 : Int) ≠ 0 by decide)
      have e2 := Int.emod_lt_of_pos x (show (0 : Int) < 2305843009213693951 by decide)
      omega
    refine ⟨mulOk_r (by omega), pow_small (by omega) (by decide) (by decide), mulOk_r (by omega), by decide, mulOk_r (by omega), pow_small (b2 _) (by decide) (by decide), by decide, div_small (by decide) (by decide), hm, ?_⟩
    refine wQ.mk (q _ _ (Int.emod_nonneg _ (by omega)) (Int.emod_lt_of_pos _ hm) ⟨_, ⟨_, _, _, rfl, h1, h2, h3, by omega, by omega⟩, rfl⟩)
end

end T64

namespace T64
open PySem PySem.Spec PyProof.Rows L2 TL
section
variable {K : PySem.W.Frag} {mg : Str → Option Value} {a : Ads}
theorem sem_law_number (T : Txt K mg a) (ds : List D) (μ : Sto) (Q : QD) (E : ExD) (h : F_law_number K a ds μ Q E) : m_law_number K a (endD Q E) (startD ["well", "way", "found"] ds) μ := by
  obtain ⟨_, rfl, p, n, w, rfl, hn, hp, hw, q⟩ := h
  unfold m_law_number
  walk_at "gk"
  refine ⟨_, _, rfl, by omega, by omega, p, n, w, rfl, by omega, hp, hw, ?_⟩
  rintro r _ h0 h1 ⟨w1, hw1, rfl⟩
  have c10 : CPowW 10 15 := pow_small (by decide) (by decide) (by decide)
  walk_at "gk"
  refine ⟨c10, le_size (by decide), ?_⟩
  have fin : ∀ (x y : Int) w2 (m : Nat), 0 ≤ x → x < 10 ^ 30 → 0 ≤ y → y < 2 → m ≤ n + 4 → Wl w2 m → wQ Q (.int (x * (1 - 2 * y))) (sset μ p (.lst w2)) := fun x y w2 m hx hx2 hy hy2 hm hw2 =>
    wQ.mk (q _ _ (by obtain rfl | rfl : y = 0 ∨ y = 1 := by omega
                     all_goals omega) (by obtain rfl | rfl : y = 0 ∨ y = 1 := by omega
                                          all_goals omega) ⟨w2, hw2.mono hm, rfl⟩)
  obtain rfl | rfl | rfl | rfl : r = 0 ∨ r = 1 ∨ r = 2 ∨ r = 3 := by omega
  · walk_at "gk"
    refine ⟨_, _, rfl, by omega, by omega, p, (n+1), w1, rfl, by omega, sset_same, hw1, ?_⟩
    rintro x _ h2 h3 ⟨w2, hw2, rfl⟩
    walk_at "gk"
    rw [if_neg (by decide)]
    refine ⟨_, _, rfl, by omega, by omega, p, (n+1+1), w2, rfl, by omega, sset_same, hw2, ?_⟩
    rintro y _ h4 h5 ⟨w3, hw3, rfl⟩
    walk_at "gk"
    exact ⟨mulOk_l (by decide), mulOk_r (by omega), fin x y w3 _ h2 (by omega) h4 h5 (by omega) hw3⟩
  · walk_at "gk"
    refine ⟨_, _, rfl, by omega, by omega, p, (n+1), w1, rfl, by omega, sset_same, hw1, ?_⟩
    rintro x _ h2 h3 ⟨w2, hw2, rfl⟩
    walk_at "gk"
    rw [if_neg (by decide)]
    refine ⟨_, _, rfl, by omega, by omega, p, (n+1+1), w2, rfl, by omega, sset_same, hw2, ?_⟩
    rintro y _ h4 h5 ⟨w3, hw3, rfl⟩
    walk_at "gk"
    exact ⟨mulOk_l (by decide), mulOk_r (by omega), fin x y w3 _ h2 (by omega) h4 h5 (by omega) hw3⟩
  · walk_at "gk"
    refine ⟨_, _, rfl, by omega, by omega, p, (n+1), w1, rfl, by omega, sset_same, hw1, ?_⟩
    rintro x _ h2 h3 ⟨w2, hw2, rfl⟩
    walk_at "gk"
    rw [if_neg (by decide)]
    refine ⟨_, _, rfl, by omega, by omega, p, (n+1+1), w2, rfl, by omega, sset_same, hw2, ?_⟩
    rintro y _ h4 h5 ⟨w3, hw3, rfl⟩
    walk_at "gk"
    exact ⟨mulOk_l (by decide), mulOk_r (by omega), fin x y w3 _ h2 (by omega) h4 h5 (by omega) hw3⟩
  · walk_at "gk"
    refine ⟨_, _, rfl, by omega, by omega, p, (n+1), w1, rfl, by omega, sset_same, hw1, ?_⟩
    rintro x _ h2 h3 ⟨w2, hw2, rfl⟩
    walk_at "gk"
    rw [if_pos (by decide)]
    refine ⟨c10, mulOk_r (by decide), c10, ?_⟩
    refine ⟨_, _, rfl, by omega, by omega, p, (n+1+1), w2, rfl, by omega, sset_same, hw2, ?_⟩
    rintro z _ h6 h7 ⟨w3, hw3, rfl⟩
    walk_at "gk"
    refine ⟨_, _, rfl, by omega, by omega, p, (n+1+1+1), w3, rfl, by omega, sset_same, hw3, ?_⟩
    rintro y _ h4 h5 ⟨w4, hw4, rfl⟩
    walk_at "gk"
    exact ⟨mulOk_l (by decide), mulOk_r (by omega), fin _ y w4 _ (by omega) (by omega) h4 h5 (by omega) hw4⟩
theorem sem_law_told (T : Txt K mg a) (ds : List D) (μ : Sto) (Q : QD) (E : ExD) (h : F_law_told K a ds μ Q E) : m_law_told K a (endD Q E) (startD ["ticket"] ds) μ := by
  obtain ⟨_, rfl, t, pc, ps, ask, most, cs, ss, s, rfl, h, q⟩ := h
  unfold m_law_told
  walk_at "gk"
  refine ⟨_, _, _, viewI_ref h.t, rfl, _, rfl, t, pc, ps, ask, most, cs, ss, s, rfl, h, ?_⟩
  walk_at "gk"
  refine ⟨_, _, _, viewI_ref h.t, rfl, _, rfl, t, pc, ps, ask, most, cs, ss, s, rfl, h, ?_⟩
  walk_at "gk"
  refine ⟨_, _, _, viewI_ref h.t, rfl, _, rfl, t, pc, ps, ask, most, cs, ss, s, rfl, h, ?_⟩
  walk_at "gk"
  exact ⟨le_size (by decide), wQ.mk q⟩
theorem sem_law_near (T : Txt K mg a) (ds : List D) (μ : Sto) (Q : QD) (E : ExD) (h : F_law_near K a ds μ Q E) : m_law_near K a (endD Q E) (startD ["well", "marks", "back", "way"] ds) μ := by
  obtain ⟨_, ch, b, rfl, hch, hb, hb2, p, n, w, rfl, hn, hp, hw, q⟩ := h
  unfold m_law_near
  walk_at "gk"
  refine ⟨_, _, rfl, by omega, by omega, p, n, w, rfl, by omega, hp, hw, ?_⟩
  rintro r _ h0 h1 ⟨w1, hw1, rfl⟩
  walk_at "gk"
  refine ⟨Nat.zero_le _, ?_⟩
  have num : F_law_number K a [.raw (.ref p)] (sset μ p (.lst w1)) (wQ Q) (wE E) := by
    refine ⟨_, rfl, p, n + 1, w1, rfl, by omega, sset_same, hw1, ?_⟩
    rintro v _ h2 h3 ⟨w2, hw2, rfl⟩
    rw [sset_sset]
    exact wQ.mk (q v _ (by omega) (by omega) ⟨w2, hw2.mono (by omega), rfl⟩)
  unfold TL.rEqN
  rw [viewM_lst, viewM_lst]
  dsimp only
  cases ch with
  | nil =>
    have e : nilEq (chD []) [] = some true := rfl
    rw [e]
    walk_at "gk"
    exact num
  | cons x ch =>
    have e : nilEq (chD (x :: ch)) [] = some false := by
      unfold nilEq
      split
      · rename_i h1 _
        cases h1
      · rw [if_neg (by simp [chD])]
    rw [e]
    walk_at "gk"
    by_cases z : r = 0
    · rw [if_pos (by simpa using z)]
      exact num
    · rw [if_neg (by simpa using z)]
      have l := hch.l
      rw [chD_len]
      refine ⟨_, _, rfl, by simp, by omega, p, n + 1, w1, rfl, by omega, sset_same, hw1, ?_⟩
      rintro i _ h2 h3 ⟨w2, hw2, rfl⟩
      walk_at "gk"
      obtain ⟨y, hy⟩ : ∃ y, (x :: ch)[i.toNat]? = some y := ⟨(x :: ch)[i.toNat]'(by omega), List.getElem?_eq_getElem _⟩
      have ey : L2.atI (chD (x :: ch)) i = some (prD y) := at_nonneg h2 (chD_get hy)
      have by_ := hch.b y (List.mem_of_getElem? hy)
      rw [ey]
      unfold prD
      walk_at "gk"
      refine ⟨_, _, rfl, by omega, by omega, p, (n+1+1), w2, rfl, by omega, sset_same, hw2, ?_⟩
      rintro j _ h4 h5 ⟨w3, hw3, rfl⟩
      walk_at "gk"
      exact wQ.mk (q _ _ (by omega) (by omega) ⟨w3, hw3.mono (by omega), rfl⟩)
end

end T64

namespace T64
open PySem PySem.Spec PyProof.Rows L2 TL
theorem sum_pos {xs : List Int} {y : Int} (h : ∀ x, x ∈ xs → 0 ≤ x) (hy : y ∈ xs) (h0 : 0 < y) : 0 < xs.sum := by
  induction xs with
  | nil => cases hy
  | cons x xs ih =>
    have nn : ∀ l : List Int, (∀ x, x ∈ l → 0 ≤ x) → 0 ≤ l.sum := by
      intro l hl
      induction l with
      | nil => simp
      | cons z l il =>
        have := il fun w hw => hl w (by simp [hw])
        have := hl z (by simp)
        simp only [List.sum_cons]
        omega
    have h1 := h x (by simp)
    have h2 := nn xs fun z hz => h z (by simp [hz])
    simp only [List.sum_cons]
    rcases List.mem_cons.mp hy with rfl | hy
    · omega
    · have := ih (fun z hz => h z (by simp [hz])) hy
      omega
theorem rep1 {α : Type} {x : α} : ∀ k : Nat, (List.replicate k [x]).flatten = List.replicate k x
  | 0 => rfl
  | k + 1 => by rw [List.replicate_succ, List.replicate_succ, List.flatten_cons, rep1 k]; rfl
theorem iD_rep {x : Int} {k : Nat} : List.replicate k (D.int x) = iD (List.replicate k x) := by simp [iD]
theorem iD_app {xs : List Int} {x : Int} : iD xs ++ [.int x] = iD (xs ++ [x]) := by simp [iD]
theorem iD_set {xs : List Int} {x : Int} {i : Nat} : (iD xs).set i (.int x) = iD (xs.set i x) := by simp [iD, List.map_set]
structure Kp (μ0 μ : Sto) (p : Addr) (w : List D) (n : Nat) : Prop where
  k : ∀ b o, μ0 b = some o → b ≠ p → μ b = some o
  p : μ p = some (.lst w)
  w : Wl w n
theorem Kp.take {μ0 μ : Sto} {p : Addr} {w w' : List D} {n m : Nat} (h : Kp μ0 μ p w n) (hw : Wl w' m) : Kp μ0 (sset μ p (.lst w')) p w' m :=
  ⟨fun b o e ne => by rw [sset_ne ne]; exact h.k b o e ne, sset_same, hw⟩
theorem Kp.other {μ0 μ : Sto} {p q : Addr} {w : List D} {n : Nat} {o : MO} (h : Kp μ0 μ p w n) (hq : μ0 q = none) (ne : q ≠ p) : Kp μ0 (sset μ q o) p w n :=
  ⟨fun b o e nb => by rw [sset_ne (fun z => by rw [z, hq] at e; cases e)]; exact h.k b o e nb, by rw [sset_ne ne.symm]; exact h.p, h.w⟩
theorem Kp.del {μ0 μ : Sto} {p q : Addr} {w : List D} {n : Nat} (h : Kp μ0 μ p w n) (hq : μ0 q = none) (ne : q ≠ p) : Kp μ0 (sdel μ q) p w n :=
  ⟨fun b o e nb => by rw [sdel_ne (fun z => by rw [z, hq] at e; cases e)]; exact h.k b o e nb, by rw [sdel_ne ne.symm]; exact h.p, h.w⟩
theorem Kp.sub {μ0 μ : Sto} {p : Addr} {w : List D} {n : Nat} (h : Kp μ0 μ p w n) : TL.Sub (sset μ0 p (.lst w)) μ := fun b o e => by
  by_cases z : b = p
  · rw [z, sset_same] at e
    cases e
    rw [z]
    exact h.p
  · rw [sset_ne z] at e
    exact h.k b o e z
theorem Kp.fresh {μ0 μ : Sto} {p q : Addr} {w : List D} {n : Nat} (h : Kp μ0 μ p w n) (hq : μ q = none) : μ0 q = none ∧ q ≠ p := by
  have ne : q ≠ p := fun z => by rw [z, h.p] at hq; cases hq
  refine ⟨?_, ne⟩
  cases e : μ0 q with
  | none => rfl
  | some o => rw [h.k q o e ne] at hq; cases hq
section
variable {K : PySem.W.Frag} {mg : Str → Option Value} {a : Ads}
theorem paces_tail {p q : Addr} {n m : Nat} {xs : List Int} {w : List D} {μ0 μ : Sto} {Q : QD} {E : ExD} {x2 x4 x5 : Option D} (hn : 1 ≤ n) (hn2 : n ≤ 12) (hm : m + 2 ≤ 100000) (hk : Kp μ0 μ p w m) (hq : μ q = some (.lst (iD xs))) (hq0 : μ0 q = none) (hqp : q ≠ p)
    (hl : xs.length = n) (hr : ∀ x, x ∈ xs → 0 ≤ x ∧ x ≤ 3) (k : ∀ sp w', SpOk sp → sp.length = n → Wl w' (m + 2) → Q (.lst (iD sp)) (sset μ0 p (.lst w'))) :
    m_law_paces_4 K a (endD Q E) [some (.raw (.ref p)), some (.int n), x2, some (.raw (.ref q)), x4, x5] μ := by
  unfold m_law_paces_4
  walk_at "gk"
  refine ⟨_, xs, rfl, view_ref hq, by omega, fun M hM hall => ?_⟩
  walk_at "gk"
  by_cases z : M = 0
  · rw [if_pos (by simpa using z)]
    refine ⟨_, _, rfl, by omega, by omega, p, m, w, rfl, by omega, hk.p, hk.w, ?_⟩
    rintro i _ h0 h1 ⟨w1, hw1, rfl⟩
    walk_at "gk"
    refine ⟨_, _, rfl, by omega, by omega, p, (m+1), w1, rfl, by omega, sset_same, hw1, ?_⟩
    rintro r _ h2 h3 ⟨w2, hw2, rfl⟩
    walk_at "gk"
    have hk2 := hk.take hw2
    have e1 : sset μ p (.lst w2) q = some (.lst (iD xs)) := by rw [sset_ne hqp]; exact hq
    refine ⟨q, _, i, i.toNat, rfl, rfl, e1, ?_, ?_⟩
    · unfold ixN
      rw [if_pos h0, if_pos (by rw [iD_len, hl]; exact h1)]
    · rw [iD_set, h_fz sset_same]
      have hr' : ∀ x, x ∈ xs.set i.toNat (1 + r) → 0 ≤ x ∧ x ≤ 3 := fun x hx => by
        rcases List.mem_or_eq_of_mem_set hx with hx | rfl
        · exact hr x hx
        · omega
      refine ⟨_, ((hk2.other hq0 hqp).del hq0 hqp).sub, k _ _ ⟨by simp; omega, by simp; omega, hr', sum_pos (fun x hx => (hr' x hx).1) (List.mem_set (by omega) (1 + r)) (by omega)⟩ (by simp [hl]) hw2⟩
  · rw [if_neg (by simpa using z)]
    try walk_at "gk"
    rw [h_fz hq]
    have pos : 0 < M := by have := hr M hM; omega
    exact ⟨_, (hk.del hq0 hqp).sub, k _ _ ⟨by omega, by omega, hr, sum_pos (fun x hx => (hr x hx).1) hM pos⟩ hl (hk.w.mono (by omega))⟩
theorem sem_law_paces (T : Txt K mg a) (ds : List D) (μ : Sto) (Q : QD) (E : ExD) (h : F_law_paces K a ds μ Q E) : m_law_paces K a (endD Q E) (startD ["well", "size", "way", "found", "spot", "turn"] ds) μ := by
  obtain ⟨_, n, rfl, hn, hn2, p, m, w, rfl, hm, hp, hw, q⟩ := h
  unfold m_law_paces
  walk_at "gk"
  refine ⟨_, _, rfl, by omega, by omega, p, m, w, rfl, by omega, hp, hw, ?_⟩
  rintro r _ h0 h1 ⟨w1, hw1, rfl⟩
  walk_at "gk"
  have k0 : Kp μ (sset μ p (.lst w1)) p w1 (m + 1) := ⟨fun b o e ne => by rw [sset_ne ne]; exact e, sset_same, hw1⟩
  refine ⟨le_size (by decide), ?_⟩
  have fin : ∀ sp w' j, j ≤ m + 14 → SpOk sp → sp.length = n → Wl w' (j + 2) → Q (.lst (iD sp)) (sset μ p (.lst w')) := fun sp w' j hj h1 h2 h3 => q sp _ h1 h2 ⟨w', h3.mono (by omega), rfl⟩
  have rep : ∀ (c : Int) (μ1 : Sto) (Q1 : QD), (∀ q, μ1 q = none → Q1 (.raw (.ref q)) (sset μ1 q (.lst (iD (List.replicate n c))))) → rRepL true (.lst [.int c]) (.int n) μ1 Q1 := fun c μ1 Q1 h => by
    unfold rRepL
    rw [viewM_lst]
    dsimp only
    refine ⟨by omega, by omega, by rw [sizeLine_eq]; simp; omega, ?_⟩
    rw [Int.toNat_natCast, rep1, iD_rep]
    exact h
  refine rep 0 _ _ fun q1 hq1 => ?_
  walk_at "gk"
  obtain ⟨f1, f2⟩ := k0.fresh hq1
  have k1 : Kp μ (sset (sset μ p (.lst w1)) q1 (.lst (iD (List.replicate n 0)))) p w1 (m + 1) := k0.other f1 f2
  by_cases z : r < 2
  · rw [if_pos (by simpa using z)]
    unfold mLc
    walk_at "gk"
    refine ⟨by omega, by omega, ?_⟩
    refine ⟨fun i acc μ' => ∃ xs w', acc = iD xs ∧ xs.length = i ∧ (∀ x, x ∈ xs → 0 ≤ x ∧ x ≤ 3) ∧ Kp μ μ' p w' (m + 1 + i) ∧ i ≤ n, ⟨[], w1, rfl, rfl, fun x hx => (by cases hx), k1, by omega⟩, ?_, ?_⟩
    · rintro i d acc μ' hd ⟨xs, w', rfl, hl, hr, hk, hi⟩
      obtain ⟨rfl, hi2⟩ := rngD_get hd
      rw [Int.toNat_natCast] at hi2
      simp only [wipeD]
      walk_at "gk"
      refine ⟨mulOk_l (by decide), ?_⟩
      refine ⟨_, _, rfl, by omega, by omega, p, (m+1+i), w', rfl, by omega, hk.p, hk.w, ?_⟩
      rintro x _ h2 h3 ⟨w2, hw2, rfl⟩
      refine ⟨by rw [iD_len, sizeLine_eq]; omega, xs ++ [x], w2, iD_app, by simp [hl], fun y hy => ?_, hk.take hw2, by omega⟩
      rcases List.mem_append.mp hy with hy | hy
      · exact hr y hy
      · rw [List.mem_singleton.mp hy]; omega
    · rintro acc μ' ⟨xs, w', rfl, hl, hr, hk, hi⟩
      rw [rngD_len, Int.toNat_natCast] at hl hk
      intro q2 hq2
      obtain ⟨f3, f4⟩ := hk.fresh hq2
      rw [if_neg (by simp; omega)]
      exact paces_tail hn hn2 (by omega) (hk.other f3 f4) sset_same f3 f4 hl hr fun sp w' h1 h2 h3 => fin sp w' _ (by omega) h1 h2 h3
  · rw [if_neg (by simpa using z)]
    by_cases y : r = 3
    · rw [if_pos (by simpa using y)]
      refine ⟨_, _, rfl, by omega, by omega, p, (m+1), w1, rfl, by omega, k1.p, hw1, ?_⟩
      rintro x _ h2 h3 ⟨w2, hw2, rfl⟩
      walk_at "gk"
      refine ⟨le_size (by decide), ?_⟩
      refine rep (1 + x) _ _ fun q2 hq2 => ?_
      walk_at "gk"
      obtain ⟨f3, f4⟩ := (k1.take hw2).fresh hq2
      exact paces_tail hn hn2 (by omega) ((k1.take hw2).other f3 f4) sset_same f3 f4 (by simp) (fun z hz => by rw [List.eq_of_mem_replicate hz]; omega) fun sp w' h1 h2 h3 => fin sp w' _ (by omega) h1 h2 h3
    · rw [if_neg (by simpa using y)]
      exact paces_tail hn hn2 (by omega) k1 sset_same f1 f2 (by simp) (fun z hz => by rw [List.eq_of_mem_replicate hz]; omega) fun sp w' h1 h2 h3 => fin sp w' _ (by omega) h1 h2 h3
end

end T64

namespace T64
open PySem PySem.Spec PyProof.Rows L2 TL
theorem chD_app {ch : List (Int × Int)} {p : Int × Int} : chD ch ++ [.tup [.int p.1, .int p.2]] = chD (ch ++ [p]) := by simp [chD, prD]
theorem ChOk.snoc {ch : List (Int × Int)} {p : Int × Int} (h : ChOk ch) (h1 : ∀ q, q ∈ ch → q.1 < p.1) (h2 : 0 ≤ p.2 ∧ p.2 ≤ 3) : ChOk (ch ++ [p]) := by
  refine ⟨fun q hq => ?_, ?_⟩
  · rcases List.mem_append.mp hq with hq | hq
    · exact h.r q hq
    · rw [List.mem_singleton.mp hq]; exact h2
  · refine List.pairwise_append.mpr ⟨h.s, List.pairwise_singleton _ _, fun x hx y hy => ?_⟩
    rw [List.mem_singleton.mp hy]
    exact h1 x hx
section
variable {K : PySem.W.Frag} {mg : Str → Option Value} {a : Ads}
theorem sem_law_marks (T : Txt K mg a) (ds : List D) (μ : Sto) (Q : QD) (E : ExD) (h : F_law_marks K a ds μ Q E) : m_law_marks K a (endD Q E) (startD ["well", "size", "cap", "found", "many", "at", "turn"] ds) μ := by
  obtain ⟨_, sz, cap, rfl, hs1, hs2, hcap, p, m, w, rfl, hm, hp, hw, q⟩ := h
  unfold m_law_marks
  walk_at "gk"
  refine ⟨Nat.zero_le _, fun f hf => ?_⟩
  have k00 : Kp μ μ p w m := ⟨fun b o e _ => e, hp, hw⟩
  obtain ⟨f1, f2⟩ := k00.fresh hf
  have k0 : Kp μ (sset μ f (.lst [])) p w m := k00.other f1 f2
  try walk_at "gk"
  refine ⟨_, _, rfl, by omega, by omega, p, m, w, rfl, by omega, k0.p, hw, ?_⟩
  rintro many _ h0 h1 ⟨w1, hw1, rfl⟩
  have k1 := k0.take hw1
  walk_at "gk"
  refine ⟨_, rfl, p, m + 1, w1, rfl, by omega, k1.p, hw1, ?_⟩
  rintro at0 _ h2 h3 ⟨w2, hw2, rfl⟩
  have k2 := k1.take hw2
  walk_at "gk"
  unfold mFor
  walk_at "gk"
  refine ⟨by omega, by omega, ?_⟩
  refine ⟨fun i σ' μ' => ∃ ch w' at_ x, σ' = [some (.raw (.ref p)), some (.int sz), some (.int cap), some (.raw (.ref f)), some (.int many), some (.int at_), x] ∧ Kp μ μ' p w' (m + 5 + 3 * i) ∧ μ' f = some (.lst (chD ch)) ∧
      ch.length = i ∧ i ≤ cap ∧ ChOk ch ∧ (∀ y, y ∈ ch → y.1 < at_ ∧ -10 ^ 30 ≤ y.1) ∧ -10 ^ 30 ≤ at_ ∧ at_ ≤ 10 ^ 30 + 10 ^ 30 * i, ⟨[], w2, at0, none, rfl, ⟨fun b o e ne => ?_, sset_same, hw2.mono (by omega)⟩, ?_, rfl, by omega, ⟨fun y hy => (by cases hy), List.Pairwise.nil⟩, fun y hy => (by cases hy), h2, by omega⟩, ?_, ?_⟩
  · rw [sset_ne ne, sset_ne (fun z => by rw [z, f1] at e; cases e)]; exact e
  · rw [sset_ne f2, sset_same]; rfl
  · rintro i d σ' μ' hd ⟨ch, w', at_, x, rfl, hk, hf', hl, hi, hc, hb, ha1, ha2⟩
    obtain ⟨rfl, hi2⟩ := rngD_get hd
    walk_at "gk"
    refine ⟨f, rfl, ⟨_, hf'⟩, ?_⟩
    refine ⟨_, _, rfl, by omega, by omega, p, (m+5+3*i), w', rfl, by omega, hk.p, hk.w, ?_⟩
    rintro v _ h4 h5 ⟨w3, hw3, rfl⟩
    have k3 := hk.take hw3
    walk_at "gk"
    refine ⟨le_size (by decide), _, (by rw [sset_ne f2]; exact hf'), by rw [chD_len, sizeLine_eq]; omega, ?_⟩
    rw [show chD ch ++ [D.tup [D.int at_, D.int v]] = chD (ch ++ [(at_, v)]) from chD_app (p := (at_, v))]
    have k4 : Kp μ (sset (sset μ' p (.lst w3)) f (.lst (chD (ch ++ [(at_, v)])))) p w3 (m + 5 + 3 * i + 1) := k3.other f1 f2
    refine ⟨mulOk_l (by decide), pow_small (by decide) (by decide) (by decide), le_size (by decide), ?_⟩
    refine ⟨_, _, rfl, by omega, by omega, p, (m+5+3*i+1), w3, rfl, by omega, k4.p, hw3, ?_⟩
    rintro u _ h6 h7 ⟨w4, hw4, rfl⟩
    have k5 := k4.take hw4
    walk_at "gk"
    have fin : ∀ (y : Int) (b : Int), 0 < b → b ≤ 10 ^ 29 → 0 ≤ y → y < b → ∀ w5, Wl w5 (m + 5 + 3 * i + 1 + 1 + 1) → Wk (fun σ' μ' => ∃ ch w' at_ x, σ' = [some (.raw (.ref p)), some (.int sz), some (.int cap), some (.raw (.ref f)), some (.int many), some (.int at_), x] ∧ Kp μ μ' p w' (m + 5 + 3 * (i + 1)) ∧ μ' f = some (.lst (chD ch)) ∧
      ch.length = i + 1 ∧ i + 1 ≤ cap ∧ ChOk ch ∧ (∀ y, y ∈ ch → y.1 < at_ ∧ -10 ^ 30 ≤ y.1) ∧ -10 ^ 30 ≤ at_ ∧ at_ ≤ 10 ^ 30 + 10 ^ 30 * (i + 1 : Nat)) [some (.raw (.ref p)), some (.int sz), some (.int cap), some (.raw (.ref f)), some (.int many), some (.int (at_ + 1 + y)), some (.int (0 + i))] (sset (sset (sset μ' p (.lst w3)) f (.lst (chD (ch ++ [(at_, v)])))) p (.lst w5)) := by
      intro y b hb1 hb2 hy1 hy2 w5 hw5
      refine Wk.mk ⟨ch ++ [(at_, v)], w5, at_ + 1 + y, _, rfl, ⟨(k4.take hw5).k, sset_same, hw5.mono (by omega)⟩, by rw [sset_ne f2, sset_same], by simp [hl], by omega, hc.snoc (fun q hq => (hb q hq).1) ⟨h4, by omega⟩, fun y' hy' => ?_, by omega, by omega⟩
      rcases List.mem_append.mp hy' with hy' | hy'
      · have := hb y' hy'
        omega
      · rw [List.mem_singleton.mp hy']
        show at_ < at_ + 1 + y ∧ -10 ^ 30 ≤ at_
        omega
    obtain rfl | rfl | rfl | rfl : u = 0 ∨ u = 1 ∨ u = 2 ∨ u = 3 := by omega
    · walk_at "gk"
      refine ⟨_, _, rfl, by omega, by omega, p, (m+5+3*i+1+1), w4, rfl, by omega, k5.p, hw4, ?_⟩
      rintro y _ h8 h9 ⟨w5, hw5, rfl⟩
      walk_at "gk"
      exact fin y _ (by decide) (by decide) h8 h9 w5 hw5
    · walk_at "gk"
      refine ⟨_, _, rfl, by omega, by omega, p, (m+5+3*i+1+1), w4, rfl, by omega, k5.p, hw4, ?_⟩
      rintro y _ h8 h9 ⟨w5, hw5, rfl⟩
      walk_at "gk"
      exact fin y _ (by decide) (by decide) h8 h9 w5 hw5
    · walk_at "gk"
      refine ⟨_, _, rfl, by omega, by omega, p, (m+5+3*i+1+1), w4, rfl, by omega, k5.p, hw4, ?_⟩
      rintro y _ h8 h9 ⟨w5, hw5, rfl⟩
      walk_at "gk"
      exact fin y _ (by omega) (by omega) h8 h9 w5 hw5
    · walk_at "gk"
      refine ⟨_, _, rfl, by omega, by omega, p, (m+5+3*i+1+1), w4, rfl, by omega, k5.p, hw4, ?_⟩
      rintro y _ h8 h9 ⟨w5, hw5, rfl⟩
      walk_at "gk"
      exact fin y _ (by decide) (by decide) h8 h9 w5 hw5
  · rintro σ' μ' ⟨ch, w', at_, x, rfl, hk, hf', hl, hi, hc, hb, ha1, ha2⟩
    rw [rngD_len] at *
    walk_at "gk"
    rw [h_fz hf']
    refine ⟨_, (hk.del f1 f2).sub, q ch _ ⟨hc, by omega, fun y hy => ?_⟩ ⟨w', hk.w.mono (by omega), rfl⟩⟩
    have := hb y hy
    omega
end

end T64

namespace T64
open PySem PySem.Spec PyProof.Rows L2 TL
theorem no_done : ("done_at" : Str) ∉ tkN := by decide +kernel
theorem no_wait : ("can_wait" : Str) ∉ tkN := by decide +kernel
theorem no_undo : ("undo" : Str) ∉ tkN := by decide +kernel
theorem no_story : ("story" : Str) ∉ tkN := by decide +kernel
theorem nat_lt {x : Int} (h1 : -10000000000000000000000000000000000000000000000 ≤ x) (h2 : x ≤ 10000000000000000000000000000000000000000000000) : x.natAbs < 2 ^ 1900 := by
  have e : (2 : Nat) ^ 1900 = 2 ^ 200 * 2 ^ 1700 := by rw [← Nat.pow_add]
  have p : 1 ≤ 2 ^ 1700 := Nat.one_le_two_pow
  have h3 : x.natAbs < 2 ^ 200 := by omega
  rw [e]
  exact Nat.lt_of_lt_of_le h3 (Nat.le_mul_of_pos_right _ p)
theorem pr_look {s : TS} {n : Nat} {lim : Int} (h : StB s) (hn : n ≤ 1000) (h1 : -10000000000000000000000000000000000000000 ≤ lim) (h2 : lim ≤ 10000000000000000000000000000000000000000) : Pr 1 20000 (lookD s n lim) := by
  have hm := h.m
  have hl := h.l
  have hch : ∀ p, p ∈ s.c.ch → 0 ≤ p.2 ∧ p.1 ≤ 10000000000000000000000000000000000000000 := fun p hp => ⟨(h.c.ch.r p hp).1, (h.b p hp).2⟩
  have hch2 : ∀ p, p ∈ s.c.ch.reverse → 0 ≤ p.2 ∧ -10000000000000000000000000000000000000000 ≤ p.1 := fun p hp => ⟨(h.c.ch.r p (List.mem_reverse.mp hp)).1, (h.b p (List.mem_reverse.mp hp)).1⟩
  have hd := due_bd h.c.sp (B := 10000000000000000000000000000000000000000) (A := 10000000000000000000000000000000000000000) (by omega) hch (at_ := s.m) (left := s.l) (by omega) hl.1 hl.2
  have hw := lat_bd h.c.sp (B := -10000000000000000000000000000000000000000) (A := 10000000000000000000000000000000000000000) (by omega) hch2 (at_ := lim) (left := s.l) h1 hl.1 hl.2
  have pd : Pr 0 1921 (doneV s) := by
    unfold doneV
    split
    · exact pr_non
    · exact pr_int (nat_lt (by omega) (by omega))
  have pw : Pr 0 1921 (waitV s lim) := by
    unfold waitV
    split
    · exact pr_non
    · split
      · exact pr_non
      · exact pr_int (nat_lt (by omega) (by omega))
  refine .lst (b := 1921) (m := 6) (fun x hx => ?_) (Nat.le_refl _) (by decide)
  simp only [List.mem_cons, List.not_mem_nil, or_false] at hx
  rcases hx with rfl | rfl | rfl | rfl | rfl | rfl
  · exact pr_int (nat_lt (by omega) (by omega))
  · exact pr_int (nat_lt (by omega) (by omega))
  · exact pr_bl
  · exact pr_int (nat_lt (by omega) (by omega))
  · exact pd
  · exact pw
section
variable {K : PySem.W.Frag} {mg : Str → Option Value} {a : Ads}
theorem sem_law_look (T : Txt K mg a) (ds : List D) (μ : Sto) (Q : QD) (E : ExD) (h : F_law_look K a ds μ Q E) : m_law_look K a (endD Q E) (startD ["ticket", "bound"] ds) μ := by
  obtain ⟨_, lim, rfl, t, pc, ps, ask, most, cs, ss, s, rfl, h, hb, hl1, hl2, hn, q⟩ := h
  unfold m_law_look
  walk_at "gk"
  refine ⟨_, rfl, t, pc, ps, ask, most, cs, ss, s, rfl, h, ?_⟩
  walk_at "gk"
  refine ⟨_, _, _, _, rfl, viewI_ref h.t, rfl, rfl, t, pc, ps, ask, most, cs, _, rfl, h, cs.length, rfl, by omega, ?_⟩
  walk_at "gk"
  refine ⟨_, _, _, viewI_ref h.t, rfl, no_done, _, rfl, t, pc, ps, ask, most, cs, ss, s, rfl, h, hb.c, hb.l.1, ?_⟩
  walk_at "gk"
  refine ⟨_, _, _, viewI_ref h.t, rfl, no_wait, _, lim, rfl, t, pc, ps, ask, most, cs, ss, s, rfl, h, hb.c, hb.l.1, ?_⟩
  walk_at "gk"
  refine ⟨le_size (by decide), ?_⟩
  unfold rAddL toldD
  rw [viewM_lst, viewM_lst]
  dsimp only
  refine ⟨le_size (by simp), ?_⟩
  walk_at "gk"
  exact ⟨_, 1, 20000, rfl, .inl ⟨_, rfl⟩, pr_look hb hn hl1 hl2, by decide, by decide, wQ.mk q⟩
def caughtD : D := .lst [.bl true, .bl false, .bl false, .bl false, .bl false, .int 0]
theorem pr_caught : Pr 1 20000 caughtD := by
  refine .lst (b := 1921) (m := 6) (fun x hx => ?_) (Nat.le_refl _) (by decide)
  simp only [List.mem_cons, List.not_mem_nil, or_false] at hx
  rcases hx with rfl | rfl | rfl | rfl | rfl | rfl
  · exact pr_bl
  · exact pr_bl
  · exact pr_bl
  · exact pr_bl
  · exact pr_bl
  · exact pr_int (nat_lt (by omega) (by omega))
theorem sem_law_nothing (T : Txt K mg a) (ds : List D) (μ : Sto) (Q : QD) (E : ExD) (h : F_law_nothing K a ds μ Q E) : m_law_nothing K a (endD Q E) (startD ["ticket", "caught", "e"] ds) μ := by
  obtain ⟨t, pc, ps, ask, most, ss, rfl, h, q⟩ := h
  unfold m_law_nothing
  walk_at "gk"
  unfold mTry
  walk_at "gk"
  refine ⟨_, _, _, viewI_ref h.t, rfl, no_undo, t, pc, ps, ask, most, [], ss, rfl, h, .inl ⟨rfl, ?_⟩⟩
  unfold exAt
  dsimp only
  rw [T.ex_NothingToUndo_DueError]
  dsimp only
  refine ⟨T.xg_NothingToUndo, fun ea => ?_⟩
  unfold sufD
  simp only [mExIs, mExVal, T.ki_NothingToUndo_NothingToUndo, T.ki_NothingToUndo_InvalidAmount, T.ki_NothingToUndo_InvalidMoment, T.ki_NothingToUndo_TooMany, T.ki_NothingToUndo_WrongState]
  walk_at "gk"
  refine ⟨true, rfl, rfl, false, rfl, rfl, false, rfl, rfl, false, rfl, rfl, false, rfl, rfl, le_size (by decide), ?_⟩
  walk_at "gk"
  refine ⟨caughtD, 1, 20000, rfl, .inl ⟨_, rfl⟩, pr_caught, by decide, by decide, ?_⟩
  walk_at "gk"
  refine ⟨le_size (by decide), caughtD, 1, 20000, rfl, .inl ⟨_, rfl⟩, pr_caught, by decide, by decide, ?_⟩
  walk_at "gk"
  rw [decide_eq_true trivial]
  exact wQ.mk q
end

end T64

namespace T64
open PySem PySem.Spec PyProof.Rows L2 TL
theorem tyN_M {μ : Sto} {d : D} {xs : List D} (h : viewM μ d = some xs) : tyN μ d = some "list" := by
  cases d with
  | lst _ => rfl
  | raw v =>
    show (viewM μ (.raw v)).map (fun _ => "list") = some "list"
    rw [h]
    rfl
  | _ => cases h
theorem viewQ_M {μ : Sto} {d : D} {xs : List D} (h : viewM μ d = some xs) : viewQ μ d = some xs := by
  cases d with
  | lst _ => exact h
  | raw v =>
    cases v with
    | ref p =>
      unfold viewM at h
      dsimp only at h
      unfold viewQ viewL
      dsimp only
      split at h
      · exact h
      · cases h
    | _ => cases h
  | _ => cases h
theorem at2 {α : Type} {x y : α} : L2.atI [x, y] (-1) = some y := at_last (xs := [x])
theorem at3 {α : Type} {x y z : α} : L2.atI [x, y, z] (-1) = some z := at_last (xs := [x, y])
theorem IsCall.two {a : Ads} {d : D} (h : IsCall a d) : ∃ (ds : List D) (w : Str) (m : Int), d = .tup ds ∧ L2.atI ds 0 = some (.str w) ∧ L2.atI ds (-1) = some (.int m) ∧ (reprText w).length ≤ 1921 ∧ (-10000000000000000000000000000000000000000 ≤ m ∧ m ≤ 10000000000000000000000000000000000000000) ∧ ∀ K, ∀ z, z ∈ ds → Sh a.c_Calendar (F_Calendar_eq K a) 3 z := by
  obtain ⟨m, hm, rfl | rfl | ⟨am, rfl⟩ | ⟨c, rfl⟩⟩ := h
  · refine ⟨_, "pause", m, rfl, atI_c0, at2, by decide +kernel, hm, fun K z hz => ?_⟩
    simp only [List.mem_cons, List.not_mem_nil, or_false] at hz
    rcases hz with rfl | rfl
    · exact .str
    · exact .int
  · refine ⟨_, "resume", m, rfl, atI_c0, at2, by decide +kernel, hm, fun K z hz => ?_⟩
    simp only [List.mem_cons, List.not_mem_nil, or_false] at hz
    rcases hz with rfl | rfl
    · exact .str
    · exact .int
  · refine ⟨_, "enlarge", m, rfl, atI_c0, at3, by decide +kernel, hm, fun K z hz => ?_⟩
    simp only [List.mem_cons, List.not_mem_nil, or_false] at hz
    rcases hz with rfl | rfl | rfl
    · exact .str
    · exact .int
    · exact .int
  · refine ⟨_, "switch", m, rfl, atI_c0, at3, by decide +kernel, hm, fun K z hz => ?_⟩
    simp only [List.mem_cons, List.not_mem_nil, or_false] at hz
    rcases hz with rfl | rfl | rfl
    · exact .str
    · exact .ins ⟨c, rfl, rfl⟩
    · exact .int
theorem pr_pair {w : Str} {m : Int} (h : (reprText w).length ≤ 1921) (hm : -10000000000000000000000000000000000000000 ≤ m ∧ m ≤ 10000000000000000000000000000000000000000) : Pr 1 20000 (.lst [.str w, .int m]) := by
  refine .lst (b := 1921) (m := 2) (fun x hx => ?_) (Nat.le_refl _) (by decide)
  simp only [List.mem_cons, List.not_mem_nil, or_false] at hx
  rcases hx with rfl | rfl
  · exact .str h
  · exact pr_int (nat_lt (by omega) (by omega))
section
variable {K : PySem.W.Frag} {mg : Str → Option Value} {a : Ads}
theorem sem_law_same (T : Txt K mg a) (ds : List D) (μ : Sto) (Q : QD) (E : ExD) (h : F_law_same K a ds μ Q E) : m_law_same K a (endD Q E) (startD ["story", "want", "one", "two"] ds) μ := by
  obtain ⟨d1, d2, xs, rfl, h1, h2, hx, q⟩ := h
  unfold m_law_same
  walk_at "gk"
  refine ⟨d1, true, "list", rfl, tyN_M h1, kit_list, ?_⟩
  walk_at "gk"
  rw [if_neg (by decide)]
  rw [g_len (viewQ_M h1)]
  walk_at "gk"
  rw [g_len (viewQ_M h2)]
  walk_at "gk"
  rw [if_neg (by simp)]
  unfold mFor2 mIZ2
  walk_at "gk"
  refine ⟨xs, xs, h1, h2, fun i σ' μ' => μ' = μ ∧ ∃ x y, σ' = [some d1, some d2, x, y], ⟨rfl, _, _, rfl⟩, fun i σ' μ' hP => ?_, ?_, ?_⟩
  · obtain ⟨rfl, _⟩ := hP
    exact ⟨h1, h2⟩
  · rintro i d σ' μ' hd ⟨rfl, x, y, rfl⟩
    obtain ⟨z1, z2, hz1, hz2, rfl⟩ := zipD_get hd
    rw [hz1] at hz2
    cases hz2
    obtain ⟨ds, w, m, rfl, a0, a1, hw, hm, hs⟩ := (hx z1 (List.mem_of_getElem? hz1)).two
    try walk_at "gk"
    refine ⟨.tup ds, true, "tuple", rfl, rfl, kit_tuple, ?_⟩
    try walk_at "gk"
    rw [if_neg (by decide), if_neg (by simp)]
    rw [a0]
    dsimp only
    try walk_at "gk"
    rw [a1]
    dsimp only
    try walk_at "gk"
    refine ⟨le_size (by decide), _, 1, 20000, rfl, .inl ⟨_, rfl⟩, pr_pair hw hm, by decide, by decide, ?_⟩
    try walk_at "gk"
    rw [a0]
    dsimp only
    try walk_at "gk"
    rw [a1]
    dsimp only
    try walk_at "gk"
    refine ⟨le_size (by decide), _, 1, 20000, rfl, .inl ⟨_, rfl⟩, pr_pair hw hm, by decide, by decide, ?_⟩
    try walk_at "gk"
    rw [if_neg (by simp)]
    refine ⟨rfl, ⟨ds, rfl, hs K⟩, ?_⟩
    try walk_at "gk"
    rw [if_neg (by decide)]
    exact Wk.mk ⟨rfl, _, _, rfl⟩
  · rintro σ' μ' ⟨rfl, x, y, rfl⟩
    exact wQ.mk q
end

end T64

namespace T64
open PySem PySem.Spec PyProof.Rows L2 TL
theorem no_pause : ("pause" : Str) ∉ tkN := by decide +kernel
theorem no_resume : ("resume" : Str) ∉ tkN := by decide +kernel
theorem no_switch : ("switch" : Str) ∉ tkN := by decide +kernel
theorem no_enlarge : ("enlarge" : Str) ∉ tkN := by decide +kernel
section
variable {K : PySem.W.Frag} {mg : Str → Option Value} {a : Ads}
theorem Tk.keep {μ μ' : Sto} {t pc ps : Addr} {ask most : D} {cs : List D} {ss : List TS} (h : Tk a μ t pc ps ask most cs ss) (h1 : μ' t = μ t) (h2 : μ' pc = μ pc) (h3 : μ' ps = μ ps) : Tk a μ' t pc ps ask most cs ss :=
  ⟨h1.trans h.t, h2.trans h.c, h3.trans h.s, h.ne⟩
theorem mk_cal {c : Cal} {μ : Sto} {Q : QD} {E : ExD} (h : CalB c) (q : Q (calD a (realC c)) μ) : ∀ p, μ p = none → F_Calendar_init K a [.raw (.ref p), .lst (iD c.sp), .lst (chD c.ch)] (sset μ p (.ins a.c_Calendar [] [])) (fun d μ2 => d = .non ∧ mkI true p μ2 Q) E := fun p hp => by
  refine ⟨p, c.sp, c.ch, rfl, h.ok.sp, h.ok.ch, by have := h.l; omega, sset_same, rfl, ?_⟩
  unfold mkI
  rw [sset_sset, sset_same]
  dsimp only
  rw [sdel_sset hp]
  exact q
theorem sem_law_call (T : Txt K mg a) (ds : List D) (μ : Sto) (Q : QD) (E : ExD) (h : F_law_call K a ds μ Q E) : m_law_call K a (endD Q E) (startD ["well", "ticket", "spot", "lists", "way", "more", "paces", "marks"] ds) μ := by
  obtain ⟨_, pw, n, w, m, c0, c1, t, pc, ps, ask, most, cs, ss, s, rfl, rfl, h, hw0, hw, hn, n1, n2, hc0, hc1, hsc, hsm, hmb, hl, l1, l2, q⟩ := h
  have n3 : pw ≠ t := fun e => by
    have h1 := h.t
    rw [← e, hw0] at h1
    cases h1
  have l2' : (ss ++ [s]).length ≤ 1000 := by simp; omega
  have tk : ∀ w1, Tk a (sset μ pw (.lst w1)) t pc ps ask most cs (ss ++ [s]) := fun w1 => h.keep (sset_ne n3.symm) (sset_ne n1.symm) (sset_ne n2.symm)
  have fin : ∀ d' s' w1 (μ' : Sto), IsCall a d' → s'.m = m → (s'.c = s.c ∨ s'.c = realC c0 ∨ s'.c = realC c1) → leftV s m ≤ s'.l → s'.l ≤ leftV s m + 9 → Tk a μ' t pc ps ask most (cs ++ [d']) (ss ++ [s] ++ [s']) → Wl w1 (n + 2) → Same2 (sset μ pw (.lst w1)) μ' pc ps → Q d' μ' := by
    intro d' s' w1 μ' e1 e2 e3 e4 e5 e6 e7 e8
    refine q d' s' w1 μ' e1 e2 e3 e4 e5 e6 ?_ e7 fun b b1 b2 b3 => ?_
    · rw [e8 pw n1 n2, sset_same]
    · rw [e8 b b2 b3, sset_ne b1]
  unfold m_law_call
  walk_at "gk"
  refine ⟨_, _, rfl, by omega, by omega, pw, n, w, rfl, by omega, hw0, hw, ?_⟩
  rintro r _ h0 h1 ⟨w1, hw1, rfl⟩
  walk_at "gk"
  by_cases z : r = 0
  · rw [if_pos (by simpa using z)]
    refine ⟨_, _, _, viewI_ref (tk w1).t, rfl, _, rfl, t, pc, ps, ask, most, cs, ss, s, rfl, tk w1, ?_⟩
    walk_at "gk"
    by_cases y : s.p = true
    · rw [if_pos y]
      refine ⟨_, _, _, viewI_ref (tk w1).t, rfl, no_resume, _, m, rfl, t, pc, ps, ask, most, cs, ss, s, rfl, tk w1, hsc, hsm, y, by omega, l2', fun μ' h' e => ?_⟩
      walk_at "gk"
      exact ⟨le_size (by decide), wQ.mk (fin (resumeD m) ⟨s.c, leftV s m, m, false⟩ w1 μ' ⟨m, hmb, .inr (.inl rfl)⟩ rfl (.inl rfl) (Int.le_refl _) (by show leftV s m ≤ leftV s m + 9; omega) h' (hw1.mono (by omega)) e)⟩
    · rw [if_neg y]
      refine ⟨_, _, _, viewI_ref (tk w1).t, rfl, no_pause, _, m, rfl, t, pc, ps, ask, most, cs, ss, s, rfl, tk w1, hsc, hsm, by omega, by simpa using y, by omega, l2', fun μ' h' e => ?_⟩
      walk_at "gk"
      exact ⟨le_size (by decide), wQ.mk (fin (pauseD m) ⟨s.c, leftV s m, m, true⟩ w1 μ' ⟨m, hmb, .inl rfl⟩ rfl (.inl rfl) (Int.le_refl _) (by show leftV s m ≤ leftV s m + 9; omega) h' (hw1.mono (by omega)) e)⟩
  · rw [if_neg (by simpa using z)]
    by_cases y : r = 1
    · rw [if_pos (by simpa using y)]
      refine ⟨_, _, rfl, by omega, by omega, pw, (n+1), w1, rfl, by omega, sset_same, hw1, ?_⟩
      rintro am _ h2 h3 ⟨w2, hw2, rfl⟩
      walk_at "gk"
      refine ⟨_, _, _, viewI_ref (tk w2).t, rfl, no_enlarge, _, am, m, rfl, t, pc, ps, ask, most, cs, ss, s, rfl, tk w2, hsc, hsm, h2, by omega, by omega, l2', fun μ' h' e => ?_⟩
      walk_at "gk"
      exact ⟨le_size (by decide), wQ.mk (fin (enlargeD am m) ⟨s.c, leftV s m + am, m, s.p⟩ w2 μ' ⟨m, hmb, .inr (.inr (.inl ⟨am, rfl⟩))⟩ rfl (.inl rfl) (by show leftV s m ≤ leftV s m + am; omega) (by show leftV s m + am ≤ leftV s m + 9; omega) h' (hw2.mono (by omega)) e)⟩
    · rw [if_neg (by simpa using y)]
      refine ⟨_, _, rfl, by omega, by omega, pw, (n+1), w1, rfl, by omega, sset_same, hw1, ?_⟩
      rintro i _ h2 h3 ⟨w2, hw2, rfl⟩
      walk_at "gk"
      have go : ∀ c : Cal, CalB c → (realC c = realC c0 ∨ realC c = realC c1) → ∀ μ', Tk a μ' t pc ps ask most (cs ++ [switchD a (realC c) m]) (ss ++ [s] ++ [⟨realC c, leftV s m, m, s.p⟩]) → Same2 (sset μ pw (.lst w2)) μ' pc ps → Q (switchD a (realC c) m) μ' := fun c hc hcc μ' h' e =>
        fin (switchD a (realC c) m) ⟨realC c, leftV s m, m, s.p⟩ w2 μ' ⟨m, hmb, .inr (.inr (.inr ⟨_, rfl⟩))⟩ rfl (.inr hcc) (Int.le_refl _) (by show leftV s m ≤ leftV s m + 9; omega) h' (hw2.mono (by omega)) e
      obtain rfl | rfl : i = 0 ∨ i = 1 := by omega
      · walk_at "gk"
        unfold calsD
        walk_at "gk"
        refine ⟨_, _, _, viewI_ref (tk w2).t, rfl, no_switch, ?_⟩
        refine mk_cal hc0 ?_
        walk_at "gk"
        refine ⟨_, realC c0, m, rfl, t, pc, ps, ask, most, cs, ss, s, rfl, tk w2, hsc, hsm, by omega, by omega, l2', fun μ' h' e => ?_⟩
        walk_at "gk"
        refine mk_cal hc0 ?_
        walk_at "gk"
        exact ⟨le_size (by decide), wQ.mk (go c0 hc0 (.inl rfl) μ' h' e)⟩
      · walk_at "gk"
        unfold calsD
        walk_at "gk"
        refine ⟨_, _, _, viewI_ref (tk w2).t, rfl, no_switch, ?_⟩
        refine mk_cal hc1 ?_
        walk_at "gk"
        refine ⟨_, realC c1, m, rfl, t, pc, ps, ask, most, cs, ss, s, rfl, tk w2, hsc, hsm, by omega, by omega, l2', fun μ' h' e => ?_⟩
        walk_at "gk"
        refine mk_cal hc1 ?_
        walk_at "gk"
        exact ⟨le_size (by decide), wQ.mk (go c1 hc1 (.inr rfl) μ' h' e)⟩
end

end T64

namespace T64
open PySem PySem.Spec PyProof.Rows L2 TL
def lstS (c : Cal) (at_ load : Int) : Nat → TS
  | 0 => ⟨c, load, at_, false⟩
  | i + 1 => ⟨c, leftV (lstS c at_ load i) (at_ + i) + i, at_ + i, false⟩
def lcs (at_ : Int) (k : Nat) : List D := (List.range k).map fun (j : Nat) => enlargeD (j : Int) (at_ + (j : Int))
def lss (c : Cal) (at_ load : Int) (k : Nat) : List TS := (List.range (k + 1)).map (lstS c at_ load)
def llk (c : Cal) (at_ load : Int) (n : Nat) : List D := (List.range n).map fun j => toldD (lstS c at_ load j)
theorem lstS_c (c : Cal) (at_ load : Int) : ∀ i, (lstS c at_ load i).c = c ∧ (lstS c at_ load i).p = false
  | 0 => ⟨rfl, rfl⟩
  | _ + 1 => ⟨rfl, rfl⟩
theorem lstS_m (c : Cal) (at_ load : Int) : ∀ i : Nat, at_ ≤ (lstS c at_ load i).m ∧ (lstS c at_ load i).m ≤ at_ + i ∧ at_ + i - 1 ≤ (lstS c at_ load i).m
  | 0 => by show at_ ≤ at_ ∧ at_ ≤ at_ + ((0 : Nat) : Int) ∧ at_ + ((0 : Nat) : Int) - 1 ≤ at_; omega
  | i + 1 => by show at_ ≤ at_ + (i : Int) ∧ at_ + (i : Int) ≤ at_ + ((i + 1 : Nat) : Int) ∧ at_ + ((i + 1 : Nat) : Int) - 1 ≤ at_ + (i : Int); omega
theorem left_step {s : TS} {m : Int} (h : CalOk s.c) (hp : s.p = false) (h1 : s.m ≤ m) (h2 : m ≤ s.m + 1) (hl : 3 ≤ s.l) : s.l - 3 ≤ leftV s m ∧ leftV s m ≤ s.l := by
  have := work_le h h1
  unfold leftV
  rw [if_neg (by rw [hp]; decide)]
  omega
theorem lstS_l {c : Cal} (h : CalOk c) (at_ load : Int) (hl : 5000 ≤ load) : ∀ i : Nat, i ≤ 100 → load - 3 * i ≤ (lstS c at_ load i).l ∧ (lstS c at_ load i).l ≤ load + 100 * i
  | 0, _ => by show load - 3 * ((0 : Nat) : Int) ≤ load ∧ load ≤ load + 100 * ((0 : Nat) : Int); omega
  | i + 1, hi => by
    have ih := lstS_l h at_ load hl i (by omega)
    have hm := lstS_m c at_ load i
    have hc := lstS_c c at_ load i
    have := left_step (s := lstS c at_ load i) (m := at_ + i) (by rw [hc.1]; exact h) hc.2 hm.2.1 (by omega) (by omega)
    show load - 3 * ((i + 1 : Nat) : Int) ≤ leftV (lstS c at_ load i) (at_ + i) + i ∧ leftV (lstS c at_ load i) (at_ + i) + i ≤ load + 100 * ((i + 1 : Nat) : Int)
    omega
theorem lcs_succ {at_ : Int} {k : Nat} : lcs at_ (k + 1) = lcs at_ k ++ [enlargeD k (at_ + k)] := by unfold lcs; rw [List.range_succ, List.map_append]; rfl
theorem lss_succ {c : Cal} {at_ load : Int} {k : Nat} : lss c at_ load (k + 1) = lss c at_ load k ++ [lstS c at_ load (k + 1)] := by unfold lss; rw [List.range_succ, List.map_append]; rfl
theorem lss_last {c : Cal} {at_ load : Int} {k : Nat} : lss c at_ load k = (List.range k).map (lstS c at_ load) ++ [lstS c at_ load k] := by unfold lss; rw [List.range_succ, List.map_append]; rfl
theorem llk_succ {c : Cal} {at_ load : Int} {k : Nat} : llk c at_ load (k + 1) = llk c at_ load k ++ [toldD (lstS c at_ load k)] := by unfold llk; rw [List.range_succ, List.map_append]; rfl
structure Lg (a : Ads) (μ0 μ : Sto) (t pc ps lk : Addr) (ask : D) (c : Cal) (at_ load : Int) (n k : Nat) : Prop where
  tk : Tk a μ t pc ps ask .non (lcs at_ k) (lss c at_ load k)
  fk : μ lk = some (.lst (llk c at_ load n))
  kp : ∀ b o, μ0 b = some o → μ b = some o
  fc : μ0 pc = none
  fs : μ0 ps = none
  fl : μ0 lk = none
  n1 : lk ≠ pc
  n2 : lk ≠ ps
  n3 : lk ≠ t
theorem pr_told {s : TS} (hm : -10000000000000000000000000000000000000000 ≤ s.m ∧ s.m ≤ 10000000000000000000000000000000000000000) (hl : -10000000000000000000000000000000000000000 ≤ s.l ∧ s.l ≤ 10000000000000000000000000000000000000000) : Pr 1 20000 (toldD s) := by
  refine .lst (b := 1921) (m := 3) (fun x hx => ?_) (Nat.le_refl _) (by decide)
  simp only [List.mem_cons, List.not_mem_nil, or_false] at hx
  rcases hx with rfl | rfl | rfl
  · exact pr_int (nat_lt (by omega) (by omega))
  · exact pr_int (nat_lt (by omega) (by omega))
  · exact pr_bl
section
variable {K : PySem.W.Frag} {mg : Str → Option Value} {a : Ads} {μ0 μ : Sto} {t pc ps lk : Addr} {ask : D} {c : Cal} {at_ load : Int} {n k : Nat}
theorem Lg.told (h : Lg a μ0 μ t pc ps lk ask c at_ load n k) {Q : QD} {E : ExD} (q : Q (toldD (lstS c at_ load k)) μ) : F_law_told K a [.raw (.ref t)] μ Q E :=
  ⟨_, rfl, t, pc, ps, ask, .non, _, _, _, rfl, lss_last ▸ h.tk, q⟩
theorem Lg.undo (h : Lg a μ0 μ t pc ps lk ask c at_ load n (k + 1)) {Q : QD} {E : ExD} (q : ∀ μ', Lg a μ0 μ' t pc ps lk ask c at_ load n k → Q .non μ') : F_Ticket_undo K a [.raw (.ref t)] μ Q E := by
  refine ⟨t, pc, ps, ask, .non, _, _, rfl, h.tk, .inr ⟨_, _, _, _, lcs_succ, lss_succ, fun μ' h' e => q μ' ?_⟩⟩
  refine ⟨h', ?_, fun b o hb => ?_, h.fc, h.fs, h.fl, h.n1, h.n2, h.n3⟩
  · rw [e lk h.n1 h.n2]; exact h.fk
  · rw [e b (fun z => by rw [z, h.fc] at hb; cases hb) (fun z => by rw [z, h.fs] at hb; cases hb)]; exact h.kp b o hb
theorem Lg.pr (h : CalOk c) (hl : 5000 ≤ load) (hl2 : load ≤ 10 ^ 20) (ha : -10 ^ 35 ≤ at_) (ha2 : at_ ≤ 10 ^ 35) (hk : k ≤ 100) : Pr 1 20000 (toldD (lstS c at_ load k)) := by
  have h1 := lstS_m c at_ load k
  have h2 := lstS_l h at_ load hl k hk
  exact pr_told (by omega) (by omega)
theorem pr_lcs (ha : -10 ^ 35 ≤ at_) (ha2 : at_ ≤ 10 ^ 35) (hk : k ≤ 100) : Pr 2 1000000 (.lst (lcs at_ k)) := by
  refine .lst (b := 6000) (m := 100) (fun x hx => ?_) (by simp [lcs]; omega) (by decide)
  obtain ⟨j, hj, rfl⟩ := List.mem_map.mp hx
  have := List.mem_range.mp hj
  refine .tup (b := 1921) (m := 3) (fun y hy => ?_) (Nat.le_refl _) (by decide)
  simp only [List.mem_cons, List.not_mem_nil, or_false] at hy
  rcases hy with rfl | rfl | rfl
  · exact .str (by decide +kernel)
  · exact pr_int (nat_lt (by omega) (by omega))
  · exact pr_int (nat_lt (by omega) (by omega))
end

end T64

namespace T64
open PySem PySem.Spec PyProof.Rows L2 TL
section
variable {K : PySem.W.Frag} {mg : Str → Option Value} {a : Ads} {μ0 μ : Sto} {t pc ps lk : Addr} {ask : D} {c : Cal} {at_ load : Int} {n k : Nat} {Q : QD} {E : ExD}
theorem Lg.sub (h : Lg a μ0 μ t pc ps lk ask c at_ load n k) : TL.Sub μ0 μ := h.kp
abbrev lgS (a : Ads) (c : Cal) (at_ load : Int) (n : Nat) (t lk : Addr) (x6 x7 x8 : Option D) : SD := [some (calD a c), some (.int at_), some (.int load), some (.int n), some (.raw (.ref t)), some (.raw (.ref lk)), x6, x7, x8]
theorem long_8 (h : Lg a μ0 μ t pc ps lk ask c at_ load n 0) (hn : 1 ≤ n) (hc : CalOk c) (hl : 5000 ≤ load) (hl2 : load ≤ 10 ^ 20) (ha : -10 ^ 35 ≤ at_) (ha2 : at_ ≤ 10 ^ 35) {x6 x7 x8 : Option D} (q : Q (.bl true) μ0) :
    m_law_long_8 K a (endD Q E) (lgS a c at_ load n t lk x6 x7 x8) μ := by
  unfold m_law_long_8
  walk_at "gk"
  refine h.told ?_
  walk_at "gk"
  have pr := Lg.pr (k := 0) hc hl hl2 ha ha2 (by omega)
  refine ⟨_, 1, 20000, rfl, .inl ⟨_, rfl⟩, pr, by decide, by decide, ?_⟩
  walk_at "gk"
  have e0 : L2.atI (llk c at_ load n) 0 = some (toldD (lstS c at_ load 0)) := at_nonneg (by omega) (by
    unfold llk
    rw [Int.toNat_zero, List.getElem?_map, List.getElem?_range (by omega)]
    rfl)
  rw [g_ix (viewQ_ref h.fk) e0]
  walk_at "gk"
  refine ⟨_, 1, 20000, rfl, .inl ⟨_, rfl⟩, pr, by decide, by decide, ?_⟩
  walk_at "gk"
  rw [if_pos (by simp)]
  exact ⟨t, pc, ps, ask, .non, _, rfl, h.tk, ⟨μ0, h.sub, q⟩⟩
theorem long_7 (h : Lg a μ0 μ t pc ps lk ask c at_ load n k) (hn : 1 ≤ n) (hk : k ≤ 40) (hc : CalOk c) (hl : 5000 ≤ load) (hl2 : load ≤ 10 ^ 20) (ha : -10 ^ 35 ≤ at_) (ha2 : at_ ≤ 10 ^ 35) {x6 x8 : Option D} (q : Q (.bl true) μ0) :
    m_law_long_7 K a (endD Q E) (lgS a c at_ load n t lk x6 (some (.int k)) x8) μ := by
  unfold m_law_long_7
  walk_at "gk"
  unfold mFor
  walk_at "gk"
  refine ⟨by omega, by omega, ?_⟩
  refine ⟨fun i σ' μ' => i ≤ k ∧ ∃ x, σ' = lgS a c at_ load n t lk x (some (.int k)) x8 ∧ Lg a μ0 μ' t pc ps lk ask c at_ load n (k - i), ⟨by omega, _, rfl, h⟩, ?_, ?_⟩
  · rintro i d σ' μ' hd ⟨hi, x, rfl, hg⟩
    obtain ⟨rfl, hi2⟩ := rngD_get hd
    rw [Int.toNat_natCast] at hi2
    walk_at "gk"
    refine ⟨_, _, _, viewI_ref hg.tk.t, rfl, no_undo, ?_⟩
    have e : k - i = (k - (i + 1)) + 1 := by omega
    rw [e] at hg
    refine hg.undo fun μ2 h2 => ?_
    walk_at "gk"
    exact Wk.mk ⟨by omega, _, rfl, h2⟩
  · rintro σ' μ' ⟨hi, x, rfl, hg⟩
    rw [rngD_len, Int.toNat_natCast, Nat.sub_self] at hg
    exact long_8 hg hn hc hl hl2 ha ha2 q
theorem lcs_eq : (List.range k).map (fun (j : Nat) => D.tup [.str "enlarge", .int (0 + (j : Int)), .int (at_ + (0 + (j : Int)))]) = lcs at_ k := by
  unfold lcs enlargeD
  refine List.map_congr_left fun j _ => ?_
  rw [Int.zero_add]
theorem long_5 (h : Lg a μ0 μ t pc ps lk ask c at_ load n k) (hn : 1 ≤ n) (hk : k ≤ 40) (hc : CalOk c) (hl : 5000 ≤ load) (hl2 : load ≤ 10 ^ 20) (ha : -10 ^ 35 ≤ at_) (ha2 : at_ ≤ 10 ^ 35) {x6 x8 : Option D} (q : Q (.bl true) μ0) :
    m_law_long_5 K a (endD Q E) (lgS a c at_ load n t lk x6 (some (.int k)) x8) μ := by
  unfold m_law_long_5
  walk_at "gk"
  unfold mLc
  walk_at "gk"
  refine ⟨by omega, by omega, ?_⟩
  refine ⟨fun i acc μ' => μ' = μ ∧ acc = (List.range i).map (fun (j : Nat) => D.tup [.str "enlarge", .int (0 + (j : Int)), .int (at_ + (0 + (j : Int)))]), ⟨rfl, rfl⟩, ?_, ?_⟩
  · rintro i d acc μ' hd ⟨rfl, rfl⟩
    obtain ⟨rfl, hi2⟩ := rngD_get hd
    rw [Int.toNat_natCast] at hi2
    simp only [wipeD]
    walk_at "gk"
    refine ⟨le_size (by decide), by simp [sizeLine_eq]; omega, ?_⟩
    rw [List.range_succ, List.map_append]
    rfl
  · rintro acc μ' ⟨rfl, rfl⟩
    rw [rngD_len, Int.toNat_natCast, lcs_eq]
    try walk_at "gk"
    refine ⟨_, _, _, viewI_ref h.tk.t, rfl, no_story, t, pc, ps, ask, .non, _, _, rfl, h.tk, fun p hp => ?_⟩
    rw [h_fz sset_same, sdel_sset hp]
    walk_at "gk"
    have pr := pr_lcs (k := k) ha ha2 (by omega)
    refine ⟨_, 2, 1000000, rfl, .inl ⟨_, rfl⟩, pr, by decide, by decide, ?_⟩
    walk_at "gk"
    refine ⟨_, 2, 1000000, rfl, .inl ⟨_, rfl⟩, pr, by decide, by decide, ?_⟩
    walk_at "gk"
    rw [if_neg (by simp)]
    exact long_7 h hn hk hc hl hl2 ha ha2 q
theorem long_4 (h : Lg a μ0 μ t pc ps lk ask c at_ load n k) (hn : 1 ≤ n) (hkn : k < n) (hk : k ≤ 40) (hc : CalOk c) (hl : 5000 ≤ load) (hl2 : load ≤ 10 ^ 20) (ha : -10 ^ 35 ≤ at_) (ha2 : at_ ≤ 10 ^ 35) {x6 x8 : Option D} (q : Q (.bl true) μ0) :
    m_law_long_4 K a (endD Q E) (lgS a c at_ load n t lk x6 (some (.int k)) x8) μ := by
  unfold m_law_long_4
  walk_at "gk"
  refine h.told ?_
  walk_at "gk"
  have pr := Lg.pr (k := k) hc hl hl2 ha ha2 (by omega)
  refine ⟨_, 1, 20000, rfl, .inl ⟨_, rfl⟩, pr, by decide, by decide, ?_⟩
  walk_at "gk"
  have e0 : L2.atI (llk c at_ load n) (k : Int) = some (toldD (lstS c at_ load k)) := at_nonneg (by omega) (by
    unfold llk
    rw [Int.toNat_natCast, List.getElem?_map, List.getElem?_range (by omega)]
    rfl)
  rw [g_ix (viewQ_ref h.fk) e0]
  walk_at "gk"
  refine ⟨_, 1, 20000, rfl, .inl ⟨_, rfl⟩, pr, by decide, by decide, ?_⟩
  walk_at "gk"
  rw [if_neg (by simp)]
  refine ⟨_, _, _, _, rfl, viewI_ref h.tk.t, rfl, rfl, t, pc, ps, ask, .non, _, _, rfl, h.tk, k, ?_, by omega, ?_⟩
  · simp [lcs]
  walk_at "gk"
  rw [if_neg (by simp)]
  exact long_5 h hn hk hc hl hl2 ha ha2 q
theorem long_2 (h : Lg a μ0 μ t pc ps lk ask c at_ load n n) (hn : 1 ≤ n) (hn2 : n ≤ 40) (hc : CalOk c) (hl : 5000 ≤ load) (hl2 : load ≤ 10 ^ 20) (ha : -10 ^ 35 ≤ at_) (ha2 : at_ ≤ 10 ^ 35) {x6 x7 x8 : Option D} (q : Q (.bl true) μ0) :
    m_law_long_2 K a (endD Q E) (lgS a c at_ load n t lk x6 x7 x8) μ := by
  unfold m_law_long_2
  walk_at "gk"
  refine ⟨div_small (by decide) (by decide), ?_⟩
  unfold mFor
  walk_at "gk"
  have eh : (n : Int) / 2 = ((n / 2 : Nat) : Int) := by omega
  refine ⟨by omega, by omega, ?_⟩
  rw [eh]
  refine ⟨fun i σ' μ' => i ≤ n - n / 2 ∧ ∃ x, σ' = lgS a c at_ load n t lk x (some (.int ((n / 2 : Nat) : Int))) x8 ∧ Lg a μ0 μ' t pc ps lk ask c at_ load n (n - i), ⟨by omega, _, rfl, h⟩, ?_, ?_⟩
  · rintro i d σ' μ' hd ⟨hi, x, rfl, hg⟩
    obtain ⟨rfl, hi2⟩ := rngD_get hd
    have hi3 : i < n - n / 2 := by omega
    walk_at "gk"
    refine ⟨_, _, _, viewI_ref hg.tk.t, rfl, no_undo, ?_⟩
    have e : n - i = (n - (i + 1)) + 1 := by omega
    rw [e] at hg
    refine hg.undo fun μ2 h2 => ?_
    walk_at "gk"
    exact Wk.mk ⟨by omega, _, rfl, h2⟩
  · rintro σ' μ' ⟨hi, x, rfl, hg⟩
    rw [rngD_len] at hg
    have e : n - ((n : Int) - ((n / 2 : Nat) : Int)).toNat = n / 2 := by omega
    rw [e] at hg
    exact long_4 hg hn (by omega) (by omega) hc hl hl2 ha ha2 q
theorem sem_law_long (T : Txt K mg a) (ds : List D) (μ : Sto) (Q : QD) (E : ExD) (h : F_law_long K a ds μ Q E) : m_law_long K a (endD Q E) (startD ["made", "at", "load", "many", "ticket", "looks", "turn", "half", "want"] ds) μ := by
  obtain ⟨c, at_, load, n, rfl, hc, hn, hn2, hl, hl2, ha, ha2, q⟩ := h
  unfold m_law_long
  walk_at "gk"
  intro t ht
  refine ⟨t, c, load, at_, rfl, by omega, sset_same, fun μ1 pc ps hT hk hpc hps => ⟨rfl, ?_⟩⟩
  unfold mkI
  dsimp only
  walk_at "gk"
  refine ⟨Nat.zero_le _, fun lk hlk => ?_⟩
  have npc : pc ≠ t := hT.tpc.symm
  have nps : ps ≠ t := hT.tps.symm
  rw [sset_ne npc] at hpc
  rw [sset_ne nps] at hps
  have n1 : lk ≠ pc := fun e => by rw [e, hT.c] at hlk; cases hlk
  have n2 : lk ≠ ps := fun e => by rw [e, hT.s] at hlk; cases hlk
  have n3 : lk ≠ t := fun e => by rw [e, hT.t] at hlk; cases hlk
  have flk : μ lk = none := by rw [hk lk n3 n1 n2, sset_ne n3] at hlk; exact hlk
  have hg : Lg a μ (sset μ1 lk (.lst [])) t pc ps lk (.tup [calD a c, .int load, .int at_]) c at_ load 0 0 := by
    refine ⟨hT.keep (sset_ne n3.symm) (sset_ne n1.symm) (sset_ne n2.symm), sset_same, fun b o hb => ?_, hpc, hps, flk, n1, n2, n3⟩
    rw [sset_ne (fun z => by rw [z, flk] at hb; cases hb), hk b (fun z => by rw [z, ht] at hb; cases hb) (fun z => by rw [z, hpc] at hb; cases hb) (fun z => by rw [z, hps] at hb; cases hb), sset_ne (fun z => by rw [z, ht] at hb; cases hb)]
    exact hb
  try walk_at "gk"
  unfold mFor
  walk_at "gk"
  refine ⟨by omega, by omega, ?_⟩
  refine ⟨fun i σ' μ' => i ≤ n ∧ ∃ x, σ' = lgS a c at_ load n t lk x none none ∧ Lg a μ μ' t pc ps lk (.tup [calD a c, .int load, .int at_]) c at_ load i i, ⟨by omega, _, rfl, hg⟩, ?_, ?_⟩
  · rintro i d σ' μ' hd ⟨hi, x, rfl, hg⟩
    obtain ⟨rfl, hi2⟩ := rngD_get hd
    rw [Int.toNat_natCast] at hi2
    walk_at "gk"
    refine ⟨lk, rfl, ⟨_, hg.fk⟩, ?_⟩
    refine hg.told ?_
    walk_at "gk"
    refine ⟨_, hg.fk, by simp [llk, sizeLine_eq]; omega, ?_⟩
    rw [← llk_succ]
    have tk2 := (hg.tk.keep (μ' := sset μ' lk (.lst (llk c at_ load (i + 1)))) (sset_ne n3.symm) (sset_ne n1.symm) (sset_ne n2.symm))
    refine ⟨_, _, _, viewI_ref tk2.t, rfl, no_enlarge, ?_⟩
    have hb := lstS_l hc.ok at_ load hl i (by omega)
    have hm := lstS_m c at_ load i
    have hcc := lstS_c c at_ load i
    have hst := left_step (s := lstS c at_ load i) (m := at_ + i) (by rw [hcc.1]; exact hc.ok) hcc.2 hm.2.1 (by omega) (by omega)
    rw [lss_last] at tk2
    refine ⟨_, (0 : Int) + i, at_ + ((0 : Int) + i), rfl, t, pc, ps, _, .non, _, _, _, rfl, tk2, ?_⟩
    rw [Int.zero_add]
    refine ⟨by rw [hcc.1]; exact hc.ok, hm.2.1, by omega, by omega, by simp [lcs]; omega, by simp; omega, fun μ2 h2 e2 => ?_⟩
    walk_at "gk"
    refine Wk.mk ⟨by omega, _, rfl, ⟨?_, ?_, ?_, hg.fc, hg.fs, hg.fl, n1, n2, n3⟩⟩
    · rw [lcs_succ, lss_succ, lss_last]
      have e : (⟨(lstS c at_ load i).c, leftV (lstS c at_ load i) (at_ + i) + i, at_ + i, (lstS c at_ load i).p⟩ : TS) = lstS c at_ load (i + 1) := by
        rw [hcc.1, hcc.2]
        rfl
      rw [e] at h2
      exact h2
    · rw [e2 lk n1 n2, sset_same]
    · intro b o hb'
      rw [e2 b (fun z => by rw [z, hpc] at hb'; cases hb') (fun z => by rw [z, hps] at hb'; cases hb'), sset_ne (fun z => by rw [z, flk] at hb'; cases hb')]
      exact hg.kp b o hb'
  · rintro σ' μ' ⟨hi, x, rfl, hg⟩
    rw [rngD_len, Int.toNat_natCast] at hg
    exact long_2 hg hn hn2 hc.ok hl hl2 ha ha2 q
end

end T64

namespace T64
open PySem PySem.Spec PyProof.Rows L2 TL
structure Gs (c0 c1 : Cal) (at_ load sp : Int) (j : Nat) (s : TS) : Prop where
  c : s.c = realC c0 ∨ s.c = realC c1
  m : at_ ≤ s.m ∧ s.m ≤ sp
  l1 : load - 3 * (s.m - at_) ≤ s.l
  l2 : s.l ≤ load + 9 * j
structure Fr0 (c0 c1 : Cal) (at_ load lim : Int) : Prop where
  c0 : CalB c0
  c1 : CalB c1
  a1 : -10 ^ 34 ≤ at_
  a2 : at_ ≤ 10 ^ 34
  l1 : 5000 ≤ load
  l2 : load ≤ 10 ^ 20
  b1 : -10000000000000000000000000000000000000000 ≤ lim
  b2 : lim ≤ 10000000000000000000000000000000000000000
theorem CalB.real {c : Cal} (h : CalB c) : CalOk (realC c) ∧ ∀ p, p ∈ (realC c).ch → -10000000000000000000000000000000000000000 ≤ p.1 ∧ p.1 ≤ 10000000000000000000000000000000000000000 :=
  ⟨⟨h.ok.sp, h.ok.ch.real _⟩, fun p hp => h.b p (List.mem_filter.mp hp).1⟩
section
variable {c0 c1 : Cal} {at_ load lim sp sp' : Int} {j : Nat} {s : TS}
theorem Gs.cal (h : Gs c0 c1 at_ load sp j s) (f : Fr0 c0 c1 at_ load lim) : CalOk s.c ∧ ∀ p, p ∈ s.c.ch → -10000000000000000000000000000000000000000 ≤ p.1 ∧ p.1 ≤ 10000000000000000000000000000000000000000 := by
  rcases h.c with e | e
  · rw [e]; exact f.c0.real
  · rw [e]; exact f.c1.real
theorem Gs.stb (h : Gs c0 c1 at_ load sp j s) (f : Fr0 c0 c1 at_ load lim) (hj : j ≤ 20) (hs : sp ≤ at_ + 1000) : StB s := by
  have h1 := h.m
  have h2 := h.l1
  have h3 := h.l2
  have h4 := f.a1
  have h5 := f.a2
  have h6 := f.l1
  have h7 := f.l2
  exact ⟨(h.cal f).1, (h.cal f).2, by omega, by omega⟩
theorem Gs.left (h : Gs c0 c1 at_ load sp j s) (f : Fr0 c0 c1 at_ load lim) {m : Int} (hm : s.m ≤ m) (hs : m ≤ at_ + 1000) : 0 < leftV s m ∧ load - 3 * (m - at_) ≤ leftV s m ∧ leftV s m ≤ s.l := by
  have h1 := h.m
  have h2 := h.l1
  have h6 := f.l1
  have hw := work_le (h.cal f).1 hm
  unfold leftV
  split
  · omega
  · omega
theorem Gs.mono (h : Gs c0 c1 at_ load sp j s) (hs : sp ≤ sp') : Gs c0 c1 at_ load sp' j s := ⟨h.c, ⟨h.m.1, Int.le_trans h.m.2 hs⟩, h.l1, h.l2⟩
end
structure Ft (a : Ads) (μ : Sto) (pw t pc ps pk pl : Addr) (ask : D) (n : Nat) (cs : List D) (ss : List TS) (ks ls : List D) : Prop where
  w : ∃ w, μ pw = some (.lst w) ∧ Wl w n
  tk : Tk a μ t pc ps ask .non cs ss
  k : μ pk = some (.lst ks)
  l : μ pl = some (.lst ls)
  ne : [pw, pc, ps, pk, pl].Nodup
structure Sq (c0 c1 : Cal) (at_ load sp lim : Int) (a : Ads) (cs : List D) (ss : List TS) (ls : List D) (k : Nat) : Prop where
  l1 : cs.length = k
  l2 : ss.length = k + 1
  c : ∀ x, x ∈ cs → IsCall a x
  g : ∀ (j : Nat) s, ss[j]? = some s → Gs c0 c1 at_ load sp j s
  o : ∀ (j : Nat) s, ss[j]? = some s → ls[j]? = some (.str (pyD (lookD s j lim)).shown)
section
variable {K : PySem.W.Frag} {mg : Str → Option Value} {a : Ads} {μ : Sto} {pw t pc ps pk pl : Addr} {ask : D} {n k i : Nat} {cs ks ls : List D} {ss : List TS} {c0 c1 : Cal} {at_ load lim sp : Int} {Q : QD} {E : ExD} {s : TS}
theorem look_of (tk : Tk a μ t pc ps ask .non cs (ss ++ [s])) (hb : StB s) (h1 : -10000000000000000000000000000000000000000 ≤ lim) (h2 : lim ≤ 10000000000000000000000000000000000000000) (hn : cs.length ≤ 1000) (q : Q (.str (pyD (lookD s cs.length lim)).shown) μ) : F_law_look K a [.raw (.ref t), .int lim] μ Q E :=
  ⟨_, lim, rfl, t, pc, ps, ask, .non, cs, ss, s, rfl, tk, hb, h1, h2, hn, q⟩
theorem take_last {α : Type} {xs : List α} {i : Nat} {x : α} (h : xs[i]? = some x) : xs.take (i + 1) = xs.take i ++ [x] := by
  rw [List.take_succ, h]
  rfl
theorem cut_last {α : Type} {xs : List α} : cutN xs none (some (-1)) = xs.dropLast := by
  unfold cutN
  have e : HT.sIx xs.length 0 none = 0 := rfl
  have e2 : HT.sIx xs.length xs.length (some (-1)) = xs.length - 1 := by
    show (if (-1 : Int) < 0 then ((-1 : Int) + (xs.length : Int)).toNat else min (-1 : Int).toNat xs.length) = xs.length - 1
    rw [if_pos (by omega)]
    omega
  rw [e, e2, List.dropLast_eq_take]
  simp
theorem cutD_N {xs : List D} {lo hi : Option Int} : cutD xs lo hi = cutN xs lo hi := rfl
abbrev ftS (pw t pk pl : Addr) (x1 x2 : Option D) (c0 c1 : Cal) (at_ spot load lim : Int) (x11 x12 : Option D) : SD :=
  [some (.raw (.ref pw)), x1, x2, some (.lst [calsD c0, calsD c1]), some (.int at_), some (.int spot), some (.int load), some (.raw (.ref t)), some (.int lim), some (.raw (.ref pk)), some (.raw (.ref pl)), x11, x12]
theorem fits_13 {x1 x2 x11 x12 : Option D} {spot : Int} (f : Fr0 c0 c1 at_ load lim) (tk : Tk a μ t pc ps ask .non [] [s]) (hs : StB s) (hl : μ pl = some (.lst ls)) (ho : ls[0]? = some (.str (pyD (lookD s 0 lim)).shown)) (q : ∀ μ', Q (.bl true) μ') :
    m_law_fits_13 K a (endD Q E) (ftS pw t pk pl x1 x2 c0 c1 at_ spot load lim x11 x12) μ := by
  unfold m_law_fits_13
  walk_at "gk"
  refine ⟨t, pc, ps, ask, .non, _, rfl, tk, ?_⟩
  walk_at "gk"
  refine ⟨t, pc, ps, ask, .non, _, rfl, tk, ?_⟩
  walk_at "gk"
  try rw [if_pos trivial]
  refine look_of (ss := []) tk hs f.b1 f.b2 (Nat.zero_le _) ?_
  walk_at "gk"
  rw [g_ix (viewQ_ref hl) (show L2.atI ls 0 = some _ from at_nonneg (i := 0) (by omega) ho)]
  walk_at "gk"
  rw [decide_eq_true trivial]
  exact wQ.mk (q _)
end

end T64

namespace T64
open PySem PySem.Spec PyProof.Rows L2 TL
section
variable {K : PySem.W.Frag} {mg : Str → Option Value} {a : Ads} {μ : Sto} {pw t pc ps pk pl : Addr} {ask : D} {n k i : Nat} {cs ks ls : List D} {ss : List TS} {c0 c1 : Cal} {at_ load lim sp : Int} {Q : QD} {E : ExD} {s : TS}
theorem undo_of (tk : Tk a μ t pc ps ask .non (cs ++ [d]) (ss ++ [s])) (q : ∀ μ', Tk a μ' t pc ps ask .non cs ss → Same2 μ μ' pc ps → Q .non μ') : F_Ticket_undo K a [.raw (.ref t)] μ Q E :=
  ⟨t, pc, ps, ask, .non, _, _, rfl, tk, .inr ⟨_, _, _, _, rfl, rfl, q⟩⟩
theorem story_of (tk : Tk a μ t pc ps ask .non cs ss) (q : ∀ p, μ p = none → Q (.raw (.ref p)) (sset μ p (.lst cs))) : F_Ticket_story K a [.raw (.ref t)] μ Q E :=
  ⟨t, pc, ps, ask, .non, cs, ss, rfl, tk, q⟩
structure Bk (a : Ads) (μ : Sto) (t pc ps pl : Addr) (ask : D) (cs : List D) (ss : List TS) (ls : List D) (q : Addr) (ks : List D) : Prop where
  tk : Tk a μ t pc ps ask .non cs ss
  l : μ pl = some (.lst ls)
  k : μ q = some (.lst ks)
  n1 : pl ≠ pc
  n2 : pl ≠ ps
  n3 : q ≠ pc
  n4 : q ≠ ps
theorem Bk.undo {d : D} {q : Addr} (h : Bk a μ t pc ps pl ask (cs ++ [d]) (ss ++ [s]) ls q ks) (k : ∀ μ', Bk a μ' t pc ps pl ask cs ss ls q ks → Q .non μ') : F_Ticket_undo K a [.raw (.ref t)] μ Q E :=
  undo_of h.tk fun μ' h' e => k μ' ⟨h', by rw [e pl h.n1 h.n2]; exact h.l, by rw [e q h.n3 h.n4]; exact h.k, h.n1, h.n2, h.n3, h.n4⟩
theorem Bk.new {q p : Addr} {o : MO} (h : Bk a μ t pc ps pl ask cs ss ls q ks) (hp : μ p = none) : Bk a (sset μ p o) t pc ps pl ask cs ss ls q ks ∧ p ≠ pc ∧ p ≠ ps := by
  have e1 : p ≠ t := fun e => by rw [e, h.tk.t] at hp; cases hp
  have e2 : p ≠ pc := fun e => by rw [e, h.tk.c] at hp; cases hp
  have e3 : p ≠ ps := fun e => by rw [e, h.tk.s] at hp; cases hp
  have e4 : p ≠ pl := fun e => by rw [e, h.l] at hp; cases hp
  have e5 : p ≠ q := fun e => by rw [e, h.k] at hp; cases hp
  exact ⟨⟨h.tk.keep (sset_ne e1.symm) (sset_ne e2.symm) (sset_ne e3.symm), by rw [sset_ne e4.symm]; exact h.l, by rw [sset_ne e5.symm]; exact h.k, h.n1, h.n2, h.n3, h.n4⟩, e2, e3⟩
theorem fits_11 {x1 x2 x11 x12 : Option D} {spot : Int} {dd : D} {sx : TS} (f : Fr0 c0 c1 at_ load lim) (hk : 1 ≤ k) (hk2 : k ≤ 10) (S : Sq c0 c1 at_ load sp lim a cs ss ls k) (hsp : sp ≤ at_ + 1000) (hsx : dd = enlargeD 1 spot) (hspot : -10000000000000000000000000000000000000000 ≤ spot ∧ spot ≤ 10000000000000000000000000000000000000000)
    (h : Bk a μ t pc ps pl ask (cs.take (k - 1) ++ [dd]) (ss.take k ++ [sx]) ls pk cs) (q : ∀ μ', Q (.bl true) μ') :
    m_law_fits_11 K a (endD Q E) (ftS pw t pk pl x1 x2 c0 c1 at_ spot load lim x11 x12) μ := by
  have hc1 := S.l1
  have hc2 := S.l2
  unfold m_law_fits_11
  try walk_at "gk"
  refine ⟨_, _, _, viewI_ref h.tk.t, rfl, no_story, story_of h.tk fun p hp => ?_⟩
  obtain ⟨h2, _, _⟩ := h.new (o := .lst (cs.take (k - 1) ++ [dd])) hp
  try walk_at "gk"
  rw [view_ref h2.k]
  dsimp only
  rw [cutD_N, cut_last]
  have ed : cs.dropLast = cs.take (k - 1) := by rw [List.dropLast_eq_take, hc1]
  rw [ed]
  try walk_at "gk"
  refine ⟨le_size (by decide), le_size (by decide), ?_⟩
  unfold rAddL
  rw [viewM_lst, viewM_lst]
  dsimp only
  refine ⟨le_size (by simp; omega), ?_⟩
  try walk_at "gk"
  refine ⟨_, _, cs.take (k - 1) ++ [dd], rfl, viewM_ref sset_same, by rw [viewM_lst, hsx]; rfl, fun x hx => ?_, ?_⟩
  · rcases List.mem_append.mp hx with hx | hx
    · exact S.c x (List.mem_of_mem_take hx)
    · rw [List.mem_singleton.mp hx, hsx]
      exact ⟨spot, hspot, .inr (.inr (.inl ⟨1, rfl⟩))⟩
  try walk_at "gk"
  rw [if_neg (by decide)]
  unfold mFor
  try walk_at "gk"
  rw [g_len (viewQ_ref h2.k)]
  try walk_at "gk"
  refine ⟨by omega, by omega, ?_⟩
  rw [Int.toNat_natCast]
  have ei : cs.take (k - 0) = cs := by rw [Nat.sub_zero, List.take_of_length_le (by omega)]
  refine ⟨fun i σ' μ' => i ≤ k ∧ ∃ x11 p, σ' = ftS pw t p pl x1 x2 c0 c1 at_ spot load lim x11 x12 ∧ ∃ C Sx, Bk a μ' t pc ps pl ask C Sx ls p (cs.take (k - i)) ∧ (i < k → ∃ dd sx, C = cs.take (k - i - 1) ++ [dd] ∧ Sx = ss.take (k - i) ++ [sx]) ∧ (i = k → C = [] ∧ Sx = ss.take 1),
    ⟨by omega, _, pk, rfl, _, _, by rw [ei]; exact h2, fun _ => ⟨dd, sx, rfl, rfl⟩, fun e => by omega⟩, ?_, ?_⟩
  · rintro i d σ' μ' hd ⟨hi, x11, p, rfl, C, Sx, hB, hC, _⟩
    obtain ⟨rfl, hi2⟩ := rngD_get hd
    rw [hc1] at hi2
    obtain ⟨d2, s2, rfl, rfl⟩ := hC hi2
    try walk_at "gk"
    refine ⟨_, _, _, viewI_ref hB.tk.t, rfl, no_undo, hB.undo fun μ1 h1 => ?_⟩
    try walk_at "gk"
    try rw [if_neg (by decide)]
    rw [view_ref h1.k]
    dsimp only
    rw [cutD_N, cut_last]
    have ed : (cs.take (k - i)).dropLast = cs.take (k - i - 1) := by
      rw [List.dropLast_eq_take, List.length_take, List.take_take, hc1]
      congr 1
      omega
    rw [ed]
    try rw [g_mkT]
    intro p2 hp2
    obtain ⟨h3, m1, m2⟩ := h1.new (o := .lst (cs.take (k - i - 1))) hp2
    try walk_at "gk"
    -- the look
    obtain ⟨s3, hs3⟩ : ∃ s3, ss[k - i - 1]? = some s3 := ⟨ss[k - i - 1]'(by omega), List.getElem?_eq_getElem _⟩
    have e3 : ss.take (k - i) = ss.take (k - i - 1) ++ [s3] := by
      have := take_last hs3
      have e : k - i - 1 + 1 = k - i := by omega
      rw [e] at this
      exact this
    have tk3 := h3.tk
    rw [e3] at tk3
    have g3 := S.g _ _ hs3
    have lc : (cs.take (k - i - 1)).length = k - i - 1 := by rw [List.length_take]; omega
    refine look_of tk3 (g3.stb f (by omega) hsp) f.b1 f.b2 (by omega) ?_
    try walk_at "gk"
    rw [g_len (viewQ_ref (sset_same (a := p2)))]
    try walk_at "gk"
    rw [lc]
    have o3 := S.o _ _ hs3
    rw [g_ix (viewQ_ref h3.l) (show L2.atI ls ((k - i - 1 : Nat) : Int) = some _ from at_nonneg (by omega) (by rw [Int.toNat_natCast]; exact o3))]
    try walk_at "gk"
    rw [if_neg (by simp)]
    refine ⟨_, _, _, viewI_ref h3.tk.t, rfl, no_story, story_of h3.tk fun p3 hp3 => ?_⟩
    obtain ⟨h4, _, _⟩ := h3.new (o := .lst (cs.take (k - i - 1))) hp3
    have e32 : p3 ≠ p2 := fun e => by rw [e, sset_same] at hp3; cases hp3
    try walk_at "gk"
    refine ⟨_, _, cs.take (k - i - 1), rfl, viewM_ref sset_same, viewM_ref (by rw [sset_ne e32.symm, sset_same]), fun x hx => S.c x (List.mem_of_mem_take hx), ?_⟩
    try walk_at "gk"
    rw [if_neg (by decide)]
    refine Wk.mk ⟨by omega, _, p2, rfl, _, _, ⟨h4.tk, h4.l, by rw [sset_ne e32.symm, sset_same]; rfl, h4.n1, h4.n2, m1, m2⟩, fun hlt => ?_, fun he => ?_⟩
    · obtain ⟨d5, hd5⟩ : ∃ d5, cs[k - (i + 1) - 1]? = some d5 := ⟨cs[k - (i + 1) - 1]'(by omega), List.getElem?_eq_getElem _⟩
      refine ⟨d5, s3, ?_, ?_⟩
      · have := take_last hd5
        have e : k - (i + 1) - 1 + 1 = k - i - 1 := by omega
        rw [e] at this
        exact this
      · rw [e3]
        congr 2
    · have e : k - i = 1 := by omega
      rw [e]
      exact ⟨rfl, rfl⟩
  · rintro σ' μ' ⟨hi, x11, p, rfl, C, Sx, hB, _, hC⟩
    rw [rngD_len, hc1] at hC
    obtain ⟨rfl, rfl⟩ := hC rfl
    obtain ⟨s0, hs0⟩ : ∃ s0, ss[0]? = some s0 := ⟨ss[0]'(by omega), List.getElem?_eq_getElem _⟩
    have e0 : ss.take 1 = [s0] := take_last hs0
    have tk0 := hB.tk
    rw [e0] at tk0
    exact fits_13 f tk0 ((S.g _ _ hs0).stb f (by omega) hsp) hB.l (S.o _ _ hs0) q
end

end T64

namespace T64
open PySem PySem.Spec PyProof.Rows L2 TL
theorem snoc_get {α : Type} {xs : List α} {x y : α} {j : Nat} (h : (xs ++ [x])[j]? = some y) : xs[j]? = some y ∨ (j = xs.length ∧ y = x) := by
  by_cases c : j < xs.length
  · rw [List.getElem?_append_left c] at h
    exact .inl h
  · rw [List.getElem?_append_right (by omega)] at h
    have e : j - xs.length = 0 := by
      have := (List.getElem?_eq_some_iff.mp h).1
      simp at this
      omega
    rw [e] at h
    simp at h
    exact .inr ⟨by omega, h.symm⟩
section
variable {K : PySem.W.Frag} {mg : Str → Option Value} {a : Ads} {μ : Sto} {pw t pc ps pk pl : Addr} {ask : D} {n k i : Nat} {cs ks ls : List D} {ss : List TS} {c0 c1 : Cal} {at_ load lim sp : Int} {Q : QD} {E : ExD} {s : TS}
theorem Bk.same {μ' : Sto} {q : Addr} {cs' : List D} {ss' : List TS} (h : Bk a μ t pc ps pl ask cs ss ls q ks) (tk : Tk a μ' t pc ps ask .non cs' ss') (e : Same2 μ μ' pc ps) : Bk a μ' t pc ps pl ask cs' ss' ls q ks :=
  ⟨tk, by rw [e pl h.n1 h.n2]; exact h.l, by rw [e q h.n3 h.n4]; exact h.k, h.n1, h.n2, h.n3, h.n4⟩
theorem fits_9 {x1 x2 x11 x12 : Option D} {spot : Int} (f : Fr0 c0 c1 at_ load lim) (hk : 1 ≤ k) (hk2 : k ≤ 10) (S : Sq c0 c1 at_ load spot lim a cs ss ls k) (hsp : spot ≤ at_ + 1000) (hsp2 : at_ ≤ spot)
    (h : Bk a μ t pc ps pl ask cs ss ls pk cs) (q : ∀ μ', Q (.bl true) μ') :
    m_law_fits_9 K a (endD Q E) (ftS pw t pk pl x1 x2 c0 c1 at_ spot load lim x11 x12) μ := by
  have hc1 := S.l1
  have hc2 := S.l2
  have f1 := f.a1
  have f2 := f.a2
  obtain ⟨d, hd⟩ : ∃ d, cs[k - 1]? = some d := ⟨cs[k - 1]'(by omega), List.getElem?_eq_getElem _⟩
  obtain ⟨sk, hsk⟩ : ∃ s, ss[k]? = some s := ⟨ss[k]'(by omega), List.getElem?_eq_getElem _⟩
  obtain ⟨s1, hs1⟩ : ∃ s, ss[k - 1]? = some s := ⟨ss[k - 1]'(by omega), List.getElem?_eq_getElem _⟩
  have ec : cs = cs.take (k - 1) ++ [d] := by
    have := take_last hd
    have e : k - 1 + 1 = k := by omega
    rw [e, List.take_of_length_le (by omega)] at this
    exact this
  have es : ss = ss.take k ++ [sk] := by
    have := take_last hsk
    rw [List.take_of_length_le (by omega)] at this
    exact this
  have es1 : ss.take k = ss.take (k - 1) ++ [s1] := by
    have := take_last hs1
    have e : k - 1 + 1 = k := by omega
    rw [e] at this
    exact this
  unfold m_law_fits_9
  walk_at "gk"
  have tk0 : Tk a μ t pc ps ask .non (cs.take (k - 1) ++ [d]) (ss.take k ++ [sk]) := by rw [← ec, ← es]; exact h.tk
  refine ⟨_, _, _, viewI_ref h.tk.t, rfl, no_undo, undo_of tk0 fun μ1 h1 e1 => ?_⟩
  have b1 := h.same h1 e1
  try walk_at "gk"
  refine ⟨_, _, _, viewI_ref b1.tk.t, rfl, no_enlarge, ?_⟩
  have g1 := S.g _ _ hs1
  have hl := g1.left f g1.m.2 hsp
  rw [es1] at h1
  refine ⟨_, 1, spot, rfl, t, pc, ps, ask, .non, _, _, s1, rfl, h1, (g1.cal f).1, g1.m.2, by decide, by omega, by rw [List.length_take]; omega, by simp; omega, fun μ2 h2 e2 => ?_⟩
  try walk_at "gk"
  rw [← es1] at h2
  exact fits_11 f hk hk2 S hsp rfl ⟨by omega, by omega⟩ (b1.same h2 e2) q
theorem fits_7 {x1 x2 x9 x10 x11 x12 : Option D} {s0 : TS} {w : List D} (T : Txt K mg a) (f : Fr0 c0 c1 at_ load lim) (hs0 : s0 = ⟨realC c0, load, at_, false⟩) (tk : Tk a μ t pc ps ask .non [] [s0]) (hw0 : μ pw = some (.lst w)) (hw : Wl w n) (hn : n ≤ 90000)
    (n1 : pw ≠ pc) (n2 : pw ≠ ps) (q : ∀ μ', Q (.bl true) μ') :
    m_law_fits_7 K a (endD Q E) [some (.raw (.ref pw)), x1, x2, some (.lst [calsD c0, calsD c1]), some (.int at_), some (.int at_), some (.int load), some (.raw (.ref t)), some (.int lim), x9, x10, x11, x12] μ := by
  have f1 := f.a1
  have f2 := f.a2
  have f3 := f.l1
  have f4 := f.l2
  have g0 : Gs c0 c1 at_ load at_ 0 s0 := by
    rw [hs0]
    exact ⟨.inl rfl, ⟨Int.le_refl _, Int.le_refl _⟩, by show load - 3 * (at_ - at_) ≤ load; omega, by show load ≤ load + 9 * ((0 : Nat) : Int); omega⟩
  unfold m_law_fits_7
  walk_at "gk"
  refine ⟨Nat.zero_le _, fun pk hpk => ?_⟩
  have k1 : pk ≠ t := fun e => by rw [e, tk.t] at hpk; cases hpk
  have k2 : pk ≠ pc := fun e => by rw [e, tk.c] at hpk; cases hpk
  have k3 : pk ≠ ps := fun e => by rw [e, tk.s] at hpk; cases hpk
  have k4 : pk ≠ pw := fun e => by rw [e, hw0] at hpk; cases hpk
  have tk1 : Tk a (sset μ pk (.lst [])) t pc ps ask .non ([] : List D) ([] ++ [s0]) := tk.keep (sset_ne k1.symm) (sset_ne k2.symm) (sset_ne k3.symm)
  try walk_at "gk"
  refine look_of tk1 (g0.stb f (by omega) (by omega)) f.b1 f.b2 (Nat.zero_le _) ?_
  walk_at "gk"
  refine ⟨le_size (by decide), fun pl hpl => ?_⟩
  have p0 : pl ≠ pk := fun e => by rw [e, sset_same] at hpl; cases hpl
  have p1 : pl ≠ t := fun e => by rw [e, tk1.t] at hpl; cases hpl
  have p2 : pl ≠ pc := fun e => by rw [e, tk1.c] at hpl; cases hpl
  have p3 : pl ≠ ps := fun e => by rw [e, tk1.s] at hpl; cases hpl
  have p4 : pl ≠ pw := fun e => by rw [e, sset_ne k4.symm, hw0] at hpl; cases hpl
  have tk2 : Tk a (sset (sset μ pk (.lst [])) pl (.lst [.str (pyD (lookD s0 0 lim)).shown])) t pc ps ask .non ([] : List D) ([] ++ [s0]) := tk1.keep (sset_ne p1.symm) (sset_ne p2.symm) (sset_ne p3.symm)
  try walk_at "gk"
  unfold mFor
  walk_at "gk"
  refine ⟨_, _, rfl, by omega, by omega, pw, n, w, rfl, by omega, (by rw [sset_ne p4.symm, sset_ne k4.symm]; exact hw0), hw, ?_⟩
  rintro r _ r0 r1 ⟨w1, hw1, rfl⟩
  walk_at "gk"
  refine ⟨by omega, by omega, ?_⟩
  refine ⟨fun i σ' μ' => ∃ spot cs ss ls x11 x12 w, σ' = ftS pw t pk pl x1 x2 c0 c1 at_ spot load lim x11 x12 ∧ Bk a μ' t pc ps pl ask cs ss ls pk cs ∧ μ' pw = some (.lst w) ∧ Wl w (n + 1 + 3 * i) ∧
      Sq c0 c1 at_ load spot lim a cs ss ls i ∧ spot ≤ at_ + 40 * i ∧ at_ ≤ spot ∧ ls.length = i + 1 ∧ i ≤ 8, ⟨at_, [], [s0], [.str (pyD (lookD s0 0 lim)).shown], x11, x12, w1, rfl, ⟨?_, ?_, ?_, p2, p3, k2, k3⟩, sset_same, hw1.mono (by omega), ⟨rfl, rfl, fun x hx => (by cases hx), ?_, ?_⟩, by omega, Int.le_refl _, rfl, by omega⟩, ?_, ?_⟩
  · have m1 : pw ≠ t := fun e => by
      have h1 := tk.t
      rw [← e, hw0] at h1
      cases h1
    exact tk2.keep (sset_ne m1.symm) (sset_ne n1.symm) (sset_ne n2.symm)
  · rw [sset_ne p4, sset_same]
  · rw [sset_ne k4, sset_ne p0.symm, sset_same]
  · intro j s hj
    cases j with
    | zero => cases hj; exact g0
    | succ j => simp at hj
  · intro j s hj
    cases j with
    | zero => cases hj; rfl
    | succ j => simp at hj
  · rintro i d σ' μ' hd ⟨spot, cs, ss, ls, x11, x12, w2, rfl, hB, hw2, hW2, S, hsp, hsp2, hll, hi⟩
    obtain ⟨rfl, hi2⟩ := rngD_get hd
    have hc1 := S.l1
    have hc2 := S.l2
    walk_at "gk"
    refine ⟨_, _, rfl, by omega, by omega, pw, (n+1+3*i), w2, rfl, by omega, hw2, hW2, ?_⟩
    rintro dl _ d0 d1 ⟨w3, hw3, rfl⟩
    walk_at "gk"
    have nw : pw ≠ t := fun e => by
      have h1 := hB.tk.t
      rw [← e, hw2] at h1
      cases h1
    obtain ⟨s, hs⟩ : ∃ s, ss[i]? = some s := ⟨ss[i]'(by omega), List.getElem?_eq_getElem _⟩
    have es : ss = ss.take i ++ [s] := by
      have := take_last hs
      rw [List.take_of_length_le (by omega)] at this
      exact this
    have gs := S.g _ _ hs
    have hsm : s.m ≤ spot + dl := by have := gs.m.2; omega
    have hl := gs.left f hsm (by omega)
    have e1 : sset μ' pw (.lst w3) pk = some (.lst cs) := by rw [sset_ne k4]; exact hB.k
    refine ⟨pk, rfl, ⟨_, e1⟩, ?_⟩
    have tk3 : Tk a (sset μ' pw (.lst w3)) t pc ps ask .non cs (ss.take i ++ [s]) := by
      rw [← es]
      exact hB.tk.keep (sset_ne nw.symm) (sset_ne n1.symm) (sset_ne n2.symm)
    refine ⟨_, pw, _, w3, spot + dl, c0, c1, t, pc, ps, ask, .non, cs, ss.take i, s, rfl, rfl, tk3, sset_same, hw3, by omega, n1, n2, f.c0, f.c1, (gs.cal f).1, hsm, ⟨by omega, by omega⟩, hl.1, by omega, by rw [List.length_take]; omega, ?_⟩
    intro d' s' w4 μ4 hcall hm4 hc4 hl4 hl5 tk4 hw4 hW4 keep
    rw [← es] at tk4
    try walk_at "gk"
    have e4 : μ4 pk = some (.lst cs) := by rw [keep pk k4 k2 k3]; exact e1
    refine ⟨_, e4, by rw [sizeLine_eq]; omega, ?_⟩
    have e5 : μ4 pl = some (.lst ls) := by rw [keep pl p4 p2 p3, sset_ne p4]; exact hB.l
    have tk5 : Tk a (sset μ4 pk (.lst (cs ++ [d']))) t pc ps ask .non (cs ++ [d']) (ss ++ [s']) := tk4.keep (sset_ne k1.symm) (sset_ne k2.symm) (sset_ne k3.symm)
    try walk_at "gk"
    refine ⟨pl, rfl, ⟨_, (by rw [sset_ne p0]; exact e5)⟩, ?_⟩
    have g' : Gs c0 c1 at_ load (spot + dl) (i + 1) s' := by
      refine ⟨?_, ⟨by omega, by omega⟩, by rw [hm4]; omega, ?_⟩
      · rcases hc4 with e | e | e
        · rw [e]; exact gs.c
        · exact .inl e
        · exact .inr e
      · have := gs.l2
        omega
    refine look_of tk5 (g'.stb f (by omega) (by omega)) f.b1 f.b2 (by simp; omega) ?_
    try walk_at "gk"
    refine ⟨ls, by rw [sset_ne p0]; exact e5, by rw [sizeLine_eq]; omega, ?_⟩
    have tk6 := tk5.keep (μ' := sset (sset μ4 pk (.lst (cs ++ [d']))) pl (.lst (ls ++ [.str (pyD (lookD s' (cs ++ [d']).length lim)).shown]))) (sset_ne p1.symm) (sset_ne p2.symm) (sset_ne p3.symm)
    have hB6 : Bk a (sset (sset μ4 pk (.lst (cs ++ [d']))) pl (.lst (ls ++ [.str (pyD (lookD s' (cs ++ [d']).length lim)).shown]))) t pc ps pl ask (cs ++ [d']) (ss ++ [s']) (ls ++ [.str (pyD (lookD s' (cs ++ [d']).length lim)).shown]) pk (cs ++ [d']) :=
      ⟨tk6, sset_same, by rw [sset_ne p0.symm, sset_same], p2, p3, k2, k3⟩
    have S' : Sq c0 c1 at_ load (spot + dl) lim a (cs ++ [d']) (ss ++ [s']) (ls ++ [.str (pyD (lookD s' (cs ++ [d']).length lim)).shown]) (i + 1) := by
      refine ⟨by simp; omega, by simp; omega, fun x hx => ?_, fun j sj hj => ?_, fun j sj hj => ?_⟩
      · rcases List.mem_append.mp hx with hx | hx
        · exact S.c x hx
        · rw [List.mem_singleton.mp hx]; exact hcall
      · rcases snoc_get hj with hj | ⟨rfl, rfl⟩
        · exact (S.g _ _ hj).mono (by omega)
        · rw [hc2]; exact g'
      · rcases snoc_get hj with hj | ⟨rfl, rfl⟩
        · have := S.o _ _ hj
          rw [List.getElem?_append_left (List.getElem?_eq_some_iff.mp this).1]
          exact this
        · rw [List.getElem?_append_right (by omega)]
          have e : ss.length - ls.length = 0 := by omega
          rw [e]
          have e7 : (cs ++ [d']).length = ss.length := by simp; omega
          rw [e7]
          rfl
    try walk_at "gk"
    refine ⟨_, _, _, viewI_ref tk6.t, rfl, no_story, story_of tk6 fun ph hph => ?_⟩
    obtain ⟨hB7, h1, h2⟩ := hB6.new (o := .lst (cs ++ [d'])) hph
    have hwph : ph ≠ pw := fun e => by
      rw [e, sset_ne p4.symm, sset_ne k4.symm, hw4] at hph
      cases hph
    have hpk' : pk ≠ ph := fun e => by
      rw [← e, sset_ne p0.symm, sset_same] at hph
      cases hph
    try walk_at "gk"
    refine ⟨_, _, cs ++ [d'], rfl, viewM_ref sset_same, viewM_ref hB7.k, S'.c, ?_⟩
    try walk_at "gk"
    try rw [if_neg (by decide)]
    refine ⟨ph, _, rfl, sset_same, ?_⟩
    rw [sset_sset]
    obtain ⟨hB8, _, _⟩ := hB6.new (o := .lst []) hph
    refine Wk.mk ⟨spot + dl, cs ++ [d'], ss ++ [s'], _, _, _, w4, rfl, hB8, by rw [sset_ne hwph.symm, sset_ne p4.symm, sset_ne k4.symm]; exact hw4, hW4.mono (by omega), S', by omega, by omega, by simp; omega, by omega⟩
  · rintro σ' μ' ⟨spot, cs, ss, ls, x11, x12, w2, rfl, hB, hw2, hW2, S, hsp, hsp2, hll, hi⟩
    rw [rngD_len] at *
    exact fits_9 f (by omega) (by omega) S (by omega) hsp2 hB q
end

end T64

namespace T64
open PySem PySem.Spec PyProof.Rows L2 TL
theorem ChB.cal {sp : List Int} {ch : List (Int × Int)} (hs : SpOk sp) (h : ChB ch 3) : CalB ⟨sp, ch⟩ := ⟨⟨hs, h.ok⟩, fun p hp => by have := h.b p hp; omega, by have := h.l; show ch.length ≤ 100; omega⟩
theorem ChB.mono {ch : List (Int × Int)} {n m : Nat} (h : ChB ch n) (l : n ≤ m) : ChB ch m := ⟨h.ok, Nat.le_trans h.l l, h.b⟩
section
variable {K : PySem.W.Frag} {mg : Str → Option Value} {a : Ads}
theorem sem_law_fits (T : Txt K mg a) (ds : List D) (μ : Sto) (Q : QD) (E : ExD) (h : F_law_fits K a ds μ Q E) : m_law_fits K a (endD Q E) (startD ["well", "size", "twin", "lists", "at", "spot", "load", "ticket", "bound", "calls", "looks", "turn", "held"] ds) μ := by
  obtain ⟨p, w, rfl, hp, hw, q⟩ := h
  unfold m_law_fits
  walk_at "gk"
  refine ⟨_, _, rfl, by omega, by omega, p, 0, w, rfl, by omega, hp, hw, ?_⟩
  rintro r1 _ a1 b1 ⟨w1, hw1, rfl⟩
  walk_at "gk"
  refine ⟨_, _, rfl, by omega, by omega, p, (0+1), w1, rfl, by omega, sset_same, hw1, ?_⟩
  rintro r2 _ a2 b2 ⟨w2, hw2, rfl⟩
  walk_at "gk"
  obtain ⟨sz, hsz⟩ : ∃ sz : Nat, (sz : Int) = 1 + r1 := ⟨(1 + r1).toNat, by omega⟩
  obtain ⟨tw, htw⟩ : ∃ tw : Nat, (tw : Int) = 1 + r2 := ⟨(1 + r2).toNat, by omega⟩
  rw [← hsz, ← htw]
  refine ⟨_, sz, rfl, by omega, by omega, p, 2, w2, rfl, by omega, sset_same, hw2, ?_⟩
  rintro sp0 _ hs0 _ ⟨w3, hw3, rfl⟩
  walk_at "gk"
  refine ⟨_, sz, 3, rfl, by omega, by omega, by omega, p, _, w3, rfl, by omega, sset_same, hw3, ?_⟩
  rintro ch0 _ hc0 ⟨w4, hw4, rfl⟩
  walk_at "gk"
  refine ⟨le_size (by decide), _, tw, rfl, by omega, by omega, p, _, w4, rfl, by omega, sset_same, hw4, ?_⟩
  rintro sp1 _ hs1 _ ⟨w5, hw5, rfl⟩
  walk_at "gk"
  refine ⟨_, tw, 3, rfl, by omega, by omega, by omega, p, _, w5, rfl, by omega, sset_same, hw5, ?_⟩
  rintro ch1 _ hc1 ⟨w6, hw6, rfl⟩
  walk_at "gk"
  refine ⟨le_size (by decide), le_size (by decide), ?_⟩
  refine ⟨_, ch0, 30, rfl, hc0.mono (by omega), by decide, by decide, p, _, w6, rfl, by omega, sset_same, hw6, ?_⟩
  rintro at_ _ v1 v2 ⟨w7, hw7, rfl⟩
  walk_at "gk"
  have c10 : CPowW 10 15 := pow_small (by decide) (by decide) (by decide)
  have c16 : CPowW 10 16 := pow_small (by decide) (by decide) (by decide)
  refine ⟨c10, ?_⟩
  refine ⟨_, _, rfl, by omega, by omega, p, _, w7, rfl, by omega, sset_same, hw7, ?_⟩
  rintro x _ x1 x2 ⟨w8, hw8, rfl⟩
  walk_at "gk"
  have B0 : CalB ⟨sp0, ch0⟩ := ChB.cal hs0 hc0
  have B1 : CalB ⟨sp1, ch1⟩ := ChB.cal hs1 hc1
  refine mk_cal (c := ⟨sp0, ch0⟩) B0 ?_
  walk_at "gk"
  intro t ht
  refine ⟨t, realC ⟨sp0, ch0⟩, 5000 + x, at_, rfl, by omega, sset_same, fun μ1 pc ps hT hk hpc hps => ⟨rfl, ?_⟩⟩
  unfold mkI
  dsimp only
  have n1 : p ≠ t := fun e => by rw [← e, sset_same] at ht; cases ht
  have n2 : p ≠ pc := fun e => by rw [← e, sset_ne n1, sset_same] at hpc; cases hpc
  have n3 : p ≠ ps := fun e => by rw [← e, sset_ne n1, sset_same] at hps; cases hps
  have hp1 : μ1 p = some (.lst w8) := by rw [hk p n1 n2 n3, sset_ne n1, sset_same]
  walk_at "gk"
  refine ⟨c16, ?_⟩
  refine ⟨_, _, rfl, by omega, by omega, p, _, w8, rfl, by omega, hp1, hw8, ?_⟩
  rintro y _ y1 y2 ⟨w9, hw9, rfl⟩
  walk_at "gk"
  refine ⟨_, _, rfl, by omega, by omega, p, _, w9, rfl, by omega, sset_same, hw9, ?_⟩
  rintro z _ z1 z2 ⟨w10, hw10, rfl⟩
  walk_at "gk"
  by_cases zz : z = 0
  · rw [if_pos (by simpa using zz)]
    refine mk_cal (c := ⟨sp0, ch0⟩) B0 ?_
    walk_at "gk"
    refine ⟨_, _, rfl, by omega, by omega, p, _, w10, rfl, by omega, sset_same, hw10, ?_⟩
    rintro m _ m1 m2 ⟨w11, hw11, rfl⟩
    walk_at "gk"
    obtain ⟨mn, hmn⟩ : ∃ mn : Nat, (mn : Int) = 1 + m := ⟨(1 + m).toNat, by omega⟩
    rw [← hmn]
    have B2 : CalB (realC ⟨sp0, ch0⟩) := ⟨B0.real.1, B0.real.2, Nat.le_trans (List.length_filter_le _ _) B0.l⟩
    exact ⟨_, at_, 5000 + x, mn, rfl, B2, by omega, by omega, by omega, by omega, by omega, by omega, wQ.mk (q _)⟩
  · rw [if_neg (by simpa using zz)]
    have f : Fr0 ⟨sp0, ch0⟩ ⟨sp1, ch1⟩ at_ (5000 + x) (at_ + (5000 + x) + y) := ⟨B0, B1, by omega, by omega, by omega, by omega, by omega, by omega⟩
    exact fits_7 (pc := pc) (ps := ps) T f rfl (hT.keep (sset_ne n1.symm) (sset_ne n2.symm) (sset_ne n3.symm)) sset_same hw10 (by omega) n2 n3 q
theorem sem_law (T : Txt K mg a) (ds : List D) (μ : Sto) (Q : QD) (E : ExD) (h : F_law K a ds μ Q E) : m_law K a (endD Q E) (startD ["script", "place", "well", "turn"] ds) μ := by
  obtain ⟨ns, rfl, hl, q⟩ := h
  unfold m_law
  walk_at "gk"
  unfold mFor
  walk_at "gk"
  rw [g_len (viewQ_scr)]
  walk_at "gk"
  unfold rI2
  dsimp only
  walk_at "gk"
  refine ⟨by omega, by omega, ?_⟩
  refine ⟨fun i σ' μ' => ∃ x y z, σ' = [some (.scr (ns.map D.int)), x, y, z], ⟨_, _, _, rfl⟩, ?_, ?_⟩
  · rintro i d σ' μ' hd ⟨x, y, z, rfl⟩
    obtain ⟨rfl, hi⟩ := rngD_get hd
    walk_at "gk"
    refine ⟨ns, i, by rw [Int.zero_add], by omega, fun p w hp hw => ?_⟩
    walk_at "gk"
    refine ⟨by decide, by decide, ?_⟩
    refine ⟨fun j σ2 μ2 => (j = 0 ∧ σ2 = [some (.scr (ns.map D.int)), some (.int (0 + i)), some (.raw (.ref p)), z] ∧ μ2 = sset μ' p (.lst w)) ∨ (0 < j ∧ ∃ x y z, σ2 = [some (.scr (ns.map D.int)), x, y, z]), .inl ⟨rfl, rfl, rfl⟩, ?_, ?_⟩
    · rintro j d σ2 μ2 hd2 hP
      obtain ⟨rfl, hj⟩ := rngD_get hd2
      have hj0 : j = 0 := by
        have : Int.toNat 1 = 1 := rfl
        omega
      subst hj0
      rcases hP with ⟨_, rfl, rfl⟩ | ⟨hn, _⟩
      · walk_at "gk"
        refine ⟨p, w, rfl, sset_same, hw, fun μ3 => ?_⟩
        walk_at "gk"
        rw [if_neg (by decide)]
        exact Wk.mk (.inr ⟨by omega, _, _, _, rfl⟩)
      · omega
    · rintro σ2 μ2 hP
      rcases hP with ⟨h0, _⟩ | ⟨_, x, y, z, rfl⟩
      · rw [rngD_len] at h0
        exact absurd h0 (by decide)
      · exact Wk.mk ⟨_, _, _, rfl⟩
  · rintro σ' μ' ⟨x, y, z, rfl⟩
    exact wQ.mk (q _)
end

end T64

namespace T64
open PySem PySem.Spec PyProof.Rows L2 TL
section
variable {K : PySem.W.Frag} {mg : Str → Option Value} {a : Ads}
end
end T64

namespace T64
open PySem PySem.Spec PyProof.Rows L2 TL
section
variable {P : Program} {w : World} {K : PySem.W.Frag} {mg : Str → Option Value} {base : Heap} {a : Ads}
theorem sc_DueError_init : FnScope ["self", "value"] ["self", "value"] (defScope s_DueError_init) := ⟨rfl, rfl, rfl, by decide +kernel, rfl, by decide +kernel, by decide +kernel⟩
theorem due_t {X : Cx} (T : Txt X.K X.mg a) : DueT X a.f_DueError_init a.d_DueError_init 1 := ⟨due_ok T.f_DueError_init sc_DueError_init (fun _ _ _ _ _ _ => pss_one (ps_ost (pv 0) (pv 1) rfl)), T.tI, T.b_DueError_init⟩
theorem sc_check_speeds : FnScope ["speeds", "index", "speed"] ["speeds"] (defScope s_check_speeds) := ⟨rfl, rfl, rfl, by decide +kernel, rfl, by decide +kernel, by decide +kernel⟩
theorem ok_check_speeds (T : Txt K mg a) : FnG P w K mg base 4 a.f_check_speeds a.d_check_speeds ["speeds"] (TSp K 1 (F_check_speeds K a)) :=
  okT T.f_check_speeds sc_check_speeds fun s H cdv A outer E hr hg tk hp =>
    have nd := sc_check_speeds.nd
    have rm : RmG 3 _ := ⟨hr, hg⟩
    ⟨m_check_speeds K a, (sjs_cons (sj_if (tj_not (tj_chain op_le op_le ej_int (ej_callB cd_len rfl T.z_len BT.len (aj_cons (ej_name 0) aj_nil)) (ej_glob (d := .int 12) (v := .int 12) rfl T.g_LONGEST_WEEK.choose_spec.1 T.g_LONGEST_WEEK.choose_spec.2 (fun _ _ _ => rp_int'))))
  (sjs_one sj_never)
  sjs_nil)
  (sjs_cons (sj_for hp rfl (ij_enum rfl T.z_enumerate (ej_name 0)) (gj_tup rfl (gjs_cons (gj_name 1 nd) (gjs_cons (gj_name 2 nd) gjs_nil)))
  (sjs_one (sj_if (tj_not (tj_chain op_le op_le ej_int (ej_name 2) (ej_glob (d := .int 3) (v := .int 3) rfl T.g_FASTEST.choose_spec.1 T.g_FASTEST.choose_spec.2 (fun _ _ _ => rp_int'))))
  (sjs_one sj_never)
  sjs_nil)))
  (sjs_one (sj_if (tj_cmp od_eq (ej_callB (cd_max rfl) rfl T.z_max BT.max (aj_cons (ej_name 0) aj_nil)) ej_int)
  (sjs_one sj_never)
  sjs_nil)))), fun ds μ Q' E' hl h => sem_check_speeds T ds μ Q' E' h⟩
theorem sc_check_changes : FnScope ["changes", "index", "moment", "speed"] ["changes"] (defScope s_check_changes) := ⟨rfl, rfl, rfl, by decide +kernel, rfl, by decide +kernel, by decide +kernel⟩
theorem ok_check_changes (T : Txt K mg a) : FnG P w K mg base 4 a.f_check_changes a.d_check_changes ["changes"] (TSp K 1 (F_check_changes K a)) :=
  okT T.f_check_changes sc_check_changes fun s H cdv A outer E hr hg tk hp =>
    have nd := sc_check_changes.nd
    have rm : RmG 3 _ := ⟨hr, hg⟩
    ⟨m_check_changes K a, (sjs_one (sj_for hp rfl (ij_enum rfl T.z_enumerate (ej_name 0)) (gj_tup rfl (gjs_cons (gj_name 1 nd) (gjs_cons (gj_tup rfl (gjs_cons (gj_name 2 nd) (gjs_cons (gj_name 3 nd) gjs_nil))) gjs_nil)))
  (sjs_cons (sj_if (tj_not (tj_chain op_le op_le ej_int (ej_name 3) (ej_glob (d := .int 3) (v := .int 3) rfl T.g_FASTEST.choose_spec.1 T.g_FASTEST.choose_spec.2 (fun _ _ _ => rp_int'))))
  (sjs_one sj_never)
  sjs_nil)
  (sjs_one (sj_if (WJ.tj (wj_and (tj_cmp od_gt (ej_name 1) ej_int) (wj_and1 (tj_cmp od_le (ej_name 2) (ej_ix (ej_ix (ej_name 0) (ej_op od_sub (ej_name 1) ej_int)) ej_int)))))
  (sjs_one sj_never)
  sjs_nil))))), fun ds μ Q' E' hl h => sem_check_changes T ds μ Q' E' h⟩
theorem sc_Calendar_init : FnScope ["self", "speeds", "changes", "at", "speed"] ["self", "speeds", "changes"] (defScope s_Calendar_init) := ⟨rfl, rfl, rfl, by decide +kernel, rfl, by decide +kernel, by decide +kernel⟩
theorem ok_Calendar_init (T : Txt K mg a) : FnG P w K mg base 8 a.f_Calendar_init a.d_Calendar_init ["self", "speeds", "changes"] (TSp K 3 (F_Calendar_init K a)) :=
  okT T.f_Calendar_init sc_Calendar_init fun s H cdv A outer E hr hg tk hp =>
    have nd := sc_Calendar_init.nd
    have rm : RmG 7 _ := ⟨hr, hg⟩
    ⟨m_Calendar_init K a, (sjs_cons (sj_expr (ej_call (ok_check_speeds T) (rm.mono (by decide)) rfl T.g_check_speeds T.f_check_speeds.kp T.b_check_speeds tk (aj_cons (ej_name 1) aj_nil)))
  (sjs_cons (sj_expr (ej_call (ok_check_changes T) (rm.mono (by decide)) rfl T.g_check_changes T.f_check_changes.kp T.b_check_changes tk (aj_cons (ej_name 2) aj_nil)))
  (sjs_cons (sj_fld T.h_week_speeds (ej_name 0) (ej_callTy cd_tuple rfl T.z_tuple BT.tuple (aj_cons (ej_name 1) aj_nil)))
  (sjs_one (sj_fld T.h_real_changes (ej_name 0) (ej_callTy cd_tuple rfl T.z_tuple BT.tuple (aj_cons (ej_lc (b := false) (own := [(("at" : Str), 3), (("speed" : Str), 4)]) (gv := (gTup K 2 (gCons (gName 3) (gCons (gName 4) gNil)))) rfl nd  (ij_list (ej_name 2)) (blkOk_by (own := [(("at" : Str), 3), (("speed" : Str), 4)]) (N := ["self", "speeds", "changes", "at", "speed"]) (sc := defScope s_Calendar_init) (by decide +kernel)) (fun _ _ _ _ _ => (gw_tup rfl (gws_cons (gw_name 3 nd) (gws_cons (gw_name 4 nd) gws_nil)))) (fun _ _ _ _ _ => (tsj_one (tj_cmp od_ne (ej_ix (ej_name 1) (ej_op od_mod (ej_name 3) (ej_callB cd_len rfl T.z_len BT.len (aj_cons (ej_name 1) aj_nil)))) (ej_name 4)))) (fun _ _ _ _ _ => (ej_tup (aj_cons (ej_name 3) (aj_cons (ej_name 4) aj_nil))))) aj_nil))))))), fun ds μ Q' E' hl h => sem_Calendar_init T ds μ Q' E' h⟩
theorem sc_Calendar_speeds : FnScope ["self"] ["self"] (defScope s_Calendar_speeds) := ⟨rfl, rfl, rfl, by decide +kernel, rfl, by decide +kernel, by decide +kernel⟩
theorem ok_Calendar_speeds (T : Txt K mg a) : FnG P w K mg base 4 a.f_Calendar_speeds a.d_Calendar_speeds ["self"] (TSp K 1 (F_Calendar_speeds K a)) :=
  okT T.f_Calendar_speeds sc_Calendar_speeds fun s H cdv A outer E hr hg tk hp =>
    have nd := sc_Calendar_speeds.nd
    have rm : RmG 3 _ := ⟨hr, hg⟩
    ⟨m_Calendar_speeds K a, (sjs_one (sj_ret (ej_callTy (cd_list false) rfl T.z_list BT.list (aj_cons (ej_fld T.h_week_speeds (ej_name 0)) aj_nil)))), fun ds μ Q' E' hl h => sem_Calendar_speeds T ds μ Q' E' h⟩
theorem pt_Calendar_speeds {X : Cx} (T : Txt X.K X.mg a) : PropT X (· = a.c_Calendar) "speeds" 4 ["self"] (fun _ => F_Calendar_speeds X.K a) := ⟨fun C h => by
  subst h
  exact ⟨T.cl_Calendar, a.p_Calendar_speeds, a.f_Calendar_speeds, a.d_Calendar_speeds, T.pp_Calendar_speeds, ok_Calendar_speeds T, T.b_Calendar_speeds⟩⟩
theorem sc_Calendar_changes : FnScope ["self"] ["self"] (defScope s_Calendar_changes) := ⟨rfl, rfl, rfl, by decide +kernel, rfl, by decide +kernel, by decide +kernel⟩
theorem ok_Calendar_changes (T : Txt K mg a) : FnG P w K mg base 4 a.f_Calendar_changes a.d_Calendar_changes ["self"] (TSp K 1 (F_Calendar_changes K a)) :=
  okT T.f_Calendar_changes sc_Calendar_changes fun s H cdv A outer E hr hg tk hp =>
    have nd := sc_Calendar_changes.nd
    have rm : RmG 3 _ := ⟨hr, hg⟩
    ⟨m_Calendar_changes K a, (sjs_one (sj_ret (ej_callTy (cd_list false) rfl T.z_list BT.list (aj_cons (ej_fld T.h_real_changes (ej_name 0)) aj_nil)))), fun ds μ Q' E' hl h => sem_Calendar_changes T ds μ Q' E' h⟩
theorem pt_Calendar_changes {X : Cx} (T : Txt X.K X.mg a) : PropT X (· = a.c_Calendar) "changes" 4 ["self"] (fun _ => F_Calendar_changes X.K a) := ⟨fun C h => by
  subst h
  exact ⟨T.cl_Calendar, a.p_Calendar_changes, a.f_Calendar_changes, a.d_Calendar_changes, T.pp_Calendar_changes, ok_Calendar_changes T, T.b_Calendar_changes⟩⟩
theorem sc_Calendar_eq : FnScope ["self", "other"] ["self", "other"] (defScope s_Calendar_eq) := ⟨rfl, rfl, rfl, by decide +kernel, rfl, by decide +kernel, by decide +kernel⟩
theorem ok_Calendar_eq (T : Txt K mg a) : FnOk P w K mg base (L2.CX P w) 4 a.f_Calendar_eq a.d_Calendar_eq ["self", "other"] (TSp K 2 (F_Calendar_eq K a)) :=
  okT0 T.f_Calendar_eq sc_Calendar_eq fun s H cdv A outer E hr tk hp =>
    have nd := sc_Calendar_eq.nd
    have rm : RmO 3 _ := ⟨hr⟩
    ⟨m_Calendar_eq K a, (sjs_cons (sj_if (tj_not (tj_val (ej_callB (cd_isiC T.tyc) rfl T.z_isinstance BT.isinstance (aj_cons (ej_name 1) (aj_cons (ej_glob (v := .ref a.c_Calendar) rfl T.c_Calendar rfl (fun _ _ _ => rp_raw')) aj_nil)))))
  (sjs_one (sj_ret ej_bl))
  sjs_nil)
  (sjs_one (sj_ret (ej_and (ej_cmp (od_eqDat (rm.r.mono (by decide))) (ej_fld T.h_week_speeds (ej_name 0)) (ej_fld T.h_week_speeds (ej_name 1))) (ej_one (ej_cmp (od_eqDat (rm.r.mono (by decide))) (ej_fld T.h_real_changes (ej_name 0)) (ej_fld T.h_real_changes (ej_name 1)))))))), fun ds μ Q' E' hl h => sem_Calendar_eq T ds μ Q' E' h⟩
theorem own_eq {X : Cx} (T : Txt X.K X.mg a) : OwnEq X a.c_Calendar 4 (F_Calendar_eq X.K a) := ⟨a.f_Calendar_eq, a.d_Calendar_eq, ["self", "other"], ok_Calendar_eq T, T.mh_Calendar_eq.at_, T.mh_Calendar_eq.fn, T.b_Calendar_eq⟩
theorem sc_work_of_weeks : FnScope ["speeds", "begin", "end", "week", "whole"] ["speeds", "begin", "end"] (defScope s_work_of_weeks) := ⟨rfl, rfl, rfl, by decide +kernel, rfl, by decide +kernel, by decide +kernel⟩
theorem ok_work_of_weeks (T : Txt K mg a) : FnG P w K mg base 4 a.f_work_of_weeks a.d_work_of_weeks ["speeds", "begin", "end"] (TSp K 3 (F_work_of_weeks K a)) :=
  okT T.f_work_of_weeks sc_work_of_weeks fun s H cdv A outer E hr hg tk hp =>
    have nd := sc_work_of_weeks.nd
    have rm : RmG 3 _ := ⟨hr, hg⟩
    ⟨m_work_of_weeks K a, (sjs_cons (sj_set (i := 3) nd (ej_callB cd_len rfl T.z_len BT.len (aj_cons (ej_name 0) aj_nil)))
  (sjs_cons (sj_set (i := 4) nd (ej_op od_mulX (ej_op od_sub (ej_op od_fdiv (ej_name 2) (ej_name 3)) (ej_op od_fdiv (ej_name 1) (ej_name 3))) (ej_callB (cd_sum rfl) rfl T.z_sum BT.sum (aj_cons (ej_name 0) aj_nil))))
  (sjs_one (sj_ret (ej_op od_sub (ej_op od_addI (ej_name 4) (ej_callB (cd_sum rfl) rfl T.z_sum BT.sum (aj_cons (ej_slice false (ej_name 0) oj_none (oj_some (ej_op od_mod (ej_name 2) (ej_name 3)))) aj_nil))) (ej_callB (cd_sum rfl) rfl T.z_sum BT.sum (aj_cons (ej_slice false (ej_name 0) oj_none (oj_some (ej_op od_mod (ej_name 1) (ej_name 3)))) aj_nil))))))), fun ds μ Q' E' hl h => sem_work_of_weeks T ds μ Q' E' h⟩
theorem sc_end_of_weeks : FnScope ["speeds", "begin", "amount", "weeks", "left", "at"] ["speeds", "begin", "amount"] (defScope s_end_of_weeks) := ⟨rfl, rfl, rfl, by decide +kernel, rfl, by decide +kernel, by decide +kernel⟩
theorem ok_end_of_weeks (T : Txt K mg a) : FnG P w K mg base 4 a.f_end_of_weeks a.d_end_of_weeks ["speeds", "begin", "amount"] (TSp K 3 (F_end_of_weeks K a)) :=
  okT T.f_end_of_weeks sc_end_of_weeks fun s H cdv A outer E hr hg tk hp =>
    have nd := sc_end_of_weeks.nd
    have rm : RmG 3 _ := ⟨hr, hg⟩
    ⟨m_end_of_weeks K a, (sjs_cons (sj_if (tj_cmp od_eq (ej_name 2) ej_int)
  (sjs_one (sj_ret (ej_name 1)))
  sjs_nil)
  (sjs_cons (sj_set (i := 3) nd (ej_op od_fdiv (ej_op od_sub (ej_name 2) ej_int) (ej_callB (cd_sum rfl) rfl T.z_sum BT.sum (aj_cons (ej_name 0) aj_nil))))
  (sjs_cons (sj_set (i := 4) nd (ej_op od_sub (ej_name 2) (ej_op od_mulX (ej_name 3) (ej_callB (cd_sum rfl) rfl T.z_sum BT.sum (aj_cons (ej_name 0) aj_nil)))))
  (sjs_cons (sj_set (i := 5) nd (ej_op od_addI (ej_name 1) (ej_op od_mulX (ej_name 3) (ej_callB cd_len rfl T.z_len BT.len (aj_cons (ej_name 0) aj_nil)))))
  (sjs_cons (sj_while hp (tj_cmp od_gt (ej_name 4) ej_int)
  (sjs_cons (sj_aug (i := 4) nd ip_sub (ej_ix (ej_name 0) (ej_op od_mod (ej_name 5) (ej_callB cd_len rfl T.z_len BT.len (aj_cons (ej_name 0) aj_nil)))))
  (sjs_one (sj_aug (i := 5) nd ip_add ej_int))))
  (sjs_one (sj_ret (ej_name 5)))))))), fun ds μ Q' E' hl h => sem_end_of_weeks T ds μ Q' E' h⟩
theorem sc_begin_of_weeks : FnScope ["speeds", "end", "amount", "weeks", "left", "at"] ["speeds", "end", "amount"] (defScope s_begin_of_weeks) := ⟨rfl, rfl, rfl, by decide +kernel, rfl, by decide +kernel, by decide +kernel⟩
theorem ok_begin_of_weeks (T : Txt K mg a) : FnG P w K mg base 4 a.f_begin_of_weeks a.d_begin_of_weeks ["speeds", "end", "amount"] (TSp K 3 (F_begin_of_weeks K a)) :=
  okT T.f_begin_of_weeks sc_begin_of_weeks fun s H cdv A outer E hr hg tk hp =>
    have nd := sc_begin_of_weeks.nd
    have rm : RmG 3 _ := ⟨hr, hg⟩
    ⟨m_begin_of_weeks K a, (sjs_cons (sj_if (tj_cmp od_eq (ej_name 2) ej_int)
  (sjs_one (sj_ret (ej_name 1)))
  sjs_nil)
  (sjs_cons (sj_set (i := 3) nd (ej_op od_fdiv (ej_op od_sub (ej_name 2) ej_int) (ej_callB (cd_sum rfl) rfl T.z_sum BT.sum (aj_cons (ej_name 0) aj_nil))))
  (sjs_cons (sj_set (i := 4) nd (ej_op od_sub (ej_name 2) (ej_op od_mulX (ej_name 3) (ej_callB (cd_sum rfl) rfl T.z_sum BT.sum (aj_cons (ej_name 0) aj_nil)))))
  (sjs_cons (sj_set (i := 5) nd (ej_op od_sub (ej_name 1) (ej_op od_mulX (ej_name 3) (ej_callB cd_len rfl T.z_len BT.len (aj_cons (ej_name 0) aj_nil)))))
  (sjs_cons (sj_while hp (tj_cmp od_gt (ej_name 4) ej_int)
  (sjs_cons (sj_aug (i := 5) nd ip_sub ej_int)
  (sjs_one (sj_aug (i := 4) nd ip_sub (ej_ix (ej_name 0) (ej_op od_mod (ej_name 5) (ej_callB cd_len rfl T.z_len BT.len (aj_cons (ej_name 0) aj_nil))))))))
  (sjs_one (sj_ret (ej_name 5)))))))), fun ds μ Q' E' hl h => sem_begin_of_weeks T ds μ Q' E' h⟩
theorem sc_check_span : FnScope ["begin", "end"] ["begin", "end"] (defScope s_check_span) := ⟨rfl, rfl, rfl, by decide +kernel, rfl, by decide +kernel, by decide +kernel⟩
theorem ok_check_span (T : Txt K mg a) : FnG P w K mg base 4 a.f_check_span a.d_check_span ["begin", "end"] (TSp K 2 (F_check_span K a)) :=
  okT T.f_check_span sc_check_span fun s H cdv A outer E hr hg tk hp =>
    have nd := sc_check_span.nd
    have rm : RmG 3 _ := ⟨hr, hg⟩
    ⟨m_check_span K a, (sjs_one (sj_if (tj_cmp od_lt (ej_name 1) (ej_name 0))
  (sjs_one sj_never)
  sjs_nil)), fun ds μ Q' E' hl h => sem_check_span T ds μ Q' E' h⟩
theorem sc_check_amount : FnScope ["amount"] ["amount"] (defScope s_check_amount) := ⟨rfl, rfl, rfl, by decide +kernel, rfl, by decide +kernel, by decide +kernel⟩
theorem ok_check_amount (T : Txt K mg a) : FnG P w K mg base 4 a.f_check_amount a.d_check_amount ["amount"] (TSp K 1 (F_check_amount K a)) :=
  okT T.f_check_amount sc_check_amount fun s H cdv A outer E hr hg tk hp =>
    have nd := sc_check_amount.nd
    have rm : RmG 3 _ := ⟨hr, hg⟩
    ⟨m_check_amount K a, (sjs_one (sj_if (tj_cmp od_lt (ej_name 0) ej_int)
  (sjs_one sj_never)
  sjs_nil)), fun ds μ Q' E' hl h => sem_check_amount T ds μ Q' E' h⟩
theorem sc_work : FnScope ["calendar", "begin", "end", "speeds", "found", "moment", "speed"] ["calendar", "begin", "end"] (defScope s_work) := ⟨rfl, rfl, rfl, by decide +kernel, rfl, by decide +kernel, by decide +kernel⟩
theorem ok_work (T : Txt K mg a) : FnG P w K mg base 8 a.f_work a.d_work ["calendar", "begin", "end"] (TSp K 3 (F_work K a)) :=
  okT T.f_work sc_work fun s H cdv A outer E hr hg tk hp =>
    have nd := sc_work.nd
    have rm : RmG 7 _ := ⟨hr, hg⟩
    ⟨m_work K a, (sjs_cons (sj_expr (ej_call (ok_check_span T) (rm.mono (by decide)) rfl T.g_check_span T.f_check_span.kp T.b_check_span tk (aj_cons (ej_name 1) (aj_cons (ej_name 2) aj_nil))))
  (sjs_cons (sj_set (i := 3) nd (ej_prop (pt_Calendar_speeds T) (rm.mono (by decide)) (ej_name 0)))
  (sjs_cons (sj_set (i := 4) nd (ej_call (ok_work_of_weeks T) (rm.mono (by decide)) rfl T.g_work_of_weeks T.f_work_of_weeks.kp T.b_work_of_weeks tk (aj_cons (ej_name 3) (aj_cons (ej_name 1) (aj_cons (ej_name 2) aj_nil)))))
  (sjs_cons (sj_for hp rfl (ij_list (ej_prop (pt_Calendar_changes T) (rm.mono (by decide)) (ej_name 0))) (gj_tup rfl (gjs_cons (gj_name 5 nd) (gjs_cons (gj_name 6 nd) gjs_nil)))
  (sjs_one (sj_if (tj_chain op_le op_lt (ej_name 1) (ej_name 5) (ej_name 2))
  (sjs_one (sj_aug (i := 4) nd ip_add (ej_op od_sub (ej_name 6) (ej_ix (ej_name 3) (ej_op od_mod (ej_name 5) (ej_callB cd_len rfl T.z_len BT.len (aj_cons (ej_name 3) aj_nil)))))))
  sjs_nil)))
  (sjs_one (sj_ret (ej_name 4))))))), fun ds μ Q' E' hl h => sem_work T ds μ Q' E' h⟩
theorem sc_due : FnScope ["calendar", "moment", "amount", "speeds", "at", "left", "place", "speed", "done"] ["calendar", "moment", "amount"] (defScope s_due) := ⟨rfl, rfl, rfl, by decide +kernel, rfl, by decide +kernel, by decide +kernel⟩
theorem ok_due (T : Txt K mg a) : FnG P w K mg base 8 a.f_due a.d_due ["calendar", "moment", "amount"] (TSp K 3 (F_due K a)) :=
  okT T.f_due sc_due fun s H cdv A outer E hr hg tk hp =>
    have nd := sc_due.nd
    have rm : RmG 7 _ := ⟨hr, hg⟩
    ⟨m_due K a, (sjs_cons (sj_expr (ej_call (ok_check_amount T) (rm.mono (by decide)) rfl T.g_check_amount T.f_check_amount.kp T.b_check_amount tk (aj_cons (ej_name 2) aj_nil)))
  (sjs_cons (sj_par3 (i := 3) (j := 4) (l := 5) rfl nd (by decide) (by decide) (by decide) (aj_cons (ej_prop (pt_Calendar_speeds T) (rm.mono (by decide)) (ej_name 0)) (aj_cons (ej_name 1) (aj_cons (ej_name 2) aj_nil))))
  (sjs_cons (sj_for hp rfl (ij_list (ej_prop (pt_Calendar_changes T) (rm.mono (by decide)) (ej_name 0))) (gj_tup rfl (gjs_cons (gj_name 6 nd) (gjs_cons (gj_name 7 nd) gjs_nil)))
  (sjs_cons (sj_if (WJ.tj (wj_or (tj_cmp od_lt (ej_name 6) (ej_name 4)) (wj_or1 (tj_cmp od_eq (ej_name 5) ej_int))))
  (sjs_one sj_continue)
  sjs_nil)
  (sjs_cons (sj_set (i := 8) nd (ej_call (ok_work_of_weeks T) (rm.mono (by decide)) rfl T.g_work_of_weeks T.f_work_of_weeks.kp T.b_work_of_weeks tk (aj_cons (ej_name 3) (aj_cons (ej_name 4) (aj_cons (ej_name 6) aj_nil)))))
  (sjs_cons (sj_if (tj_cmp od_ge (ej_name 8) (ej_name 5))
  (sjs_one sj_break)
  sjs_nil)
  (sjs_cons (sj_if (tj_cmp od_ge (ej_op od_addI (ej_name 8) (ej_name 7)) (ej_name 5))
  (sjs_one (sj_ret (ej_op od_addI (ej_name 6) ej_int)))
  sjs_nil)
  (sjs_one (sj_par (i := 4) (j := 5) rfl nd (by decide) (aj_cons (ej_op od_addI (ej_name 6) ej_int) (aj_cons (ej_op od_sub (ej_op od_sub (ej_name 5) (ej_name 8)) (ej_name 7)) aj_nil)))))))))
  (sjs_one (sj_ret (ej_call (ok_end_of_weeks T) (rm.mono (by decide)) rfl T.g_end_of_weeks T.f_end_of_weeks.kp T.b_end_of_weeks tk (aj_cons (ej_name 3) (aj_cons (ej_name 4) (aj_cons (ej_name 5) aj_nil))))))))), fun ds μ Q' E' hl h => sem_due T ds μ Q' E' h⟩
theorem sc_latest : FnScope ["calendar", "moment", "amount", "speeds", "at", "left", "place", "speed", "done"] ["calendar", "moment", "amount"] (defScope s_latest) := ⟨rfl, rfl, rfl, by decide +kernel, rfl, by decide +kernel, by decide +kernel⟩
theorem ok_latest (T : Txt K mg a) : FnG P w K mg base 8 a.f_latest a.d_latest ["calendar", "moment", "amount"] (TSp K 3 (F_latest K a)) :=
  okT T.f_latest sc_latest fun s H cdv A outer E hr hg tk hp =>
    have nd := sc_latest.nd
    have rm : RmG 7 _ := ⟨hr, hg⟩
    ⟨m_latest K a, (sjs_cons (sj_expr (ej_call (ok_check_amount T) (rm.mono (by decide)) rfl T.g_check_amount T.f_check_amount.kp T.b_check_amount tk (aj_cons (ej_name 2) aj_nil)))
  (sjs_cons (sj_par3 (i := 3) (j := 4) (l := 5) rfl nd (by decide) (by decide) (by decide) (aj_cons (ej_prop (pt_Calendar_speeds T) (rm.mono (by decide)) (ej_name 0)) (aj_cons (ej_name 1) (aj_cons (ej_name 2) aj_nil))))
  (sjs_cons (sj_for hp rfl (ij_list (ej_rev false (ej_prop (pt_Calendar_changes T) (rm.mono (by decide)) (ej_name 0)))) (gj_tup rfl (gjs_cons (gj_name 6 nd) (gjs_cons (gj_name 7 nd) gjs_nil)))
  (sjs_cons (sj_if (WJ.tj (wj_or (tj_cmp od_ge (ej_name 6) (ej_name 4)) (wj_or1 (tj_cmp od_eq (ej_name 5) ej_int))))
  (sjs_one sj_continue)
  sjs_nil)
  (sjs_cons (sj_set (i := 8) nd (ej_call (ok_work_of_weeks T) (rm.mono (by decide)) rfl T.g_work_of_weeks T.f_work_of_weeks.kp T.b_work_of_weeks tk (aj_cons (ej_name 3) (aj_cons (ej_op od_addI (ej_name 6) ej_int) (aj_cons (ej_name 4) aj_nil)))))
  (sjs_cons (sj_if (tj_cmp od_ge (ej_name 8) (ej_name 5))
  (sjs_one sj_break)
  sjs_nil)
  (sjs_cons (sj_if (tj_cmp od_ge (ej_op od_addI (ej_name 8) (ej_name 7)) (ej_name 5))
  (sjs_one (sj_ret (ej_name 6)))
  sjs_nil)
  (sjs_one (sj_par (i := 4) (j := 5) rfl nd (by decide) (aj_cons (ej_name 6) (aj_cons (ej_op od_sub (ej_op od_sub (ej_name 5) (ej_name 8)) (ej_name 7)) aj_nil)))))))))
  (sjs_one (sj_ret (ej_call (ok_begin_of_weeks T) (rm.mono (by decide)) rfl T.g_begin_of_weeks T.f_begin_of_weeks.kp T.b_begin_of_weeks tk (aj_cons (ej_name 3) (aj_cons (ej_name 4) (aj_cons (ej_name 5) aj_nil))))))))), fun ds μ Q' E' hl h => sem_latest T ds μ Q' E' h⟩
theorem sc_left_of : FnScope ["state", "moment", "calendar", "left", "begin", "paused"] ["state", "moment"] (defScope s_left_of) := ⟨rfl, rfl, rfl, by decide +kernel, rfl, by decide +kernel, by decide +kernel⟩
theorem ok_left_of (T : Txt K mg a) : FnG P w K mg base 12 a.f_left_of a.d_left_of ["state", "moment"] (TSp K 2 (F_left_of K a)) :=
  okT T.f_left_of sc_left_of fun s H cdv A outer E hr hg tk hp =>
    have nd := sc_left_of.nd
    have rm : RmG 11 _ := ⟨hr, hg⟩
    ⟨m_left_of K a, (sjs_cons (sj_asg (ej_name 0) (gj_tup rfl (gjs_cons (gj_name 2 nd) (gjs_cons (gj_name 3 nd) (gjs_cons (gj_name 4 nd) (gjs_cons (gj_name 5 nd) gjs_nil))))))
  (sjs_cons (sj_if (tj_val (ej_name 5))
  (sjs_one (sj_ret (ej_name 3)))
  sjs_nil)
  (sjs_one (sj_ret (ej_callB (cd_max2 rfl) rfl T.z_max BT.max (aj_cons ej_int (aj_cons (ej_op od_sub (ej_name 3) (ej_call (ok_work T) (rm.mono (by decide)) rfl T.g_work T.f_work.kp T.b_work tk (aj_cons (ej_name 2) (aj_cons (ej_name 4) (aj_cons (ej_name 1) aj_nil))))) aj_nil))))))), fun ds μ Q' E' hl h => sem_left_of T ds μ Q' E' h⟩
theorem sc_Ticket_init : FnScope ["self", "calendar", "amount", "moment"] ["self", "calendar", "amount", "moment"] (defScope s_Ticket_init) := ⟨rfl, rfl, rfl, by decide +kernel, rfl, by decide +kernel, by decide +kernel⟩
theorem ok_Ticket_init (T : Txt K mg a) : FnG P w K mg base 4 a.f_Ticket_init a.d_Ticket_init ["self", "calendar", "amount", "moment"] (TSp K 4 (F_Ticket_init K a)) :=
  okT T.f_Ticket_init sc_Ticket_init fun s H cdv A outer E hr hg tk hp =>
    have nd := sc_Ticket_init.nd
    have rm : RmG 3 _ := ⟨hr, hg⟩
    ⟨m_Ticket_init K a, (sjs_cons (sj_if (tj_cmp od_lt (ej_name 2) ej_int)
  (sjs_one sj_never)
  sjs_nil)
  (sjs_cons (sj_fld T.h_asked (ej_name 0) (ej_tup (aj_cons (ej_name 1) (aj_cons (ej_name 2) (aj_cons (ej_name 3) aj_nil)))))
  (sjs_cons (sj_fld T.h_most (ej_name 0) ej_non)
  (sjs_cons (sj_fld T.h_calls (ej_name 0) (ej_lst true aj_nil))
  (sjs_one (sj_fld T.h_states (ej_name 0) (ej_lst true (aj_cons (ej_tup (aj_cons (ej_name 1) (aj_cons (ej_name 2) (aj_cons (ej_name 3) (aj_cons ej_bl aj_nil))))) aj_nil)))))))), fun ds μ Q' E' hl h => sem_Ticket_init T ds μ Q' E' h⟩
theorem sc_Ticket_moment : FnScope ["self"] ["self"] (defScope s_Ticket_moment) := ⟨rfl, rfl, rfl, by decide +kernel, rfl, by decide +kernel, by decide +kernel⟩
theorem ok_Ticket_moment (T : Txt K mg a) : FnG P w K mg base 4 a.f_Ticket_moment a.d_Ticket_moment ["self"] (TSp K 1 (F_Ticket_moment K a)) :=
  okT T.f_Ticket_moment sc_Ticket_moment fun s H cdv A outer E hr hg tk hp =>
    have nd := sc_Ticket_moment.nd
    have rm : RmG 3 _ := ⟨hr, hg⟩
    ⟨m_Ticket_moment K a, (sjs_one (sj_ret (ej_ix (ej_ix (ej_fld T.h_states (ej_name 0)) (ej_neg ej_int)) ej_int))), fun ds μ Q' E' hl h => sem_Ticket_moment T ds μ Q' E' h⟩
theorem pt_Ticket_moment {X : Cx} (T : Txt X.K X.mg a) : PropT X (· = a.c_Ticket) "moment" 4 ["self"] (fun _ => F_Ticket_moment X.K a) := ⟨fun C h => by
  subst h
  exact ⟨T.cl_Ticket, a.p_Ticket_moment, a.f_Ticket_moment, a.d_Ticket_moment, T.pp_Ticket_moment, ok_Ticket_moment T, T.b_Ticket_moment⟩⟩
theorem sc_Ticket_left : FnScope ["self"] ["self"] (defScope s_Ticket_left) := ⟨rfl, rfl, rfl, by decide +kernel, rfl, by decide +kernel, by decide +kernel⟩
theorem ok_Ticket_left (T : Txt K mg a) : FnG P w K mg base 4 a.f_Ticket_left a.d_Ticket_left ["self"] (TSp K 1 (F_Ticket_left K a)) :=
  okT T.f_Ticket_left sc_Ticket_left fun s H cdv A outer E hr hg tk hp =>
    have nd := sc_Ticket_left.nd
    have rm : RmG 3 _ := ⟨hr, hg⟩
    ⟨m_Ticket_left K a, (sjs_one (sj_ret (ej_ix (ej_ix (ej_fld T.h_states (ej_name 0)) (ej_neg ej_int)) ej_int))), fun ds μ Q' E' hl h => sem_Ticket_left T ds μ Q' E' h⟩
theorem pt_Ticket_left {X : Cx} (T : Txt X.K X.mg a) : PropT X (· = a.c_Ticket) "left" 4 ["self"] (fun _ => F_Ticket_left X.K a) := ⟨fun C h => by
  subst h
  exact ⟨T.cl_Ticket, a.p_Ticket_left, a.f_Ticket_left, a.d_Ticket_left, T.pp_Ticket_left, ok_Ticket_left T, T.b_Ticket_left⟩⟩
theorem sc_Ticket_is_paused : FnScope ["self"] ["self"] (defScope s_Ticket_is_paused) := ⟨rfl, rfl, rfl, by decide +kernel, rfl, by decide +kernel, by decide +kernel⟩
theorem ok_Ticket_is_paused (T : Txt K mg a) : FnG P w K mg base 4 a.f_Ticket_is_paused a.d_Ticket_is_paused ["self"] (TSp K 1 (F_Ticket_is_paused K a)) :=
  okT T.f_Ticket_is_paused sc_Ticket_is_paused fun s H cdv A outer E hr hg tk hp =>
    have nd := sc_Ticket_is_paused.nd
    have rm : RmG 3 _ := ⟨hr, hg⟩
    ⟨m_Ticket_is_paused K a, (sjs_one (sj_ret (ej_ix (ej_ix (ej_fld T.h_states (ej_name 0)) (ej_neg ej_int)) ej_int))), fun ds μ Q' E' hl h => sem_Ticket_is_paused T ds μ Q' E' h⟩
theorem pt_Ticket_is_paused {X : Cx} (T : Txt X.K X.mg a) : PropT X (· = a.c_Ticket) "is_paused" 4 ["self"] (fun _ => F_Ticket_is_paused X.K a) := ⟨fun C h => by
  subst h
  exact ⟨T.cl_Ticket, a.p_Ticket_is_paused, a.f_Ticket_is_paused, a.d_Ticket_is_paused, T.pp_Ticket_is_paused, ok_Ticket_is_paused T, T.b_Ticket_is_paused⟩⟩
theorem sc_Ticket_left_at : FnScope ["self", "moment"] ["self", "moment"] (defScope s_Ticket_left_at) := ⟨rfl, rfl, rfl, by decide +kernel, rfl, by decide +kernel, by decide +kernel⟩
theorem ok_Ticket_left_at (T : Txt K mg a) : FnG P w K mg base 16 a.f_Ticket_left_at a.d_Ticket_left_at ["self", "moment"] (TSp K 2 (F_Ticket_left_at K a)) :=
  okT T.f_Ticket_left_at sc_Ticket_left_at fun s H cdv A outer E hr hg tk hp =>
    have nd := sc_Ticket_left_at.nd
    have rm : RmG 15 _ := ⟨hr, hg⟩
    ⟨m_Ticket_left_at K a, (sjs_cons (sj_if (tj_cmp od_lt (ej_name 1) (ej_ix (ej_ix (ej_fld T.h_states (ej_name 0)) (ej_neg ej_int)) ej_int))
  (sjs_one sj_never)
  sjs_nil)
  (sjs_one (sj_ret (ej_call (ok_left_of T) (rm.mono (by decide)) rfl T.g_left_of T.f_left_of.kp T.b_left_of tk (aj_cons (ej_ix (ej_fld T.h_states (ej_name 0)) (ej_neg ej_int)) (aj_cons (ej_name 1) aj_nil)))))), fun ds μ Q' E' hl h => sem_Ticket_left_at T ds μ Q' E' h⟩
theorem mt_Ticket_left_at {X : Cx} (T : Txt X.K X.mg a) : MethT X (· = a.c_Ticket) "left_at" 16 ["self", "moment"] (fun _ => F_Ticket_left_at X.K a) := ⟨fun C h => by
  subst h
  exact ⟨T.cl_Ticket, a.f_Ticket_left_at, a.d_Ticket_left_at, T.mh_Ticket_left_at, ok_Ticket_left_at T, T.b_Ticket_left_at⟩⟩
theorem sc_Ticket_done_at : FnScope ["self", "calendar", "left", "begin", "paused"] ["self"] (defScope s_Ticket_done_at) := ⟨rfl, rfl, rfl, by decide +kernel, rfl, by decide +kernel, by decide +kernel⟩
theorem ok_Ticket_done_at (T : Txt K mg a) : FnG P w K mg base 12 a.f_Ticket_done_at a.d_Ticket_done_at ["self"] (TSp K 1 (F_Ticket_done_at K a)) :=
  okT T.f_Ticket_done_at sc_Ticket_done_at fun s H cdv A outer E hr hg tk hp =>
    have nd := sc_Ticket_done_at.nd
    have rm : RmG 11 _ := ⟨hr, hg⟩
    ⟨m_Ticket_done_at K a, (sjs_cons (sj_asg (ej_ix (ej_fld T.h_states (ej_name 0)) (ej_neg ej_int)) (gj_tup rfl (gjs_cons (gj_name 1 nd) (gjs_cons (gj_name 2 nd) (gjs_cons (gj_name 3 nd) (gjs_cons (gj_name 4 nd) gjs_nil))))))
  (sjs_cons (sj_if (tj_val (ej_name 4))
  (sjs_one (sj_ret ej_non))
  sjs_nil)
  (sjs_one (sj_ret (ej_call (ok_due T) (rm.mono (by decide)) rfl T.g_due T.f_due.kp T.b_due tk (aj_cons (ej_name 1) (aj_cons (ej_name 3) (aj_cons (ej_name 2) aj_nil)))))))), fun ds μ Q' E' hl h => sem_Ticket_done_at T ds μ Q' E' h⟩
theorem mt_Ticket_done_at {X : Cx} (T : Txt X.K X.mg a) : MethT X (· = a.c_Ticket) "done_at" 12 ["self"] (fun _ => F_Ticket_done_at X.K a) := ⟨fun C h => by
  subst h
  exact ⟨T.cl_Ticket, a.f_Ticket_done_at, a.d_Ticket_done_at, T.mh_Ticket_done_at, ok_Ticket_done_at T, T.b_Ticket_done_at⟩⟩
theorem sc_Ticket_can_wait : FnScope ["self", "limit", "calendar", "left", "begin", "paused", "start"] ["self", "limit"] (defScope s_Ticket_can_wait) := ⟨rfl, rfl, rfl, by decide +kernel, rfl, by decide +kernel, by decide +kernel⟩
theorem ok_Ticket_can_wait (T : Txt K mg a) : FnG P w K mg base 12 a.f_Ticket_can_wait a.d_Ticket_can_wait ["self", "limit"] (TSp K 2 (F_Ticket_can_wait K a)) :=
  okT T.f_Ticket_can_wait sc_Ticket_can_wait fun s H cdv A outer E hr hg tk hp =>
    have nd := sc_Ticket_can_wait.nd
    have rm : RmG 11 _ := ⟨hr, hg⟩
    ⟨m_Ticket_can_wait K a, (sjs_cons (sj_asg (ej_ix (ej_fld T.h_states (ej_name 0)) (ej_neg ej_int)) (gj_tup rfl (gjs_cons (gj_name 2 nd) (gjs_cons (gj_name 3 nd) (gjs_cons (gj_name 4 nd) (gjs_cons (gj_name 5 nd) gjs_nil))))))
  (sjs_cons (sj_if (tj_cmp od_lt (ej_name 1) (ej_name 4))
  (sjs_one (sj_ret ej_non))
  sjs_nil)
  (sjs_cons (sj_set (i := 6) nd (ej_call (ok_latest T) (rm.mono (by decide)) rfl T.g_latest T.f_latest.kp T.b_latest tk (aj_cons (ej_name 2) (aj_cons (ej_name 1) (aj_cons (ej_name 3) aj_nil)))))
  (sjs_cons (sj_if (tj_cmp od_lt (ej_name 6) (ej_name 4))
  (sjs_one (sj_ret ej_non))
  sjs_nil)
  (sjs_one (sj_ret (ej_name 6))))))), fun ds μ Q' E' hl h => sem_Ticket_can_wait T ds μ Q' E' h⟩
theorem mt_Ticket_can_wait {X : Cx} (T : Txt X.K X.mg a) : MethT X (· = a.c_Ticket) "can_wait" 12 ["self", "limit"] (fun _ => F_Ticket_can_wait X.K a) := ⟨fun C h => by
  subst h
  exact ⟨T.cl_Ticket, a.f_Ticket_can_wait, a.d_Ticket_can_wait, T.mh_Ticket_can_wait, ok_Ticket_can_wait T, T.b_Ticket_can_wait⟩⟩
theorem sc_Ticket_note : FnScope ["self", "call", "state"] ["self", "call", "state"] (defScope s_Ticket_note) := ⟨rfl, rfl, rfl, by decide +kernel, rfl, by decide +kernel, by decide +kernel⟩
theorem ok_Ticket_note (T : Txt K mg a) : FnG P w K mg base 4 a.f_Ticket_note a.d_Ticket_note ["self", "call", "state"] (TSp K 3 (F_Ticket_note K a)) :=
  okT T.f_Ticket_note sc_Ticket_note fun s H cdv A outer E hr hg tk hp =>
    have nd := sc_Ticket_note.nd
    have rm : RmG 3 _ := ⟨hr, hg⟩
    ⟨m_Ticket_note K a, (sjs_cons (sj_expr (ej_append (ej_fld T.h_calls (ej_name 0)) (ej_name 1)))
  (sjs_one (sj_expr (ej_append (ej_fld T.h_states (ej_name 0)) (ej_name 2))))), fun ds μ Q' E' hl h => sem_Ticket_note T ds μ Q' E' h⟩
theorem mt_Ticket_note {X : Cx} (T : Txt X.K X.mg a) : MethT X (· = a.c_Ticket) "note" 4 ["self", "call", "state"] (fun _ => F_Ticket_note X.K a) := ⟨fun C h => by
  subst h
  exact ⟨T.cl_Ticket, a.f_Ticket_note, a.d_Ticket_note, T.mh_Ticket_note, ok_Ticket_note T, T.b_Ticket_note⟩⟩
theorem sc_Ticket_pause : FnScope ["self", "moment", "left"] ["self", "moment"] (defScope s_Ticket_pause) := ⟨rfl, rfl, rfl, by decide +kernel, rfl, by decide +kernel, by decide +kernel⟩
theorem ok_Ticket_pause (T : Txt K mg a) : FnG P w K mg base 20 a.f_Ticket_pause a.d_Ticket_pause ["self", "moment"] (TSp K 2 (F_Ticket_pause K a)) :=
  okT T.f_Ticket_pause sc_Ticket_pause fun s H cdv A outer E hr hg tk hp =>
    have nd := sc_Ticket_pause.nd
    have rm : RmG 19 _ := ⟨hr, hg⟩
    ⟨m_Ticket_pause K a, (sjs_cons (sj_set (i := 2) nd (ej_meth (mt_Ticket_left_at T) (rm.mono (by decide)) tk (ej_name 0) (aj_cons (ej_name 1) aj_nil)))
  (sjs_cons (sj_if (WJ.tj (wj_or (tj_cmp od_eq (ej_name 2) ej_int) (wj_or1 (tj_val (ej_ix (ej_ix (ej_fld T.h_states (ej_name 0)) (ej_neg ej_int)) ej_int)))))
  (sjs_one sj_never)
  sjs_nil)
  (sjs_one (sj_expr (ej_meth (mt_Ticket_note T) (rm.mono (by decide)) tk (ej_name 0) (aj_cons (ej_tup (aj_cons ej_str (aj_cons (ej_name 1) aj_nil))) (aj_cons (ej_tup (aj_cons (ej_ix (ej_ix (ej_fld T.h_states (ej_name 0)) (ej_neg ej_int)) ej_int) (aj_cons (ej_name 2) (aj_cons (ej_name 1) (aj_cons ej_bl aj_nil))))) aj_nil))))))), fun ds μ Q' E' hl h => sem_Ticket_pause T ds μ Q' E' h⟩
theorem mt_Ticket_pause {X : Cx} (T : Txt X.K X.mg a) : MethT X (· = a.c_Ticket) "pause" 20 ["self", "moment"] (fun _ => F_Ticket_pause X.K a) := ⟨fun C h => by
  subst h
  exact ⟨T.cl_Ticket, a.f_Ticket_pause, a.d_Ticket_pause, T.mh_Ticket_pause, ok_Ticket_pause T, T.b_Ticket_pause⟩⟩
theorem sc_Ticket_resume : FnScope ["self", "moment", "left"] ["self", "moment"] (defScope s_Ticket_resume) := ⟨rfl, rfl, rfl, by decide +kernel, rfl, by decide +kernel, by decide +kernel⟩
theorem ok_Ticket_resume (T : Txt K mg a) : FnG P w K mg base 20 a.f_Ticket_resume a.d_Ticket_resume ["self", "moment"] (TSp K 2 (F_Ticket_resume K a)) :=
  okT T.f_Ticket_resume sc_Ticket_resume fun s H cdv A outer E hr hg tk hp =>
    have nd := sc_Ticket_resume.nd
    have rm : RmG 19 _ := ⟨hr, hg⟩
    ⟨m_Ticket_resume K a, (sjs_cons (sj_set (i := 2) nd (ej_meth (mt_Ticket_left_at T) (rm.mono (by decide)) tk (ej_name 0) (aj_cons (ej_name 1) aj_nil)))
  (sjs_cons (sj_if (tj_not (tj_val (ej_ix (ej_ix (ej_fld T.h_states (ej_name 0)) (ej_neg ej_int)) ej_int)))
  (sjs_one sj_never)
  sjs_nil)
  (sjs_one (sj_expr (ej_meth (mt_Ticket_note T) (rm.mono (by decide)) tk (ej_name 0) (aj_cons (ej_tup (aj_cons ej_str (aj_cons (ej_name 1) aj_nil))) (aj_cons (ej_tup (aj_cons (ej_ix (ej_ix (ej_fld T.h_states (ej_name 0)) (ej_neg ej_int)) ej_int) (aj_cons (ej_name 2) (aj_cons (ej_name 1) (aj_cons ej_bl aj_nil))))) aj_nil))))))), fun ds μ Q' E' hl h => sem_Ticket_resume T ds μ Q' E' h⟩
theorem mt_Ticket_resume {X : Cx} (T : Txt X.K X.mg a) : MethT X (· = a.c_Ticket) "resume" 20 ["self", "moment"] (fun _ => F_Ticket_resume X.K a) := ⟨fun C h => by
  subst h
  exact ⟨T.cl_Ticket, a.f_Ticket_resume, a.d_Ticket_resume, T.mh_Ticket_resume, ok_Ticket_resume T, T.b_Ticket_resume⟩⟩
theorem sc_Ticket_switch : FnScope ["self", "calendar", "moment", "left"] ["self", "calendar", "moment"] (defScope s_Ticket_switch) := ⟨rfl, rfl, rfl, by decide +kernel, rfl, by decide +kernel, by decide +kernel⟩
theorem ok_Ticket_switch (T : Txt K mg a) : FnG P w K mg base 20 a.f_Ticket_switch a.d_Ticket_switch ["self", "calendar", "moment"] (TSp K 3 (F_Ticket_switch K a)) :=
  okT T.f_Ticket_switch sc_Ticket_switch fun s H cdv A outer E hr hg tk hp =>
    have nd := sc_Ticket_switch.nd
    have rm : RmG 19 _ := ⟨hr, hg⟩
    ⟨m_Ticket_switch K a, (sjs_cons (sj_set (i := 3) nd (ej_meth (mt_Ticket_left_at T) (rm.mono (by decide)) tk (ej_name 0) (aj_cons (ej_name 2) aj_nil)))
  (sjs_cons (sj_if (tj_cmp od_eq (ej_name 3) ej_int)
  (sjs_one sj_never)
  sjs_nil)
  (sjs_one (sj_expr (ej_meth (mt_Ticket_note T) (rm.mono (by decide)) tk (ej_name 0) (aj_cons (ej_tup (aj_cons ej_str (aj_cons (ej_name 1) (aj_cons (ej_name 2) aj_nil)))) (aj_cons (ej_tup (aj_cons (ej_name 1) (aj_cons (ej_name 3) (aj_cons (ej_name 2) (aj_cons (ej_ix (ej_ix (ej_fld T.h_states (ej_name 0)) (ej_neg ej_int)) ej_int) aj_nil))))) aj_nil))))))), fun ds μ Q' E' hl h => sem_Ticket_switch T ds μ Q' E' h⟩
theorem mt_Ticket_switch {X : Cx} (T : Txt X.K X.mg a) : MethT X (· = a.c_Ticket) "switch" 20 ["self", "calendar", "moment"] (fun _ => F_Ticket_switch X.K a) := ⟨fun C h => by
  subst h
  exact ⟨T.cl_Ticket, a.f_Ticket_switch, a.d_Ticket_switch, T.mh_Ticket_switch, ok_Ticket_switch T, T.b_Ticket_switch⟩⟩
theorem sc_Ticket_enlarge : FnScope ["self", "amount", "moment", "left", "calendar", "before", "begin", "paused"] ["self", "amount", "moment"] (defScope s_Ticket_enlarge) := ⟨rfl, rfl, rfl, by decide +kernel, rfl, by decide +kernel, by decide +kernel⟩
theorem ok_Ticket_enlarge (T : Txt K mg a) : FnG P w K mg base 20 a.f_Ticket_enlarge a.d_Ticket_enlarge ["self", "amount", "moment"] (TSp K 3 (F_Ticket_enlarge K a)) :=
  okT T.f_Ticket_enlarge sc_Ticket_enlarge fun s H cdv A outer E hr hg tk hp =>
    have nd := sc_Ticket_enlarge.nd
    have rm : RmG 19 _ := ⟨hr, hg⟩
    ⟨m_Ticket_enlarge K a, (sjs_cons (sj_set (i := 3) nd (ej_meth (mt_Ticket_left_at T) (rm.mono (by decide)) tk (ej_name 0) (aj_cons (ej_name 2) aj_nil)))
  (sjs_cons (sj_if (tj_cmp od_lt (ej_name 1) ej_int)
  (sjs_one sj_never)
  sjs_nil)
  (sjs_cons (sj_if (tj_cmp od_eq (ej_name 3) ej_int)
  (sjs_one sj_never)
  sjs_nil)
  (sjs_cons (sj_asg (ej_ix (ej_fld T.h_states (ej_name 0)) (ej_neg ej_int)) (gj_tup rfl (gjs_cons (gj_name 4 nd) (gjs_cons (gj_name 5 nd) (gjs_cons (gj_name 6 nd) (gjs_cons (gj_name 7 nd) gjs_nil))))))
  (sjs_one (sj_expr (ej_meth (mt_Ticket_note T) (rm.mono (by decide)) tk (ej_name 0) (aj_cons (ej_tup (aj_cons ej_str (aj_cons (ej_name 1) (aj_cons (ej_name 2) aj_nil)))) (aj_cons (ej_tup (aj_cons (ej_name 4) (aj_cons (ej_op od_addI (ej_name 3) (ej_name 1)) (aj_cons (ej_name 2) (aj_cons (ej_name 7) aj_nil))))) aj_nil))))))))), fun ds μ Q' E' hl h => sem_Ticket_enlarge T ds μ Q' E' h⟩
theorem mt_Ticket_enlarge {X : Cx} (T : Txt X.K X.mg a) : MethT X (· = a.c_Ticket) "enlarge" 20 ["self", "amount", "moment"] (fun _ => F_Ticket_enlarge X.K a) := ⟨fun C h => by
  subst h
  exact ⟨T.cl_Ticket, a.f_Ticket_enlarge, a.d_Ticket_enlarge, T.mh_Ticket_enlarge, ok_Ticket_enlarge T, T.b_Ticket_enlarge⟩⟩
theorem sc_Ticket_undo : FnScope ["self"] ["self"] (defScope s_Ticket_undo) := ⟨rfl, rfl, rfl, by decide +kernel, rfl, by decide +kernel, by decide +kernel⟩
theorem ok_Ticket_undo (T : Txt K mg a) : FnG P w K mg base 12 a.f_Ticket_undo a.d_Ticket_undo ["self"] (TSp K 1 (F_Ticket_undo K a)) :=
  okT T.f_Ticket_undo sc_Ticket_undo fun s H cdv A outer E hr hg tk hp =>
    have nd := sc_Ticket_undo.nd
    have rm : RmG 11 _ := ⟨hr, hg⟩
    ⟨m_Ticket_undo K a, (sjs_cons (sj_if (tj_cmp (od_eqN (rm.r.mono (by decide))) (ej_fld T.h_calls (ej_name 0)) (ej_lst false aj_nil))
  (sjs_one (sj_raise rfl tk (due_t T) (rm.r.mono (by decide)) T.x_NothingToUndo rfl T.c_NothingToUndo ej_int))
  sjs_nil)
  (sjs_cons (sj_expr (ej_pop (ej_fld T.h_calls (ej_name 0))))
  (sjs_one (sj_expr (ej_pop (ej_fld T.h_states (ej_name 0))))))), fun ds μ Q' E' hl h => sem_Ticket_undo T ds μ Q' E' h⟩
theorem mt_Ticket_undo {X : Cx} (T : Txt X.K X.mg a) : MethT X (· = a.c_Ticket) "undo" 12 ["self"] (fun _ => F_Ticket_undo X.K a) := ⟨fun C h => by
  subst h
  exact ⟨T.cl_Ticket, a.f_Ticket_undo, a.d_Ticket_undo, T.mh_Ticket_undo, ok_Ticket_undo T, T.b_Ticket_undo⟩⟩
theorem sc_Ticket_story : FnScope ["self"] ["self"] (defScope s_Ticket_story) := ⟨rfl, rfl, rfl, by decide +kernel, rfl, by decide +kernel, by decide +kernel⟩
theorem ok_Ticket_story (T : Txt K mg a) : FnG P w K mg base 4 a.f_Ticket_story a.d_Ticket_story ["self"] (TSp K 1 (F_Ticket_story K a)) :=
  okT T.f_Ticket_story sc_Ticket_story fun s H cdv A outer E hr hg tk hp =>
    have nd := sc_Ticket_story.nd
    have rm : RmG 3 _ := ⟨hr, hg⟩
    ⟨m_Ticket_story K a, (sjs_one (sj_ret (ej_callTy (cd_list true) rfl T.z_list BT.list (aj_cons (ej_fld T.h_calls (ej_name 0)) aj_nil)))), fun ds μ Q' E' hl h => sem_Ticket_story T ds μ Q' E' h⟩
theorem mt_Ticket_story {X : Cx} (T : Txt X.K X.mg a) : MethT X (· = a.c_Ticket) "story" 4 ["self"] (fun _ => F_Ticket_story X.K a) := ⟨fun C h => by
  subst h
  exact ⟨T.cl_Ticket, a.f_Ticket_story, a.d_Ticket_story, T.mh_Ticket_story, ok_Ticket_story T, T.b_Ticket_story⟩⟩
theorem sc_Ticket_len : FnScope ["self"] ["self"] (defScope s_Ticket_len) := ⟨rfl, rfl, rfl, by decide +kernel, rfl, by decide +kernel, by decide +kernel⟩
theorem ok_Ticket_len (T : Txt K mg a) : FnG P w K mg base 4 a.f_Ticket_len a.d_Ticket_len ["self"] (TSp K 1 (F_Ticket_len K a)) :=
  okT T.f_Ticket_len sc_Ticket_len fun s H cdv A outer E hr hg tk hp =>
    have nd := sc_Ticket_len.nd
    have rm : RmG 3 _ := ⟨hr, hg⟩
    ⟨m_Ticket_len K a, (sjs_one (sj_ret (ej_callB cd_len rfl T.z_len BT.len (aj_cons (ej_fld T.h_calls (ej_name 0)) aj_nil)))), fun ds μ Q' E' hl h => sem_Ticket_len T ds μ Q' E' h⟩
theorem mt_Ticket_len {X : Cx} (T : Txt X.K X.mg a) : MethT X (· = a.c_Ticket) "__len__" 4 ["self"] (fun _ => F_Ticket_len X.K a) := ⟨fun C h => by
  subst h
  exact ⟨T.cl_Ticket, a.f_Ticket_len, a.d_Ticket_len, T.mh_Ticket_len, ok_Ticket_len T, T.b_Ticket_len⟩⟩
theorem sc_law_well : FnScope ["script", "place", "cell", "seed"] ["script", "place"] (defScope s_law_well) := ⟨rfl, rfl, rfl, by decide +kernel, rfl, by decide +kernel, by decide +kernel⟩
theorem ok_law_well (T : Txt K mg a) : FnG P w K mg base 4 a.f_law_well a.d_law_well ["script", "place"] (TSp K 2 (F_law_well K a)) :=
  okT T.f_law_well sc_law_well fun s H cdv A outer E hr hg tk hp =>
    have nd := sc_law_well.nd
    have rm : RmG 3 _ := ⟨hr, hg⟩
    ⟨m_law_well K a, (sjs_cons (sj_set (i := 2) nd ej_int)
  (sjs_cons (sj_if (tj_cmp od_lt (ej_name 1) (ej_callB cd_len rfl T.z_len BT.len (aj_cons (ej_name 0) aj_nil)))
  (sjs_one (sj_set (i := 2) nd (ej_ix (ej_name 0) (ej_name 1))))
  sjs_nil)
  (sjs_cons (sj_set (i := 3) nd (ej_op od_mod (ej_callTy cd_int rfl T.z_int BT.int (aj_cons (ej_op od_addI (ej_op od_mulX (ej_callB cd_abs rfl T.z_abs BT.abs (aj_cons (ej_name 2) aj_nil)) ej_int) (ej_callTy cd_int rfl T.z_int BT.int (aj_cons (ej_cmp od_lt (ej_name 2) ej_int) aj_nil))) aj_nil)) ej_int))
  (sjs_one (sj_ret (ej_lst true (aj_cons (ej_op od_mulX (ej_name 2) (ej_callTy cd_int rfl T.z_int BT.int (aj_cons (ej_cmp od_ge (ej_name 2) (ej_op od_pow ej_int ej_int)) aj_nil))) (aj_cons (ej_op od_addI (ej_name 3) (ej_op od_mulX ej_int (ej_name 1))) (aj_cons ej_int aj_nil))))))))), fun ds μ Q' E' hl h => sem_law_well T ds μ Q' E' h⟩
theorem sc_law_take : FnScope ["well", "many", "taken", "mixed"] ["well", "many"] (defScope s_law_take) := ⟨rfl, rfl, rfl, by decide +kernel, rfl, by decide +kernel, by decide +kernel⟩
theorem ok_law_take (T : Txt K mg a) : FnG P w K mg base 4 a.f_law_take a.d_law_take ["well", "many"] (TSp K 2 (F_law_take K a)) :=
  okT T.f_law_take sc_law_take fun s H cdv A outer E hr hg tk hp =>
    have nd := sc_law_take.nd
    have rm : RmG 3 _ := ⟨hr, hg⟩
    ⟨m_law_take K a, (sjs_cons (sj_if (tj_cmp od_gt (ej_ix (ej_name 0) ej_int) ej_int)
  (sjs_cons (sj_set (i := 2) nd (ej_op od_mod (ej_callTy cd_int rfl T.z_int BT.int (aj_cons (ej_ix (ej_name 0) ej_int) aj_nil)) (ej_name 1)))
  (sjs_cons (sj_sub (ej_name 0) ej_int (ej_op od_fdiv (ej_ix (ej_name 0) ej_int) (ej_name 1)))
  (sjs_one (sj_ret (ej_name 2)))))
  sjs_nil)
  (sjs_cons (sj_sub (ej_name 0) ej_int (ej_op od_addI (ej_ix (ej_name 0) ej_int) ej_int))
  (sjs_cons (sj_set (i := 3) nd (ej_op od_addI (ej_op od_pow (ej_op od_addI (ej_ix (ej_name 0) ej_int) (ej_op od_mulX ej_int (ej_ix (ej_name 0) ej_int))) ej_int) (ej_op od_mulX ej_int (ej_ix (ej_name 0) ej_int))))
  (sjs_cons (sj_set (i := 3) nd (ej_op od_addI (ej_op od_mod (ej_callTy cd_int rfl T.z_int BT.int (aj_cons (ej_name 3) aj_nil)) ej_int) (ej_op od_mulX ej_int (ej_ix (ej_name 0) ej_int))))
  (sjs_cons (sj_set (i := 3) nd (ej_op od_mod (ej_callTy cd_int rfl T.z_int BT.int (aj_cons (ej_op od_pow (ej_name 3) ej_int) aj_nil)) ej_int))
  (sjs_one (sj_ret (ej_op od_mod (ej_callTy cd_int rfl T.z_int BT.int (aj_cons (ej_op od_fdiv (ej_name 3) ej_int) aj_nil)) (ej_name 1))))))))), fun ds μ Q' E' hl h => sem_law_take T ds μ Q' E' h⟩
theorem sc_law_number : FnScope ["well", "way", "found"] ["well"] (defScope s_law_number) := ⟨rfl, rfl, rfl, by decide +kernel, rfl, by decide +kernel, by decide +kernel⟩
theorem ok_law_number (T : Txt K mg a) : FnG P w K mg base 8 a.f_law_number a.d_law_number ["well"] (TSp K 1 (F_law_number K a)) :=
  okT T.f_law_number sc_law_number fun s H cdv A outer E hr hg tk hp =>
    have nd := sc_law_number.nd
    have rm : RmG 7 _ := ⟨hr, hg⟩
    ⟨m_law_number K a, (sjs_cons (sj_set (i := 1) nd (ej_call (ok_law_take T) (rm.mono (by decide)) rfl T.g_law_take T.f_law_take.kp T.b_law_take tk (aj_cons (ej_name 0) (aj_cons ej_int aj_nil))))
  (sjs_cons (sj_set (i := 2) nd (ej_call (ok_law_take T) (rm.mono (by decide)) rfl T.g_law_take T.f_law_take.kp T.b_law_take tk (aj_cons (ej_name 0) (aj_cons (ej_ix (ej_lst false (aj_cons ej_int (aj_cons ej_int (aj_cons ej_int (aj_cons (ej_op od_pow ej_int ej_int) aj_nil))))) (ej_name 1)) aj_nil))))
  (sjs_cons (sj_if (tj_cmp od_eq (ej_name 1) ej_int)
  (sjs_one (sj_set (i := 2) nd (ej_op od_addI (ej_op od_mulX (ej_name 2) (ej_op od_pow ej_int ej_int)) (ej_call (ok_law_take T) (rm.mono (by decide)) rfl T.g_law_take T.f_law_take.kp T.b_law_take tk (aj_cons (ej_name 0) (aj_cons (ej_op od_pow ej_int ej_int) aj_nil))))))
  sjs_nil)
  (sjs_one (sj_ret (ej_op od_mulX (ej_name 2) (ej_op od_sub ej_int (ej_op od_mulX ej_int (ej_call (ok_law_take T) (rm.mono (by decide)) rfl T.g_law_take T.f_law_take.kp T.b_law_take tk (aj_cons (ej_name 0) (aj_cons ej_int aj_nil))))))))))), fun ds μ Q' E' hl h => sem_law_number T ds μ Q' E' h⟩
theorem sc_law_paces : FnScope ["well", "size", "way", "found", "spot", "turn"] ["well", "size"] (defScope s_law_paces) := ⟨rfl, rfl, rfl, by decide +kernel, rfl, by decide +kernel, by decide +kernel⟩
theorem ok_law_paces (T : Txt K mg a) : FnG P w K mg base 8 a.f_law_paces a.d_law_paces ["well", "size"] (TSp K 2 (F_law_paces K a)) :=
  okT T.f_law_paces sc_law_paces fun s H cdv A outer E hr hg tk hp =>
    have nd := sc_law_paces.nd
    have rm : RmG 7 _ := ⟨hr, hg⟩
    ⟨m_law_paces K a, (sjs_cons (sj_set (i := 2) nd (ej_call (ok_law_take T) (rm.mono (by decide)) rfl T.g_law_take T.f_law_take.kp T.b_law_take tk (aj_cons (ej_name 0) (aj_cons ej_int aj_nil))))
  (sjs_cons (sj_set (i := 3) nd (ej_op (od_repL true) (ej_lst false (aj_cons ej_int aj_nil)) (ej_name 1)))
  (sjs_cons (sj_if (tj_cmp od_lt (ej_name 2) ej_int)
  (sjs_one (sj_setLc (b := true) (own := [(("turn" : Str), 5)]) (gv := (gName 5)) rfl nd rfl rfl (sw_true rfl rfl rfl (by decide +kernel)) (ij_range1 rfl T.z_range (ej_name 1)) (blkOk_by (own := [(("turn" : Str), 5)]) (N := ["well", "size", "way", "found", "spot", "turn"]) (sc := defScope s_law_paces) (by decide +kernel)) (fun _ _ _ _ _ => (gw_name 5 nd)) (fun _ _ _ _ _ => tsj_nil) (fun _ _ _ _ _ => (ej_call (ok_law_take T) (rm.mono (by decide)) rfl T.g_law_take T.f_law_take.kp T.b_law_take takes0 (aj_cons (ej_name 0) (aj_cons (ej_op od_sub ej_int (ej_op od_mulX ej_int (ej_name 2))) aj_nil))))))
  sjs_nil)
  (sjs_cons (sj_if (tj_cmp od_eq (ej_name 2) ej_int)
  (sjs_one (sj_set (i := 3) nd (ej_op (od_repL true) (ej_lst false (aj_cons (ej_op od_addI ej_int (ej_call (ok_law_take T) (rm.mono (by decide)) rfl T.g_law_take T.f_law_take.kp T.b_law_take tk (aj_cons (ej_name 0) (aj_cons ej_int aj_nil)))) aj_nil)) (ej_name 1))))
  sjs_nil)
  (sjs_cons (sj_if (tj_cmp od_eq (ej_callB (cd_max rfl) rfl T.z_max BT.max (aj_cons (ej_name 3) aj_nil)) ej_int)
  (sjs_cons (sj_set (i := 4) nd (ej_call (ok_law_take T) (rm.mono (by decide)) rfl T.g_law_take T.f_law_take.kp T.b_law_take tk (aj_cons (ej_name 0) (aj_cons (ej_name 1) aj_nil))))
  (sjs_one (sj_sub (ej_name 3) (ej_name 4) (ej_op od_addI ej_int (ej_call (ok_law_take T) (rm.mono (by decide)) rfl T.g_law_take T.f_law_take.kp T.b_law_take tk (aj_cons (ej_name 0) (aj_cons ej_int aj_nil)))))))
  sjs_nil)
  (sjs_one (sj_ret (ej_fz (ej_name 3))))))))), fun ds μ Q' E' hl h => sem_law_paces T ds μ Q' E' h⟩
theorem sc_law_marks : FnScope ["well", "size", "cap", "found", "many", "at", "turn"] ["well", "size", "cap"] (defScope s_law_marks) := ⟨rfl, rfl, rfl, by decide +kernel, rfl, by decide +kernel, by decide +kernel⟩
theorem ok_law_marks (T : Txt K mg a) : FnG P w K mg base 12 a.f_law_marks a.d_law_marks ["well", "size", "cap"] (TSp K 3 (F_law_marks K a)) :=
  okT T.f_law_marks sc_law_marks fun s H cdv A outer E hr hg tk hp =>
    have nd := sc_law_marks.nd
    have rm : RmG 11 _ := ⟨hr, hg⟩
    ⟨m_law_marks K a, (sjs_cons (sj_set (i := 3) nd (ej_lst true aj_nil))
  (sjs_cons (sj_set (i := 4) nd (ej_call (ok_law_take T) (rm.mono (by decide)) rfl T.g_law_take T.f_law_take.kp T.b_law_take tk (aj_cons (ej_name 0) (aj_cons (ej_op od_addI (ej_name 2) ej_int) aj_nil))))
  (sjs_cons (sj_set (i := 5) nd (ej_call (ok_law_number T) (rm.mono (by decide)) rfl T.g_law_number T.f_law_number.kp T.b_law_number tk (aj_cons (ej_name 0) aj_nil)))
  (sjs_cons (sj_for hp rfl (ij_range1 rfl T.z_range (ej_name 4)) (gj_name 6 nd)
  (sjs_cons (sj_expr (ej_append (ej_name 3) (ej_tup (aj_cons (ej_name 5) (aj_cons (ej_call (ok_law_take T) (rm.mono (by decide)) rfl T.g_law_take T.f_law_take.kp T.b_law_take tk (aj_cons (ej_name 0) (aj_cons ej_int aj_nil))) aj_nil)))))
  (sjs_one (sj_set (i := 5) nd (ej_op od_addI (ej_op od_addI (ej_name 5) ej_int) (ej_call (ok_law_take T) (rm.mono (by decide)) rfl T.g_law_take T.f_law_take.kp T.b_law_take tk (aj_cons (ej_name 0) (aj_cons (ej_ix (ej_lst false (aj_cons ej_int (aj_cons ej_int (aj_cons (ej_op od_mulX ej_int (ej_name 1)) (aj_cons (ej_op od_pow ej_int ej_int) aj_nil))))) (ej_call (ok_law_take T) (rm.mono (by decide)) rfl T.g_law_take T.f_law_take.kp T.b_law_take tk (aj_cons (ej_name 0) (aj_cons ej_int aj_nil)))) aj_nil))))))))
  (sjs_one (sj_ret (ej_fz (ej_name 3)))))))), fun ds μ Q' E' hl h => sem_law_marks T ds μ Q' E' h⟩
theorem sc_law_near : FnScope ["well", "marks", "back", "way"] ["well", "marks", "back"] (defScope s_law_near) := ⟨rfl, rfl, rfl, by decide +kernel, rfl, by decide +kernel, by decide +kernel⟩
theorem ok_law_near (T : Txt K mg a) : FnG P w K mg base 12 a.f_law_near a.d_law_near ["well", "marks", "back"] (TSp K 3 (F_law_near K a)) :=
  okT T.f_law_near sc_law_near fun s H cdv A outer E hr hg tk hp =>
    have nd := sc_law_near.nd
    have rm : RmG 11 _ := ⟨hr, hg⟩
    ⟨m_law_near K a, (sjs_cons (sj_set (i := 3) nd (ej_call (ok_law_take T) (rm.mono (by decide)) rfl T.g_law_take T.f_law_take.kp T.b_law_take tk (aj_cons (ej_name 0) (aj_cons ej_int aj_nil))))
  (sjs_cons (sj_if (WJ.tj (wj_or (tj_cmp (od_eqN (rm.r.mono (by decide))) (ej_name 1) (ej_lst false aj_nil)) (wj_or1 (tj_cmp od_eq (ej_name 3) ej_int))))
  (sjs_one (sj_ret (ej_call (ok_law_number T) (rm.mono (by decide)) rfl T.g_law_number T.f_law_number.kp T.b_law_number tk (aj_cons (ej_name 0) aj_nil))))
  sjs_nil)
  (sjs_one (sj_ret (ej_op od_sub (ej_op od_addI (ej_ix (ej_ix (ej_name 1) (ej_call (ok_law_take T) (rm.mono (by decide)) rfl T.g_law_take T.f_law_take.kp T.b_law_take tk (aj_cons (ej_name 0) (aj_cons (ej_callB cd_len rfl T.z_len BT.len (aj_cons (ej_name 1) aj_nil)) aj_nil)))) ej_int) ej_int) (ej_call (ok_law_take T) (rm.mono (by decide)) rfl T.g_law_take T.f_law_take.kp T.b_law_take tk (aj_cons (ej_name 0) (aj_cons (ej_name 2) aj_nil)))))))), fun ds μ Q' E' hl h => sem_law_near T ds μ Q' E' h⟩
theorem sc_law_told : FnScope ["ticket"] ["ticket"] (defScope s_law_told) := ⟨rfl, rfl, rfl, by decide +kernel, rfl, by decide +kernel, by decide +kernel⟩
theorem ok_law_told (T : Txt K mg a) : FnG P w K mg base 12 a.f_law_told a.d_law_told ["ticket"] (TSp K 1 (F_law_told K a)) :=
  okT T.f_law_told sc_law_told fun s H cdv A outer E hr hg tk hp =>
    have nd := sc_law_told.nd
    have rm : RmG 11 _ := ⟨hr, hg⟩
    ⟨m_law_told K a, (sjs_one (sj_ret (ej_lst false (aj_cons (ej_prop (pt_Ticket_moment T) (rm.mono (by decide)) (ej_name 0)) (aj_cons (ej_prop (pt_Ticket_left T) (rm.mono (by decide)) (ej_name 0)) (aj_cons (ej_prop (pt_Ticket_is_paused T) (rm.mono (by decide)) (ej_name 0)) aj_nil)))))), fun ds μ Q' E' hl h => sem_law_told T ds μ Q' E' h⟩
theorem sc_law_nothing : FnScope ["ticket", "caught", "e"] ["ticket"] (defScope s_law_nothing) := ⟨rfl, rfl, rfl, by decide +kernel, rfl, by decide +kernel, by decide +kernel⟩
theorem ok_law_nothing (T : Txt K mg a) : FnG P w K mg base 16 a.f_law_nothing a.d_law_nothing ["ticket"] (TSp K 1 (F_law_nothing K a)) :=
  okT T.f_law_nothing sc_law_nothing fun s H cdv A outer E hr hg tk hp =>
    have nd := sc_law_nothing.nd
    have rm : RmG 15 _ := ⟨hr, hg⟩
    ⟨m_law_nothing K a, (sjs_cons (sj_set (i := 1) nd ej_non)
  (sjs_cons (sj_try (i := 2) rfl rfl nd rfl rfl ⟨rfl, by decide, .inl T.c_DueError⟩ tk (fun _ _ _ tk hp => (sjs_one (sj_expr (ej_meth0 (mt_Ticket_undo T) (rm.mono (by decide)) tk (ej_name 0)))))
  (fun _ _ _ _ _ _ hz hv hT => (sjs_one (sj_set (i := 1) nd (ej_lst false (aj_cons (ej_exis hT.toExcC hz hv (ej_name 2) rfl T.z_isinstance rfl T.c_NothingToUndo) (aj_cons (ej_exis hT.toExcC hz hv (ej_name 2) rfl T.z_isinstance rfl T.c_InvalidAmount) (aj_cons (ej_exis hT.toExcC hz hv (ej_name 2) rfl T.z_isinstance rfl T.c_InvalidMoment) (aj_cons (ej_exis hT.toExcC hz hv (ej_name 2) rfl T.z_isinstance rfl T.c_TooMany) (aj_cons (ej_exis hT.toExcC hz hv (ej_name 2) rfl T.z_isinstance rfl T.c_WrongState) (aj_cons (ej_exval hT hz hv (ej_name 2)) aj_nil)))))))))))
  (sjs_one (sj_ret (ej_cmp od_eq (ej_callB (cd_repr rm.g (rm.r.mono (by decide))) rfl T.z_repr BT.repr (aj_cons (ej_name 1) aj_nil)) (ej_callB (cd_repr rm.g (rm.r.mono (by decide))) rfl T.z_repr BT.repr (aj_cons (ej_lst false (aj_cons ej_bl (aj_cons ej_bl (aj_cons ej_bl (aj_cons ej_bl (aj_cons ej_bl (aj_cons ej_int aj_nil))))))) aj_nil))))))), fun ds μ Q' E' hl h => sem_law_nothing T ds μ Q' E' h⟩
theorem sc_law_call : FnScope ["well", "ticket", "spot", "lists", "way", "more", "paces", "marks"] ["well", "ticket", "spot", "lists"] (defScope s_law_call) := ⟨rfl, rfl, rfl, by decide +kernel, rfl, by decide +kernel, by decide +kernel⟩
theorem ok_law_call (T : Txt K mg a) : FnG P w K mg base 24 a.f_law_call a.d_law_call ["well", "ticket", "spot", "lists"] (TSp K 4 (F_law_call K a)) :=
  okT T.f_law_call sc_law_call fun s H cdv A outer E hr hg tk hp =>
    have nd := sc_law_call.nd
    have rm : RmG 23 _ := ⟨hr, hg⟩
    ⟨m_law_call K a, (sjs_cons (sj_set (i := 4) nd (ej_call (ok_law_take T) (rm.mono (by decide)) rfl T.g_law_take T.f_law_take.kp T.b_law_take tk (aj_cons (ej_name 0) (aj_cons ej_int aj_nil))))
  (sjs_cons (sj_if (tj_cmp od_eq (ej_name 4) ej_int)
  (sjs_cons (sj_if (tj_val (ej_prop (pt_Ticket_is_paused T) (rm.mono (by decide)) (ej_name 1)))
  (sjs_cons (sj_expr (ej_meth (mt_Ticket_resume T) (rm.mono (by decide)) tk (ej_name 1) (aj_cons (ej_name 2) aj_nil)))
  (sjs_one (sj_ret (ej_tup (aj_cons ej_str (aj_cons (ej_name 2) aj_nil))))))
  sjs_nil)
  (sjs_cons (sj_expr (ej_meth (mt_Ticket_pause T) (rm.mono (by decide)) tk (ej_name 1) (aj_cons (ej_name 2) aj_nil)))
  (sjs_one (sj_ret (ej_tup (aj_cons ej_str (aj_cons (ej_name 2) aj_nil)))))))
  sjs_nil)
  (sjs_cons (sj_if (tj_cmp od_eq (ej_name 4) ej_int)
  (sjs_cons (sj_set (i := 5) nd (ej_call (ok_law_take T) (rm.mono (by decide)) rfl T.g_law_take T.f_law_take.kp T.b_law_take tk (aj_cons (ej_name 0) (aj_cons ej_int aj_nil))))
  (sjs_cons (sj_expr (ej_meth (mt_Ticket_enlarge T) (rm.mono (by decide)) tk (ej_name 1) (aj_cons (ej_name 5) (aj_cons (ej_name 2) aj_nil))))
  (sjs_one (sj_ret (ej_tup (aj_cons ej_str (aj_cons (ej_name 5) (aj_cons (ej_name 2) aj_nil))))))))
  sjs_nil)
  (sjs_cons (sj_asg (ej_ix (ej_name 3) (ej_call (ok_law_take T) (rm.mono (by decide)) rfl T.g_law_take T.f_law_take.kp T.b_law_take tk (aj_cons (ej_name 0) (aj_cons ej_int aj_nil)))) (gj_unl rfl (gjs_cons (gj_name 6 nd) (gjs_cons (gj_name 7 nd) gjs_nil))))
  (sjs_cons (sj_expr (ej_meth (mt_Ticket_switch T) (rm.mono (by decide)) tk (ej_name 1) (aj_cons (ej_make true T.mk_Calendar (ok_Calendar_init T) (rm.mono (by decide)) rfl T.c_Calendar T.b_Calendar_init tk (aj_cons (ej_callTy (cd_list false) rfl T.z_list BT.list (aj_cons (ej_name 6) aj_nil)) (aj_cons (ej_callTy (cd_list false) rfl T.z_list BT.list (aj_cons (ej_name 7) aj_nil)) aj_nil))) (aj_cons (ej_name 2) aj_nil))))
  (sjs_one (sj_ret (ej_tup (aj_cons ej_str (aj_cons (ej_make true T.mk_Calendar (ok_Calendar_init T) (rm.mono (by decide)) rfl T.c_Calendar T.b_Calendar_init tk (aj_cons (ej_callTy (cd_list false) rfl T.z_list BT.list (aj_cons (ej_name 6) aj_nil)) (aj_cons (ej_callTy (cd_list false) rfl T.z_list BT.list (aj_cons (ej_name 7) aj_nil)) aj_nil))) (aj_cons (ej_name 2) aj_nil))))))))))), fun ds μ Q' E' hl h => sem_law_call T ds μ Q' E' h⟩
theorem sc_law_look : FnScope ["ticket", "bound"] ["ticket", "bound"] (defScope s_law_look) := ⟨rfl, rfl, rfl, by decide +kernel, rfl, by decide +kernel, by decide +kernel⟩
theorem ok_law_look (T : Txt K mg a) : FnG P w K mg base 20 a.f_law_look a.d_law_look ["ticket", "bound"] (TSp K 2 (F_law_look K a)) :=
  okT T.f_law_look sc_law_look fun s H cdv A outer E hr hg tk hp =>
    have nd := sc_law_look.nd
    have rm : RmG 19 _ := ⟨hr, hg⟩
    ⟨m_law_look K a, (sjs_one (sj_ret (ej_callB (cd_repr rm.g (rm.r.mono (by decide))) rfl T.z_repr BT.repr (aj_cons (ej_op (od_addL false) (ej_call (ok_law_told T) (rm.mono (by decide)) rfl T.g_law_told T.f_law_told.kp T.b_law_told tk (aj_cons (ej_name 0) aj_nil)) (ej_lst false (aj_cons (ej_callB (cd_lenI (mt_Ticket_len T) (rm.mono (by decide))) rfl T.z_len BT.len (aj_cons (ej_name 0) aj_nil)) (aj_cons (ej_meth0 (mt_Ticket_done_at T) (rm.mono (by decide)) tk (ej_name 0)) (aj_cons (ej_meth (mt_Ticket_can_wait T) (rm.mono (by decide)) tk (ej_name 0) (aj_cons (ej_name 1) aj_nil)) aj_nil))))) aj_nil)))), fun ds μ Q' E' hl h => sem_law_look T ds μ Q' E' h⟩
theorem sc_law_same : FnScope ["story", "want", "one", "two"] ["story", "want"] (defScope s_law_same) := ⟨rfl, rfl, rfl, by decide +kernel, rfl, by decide +kernel, by decide +kernel⟩
theorem ok_law_same (T : Txt K mg a) : FnG P w K mg base 16 a.f_law_same a.d_law_same ["story", "want"] (TSp K 2 (F_law_same K a)) :=
  okT T.f_law_same sc_law_same fun s H cdv A outer E hr hg tk hp =>
    have nd := sc_law_same.nd
    have rm : RmG 15 _ := ⟨hr, hg⟩
    ⟨m_law_same K a, (sjs_cons (sj_if (WJ.tj (wj_or (tj_not (tj_val (ej_callB (cd_isiB "list") rfl T.z_isinstance BT.isinstance (aj_cons (ej_name 0) (aj_cons (ej_bltnTy rfl T.z_list BT.list) aj_nil))))) (wj_or1 (tj_cmp od_ne (ej_callB cd_len rfl T.z_len BT.len (aj_cons (ej_name 0) aj_nil)) (ej_callB cd_len rfl T.z_len BT.len (aj_cons (ej_name 1) aj_nil))))))
  (sjs_one (sj_ret ej_bl))
  sjs_nil)
  (sjs_cons (sj_forZ hp rfl rfl T.z_zip (aj_cons (ej_name 0) (aj_cons (ej_name 1) aj_nil)) (gj_tup rfl (gjs_cons (gj_name 2 nd) (gjs_cons (gj_name 3 nd) gjs_nil)))
  (sjs_cons (sj_if (WJ.tj (wj_or (tj_not (tj_val (ej_callB (cd_isiB "tuple") rfl T.z_isinstance BT.isinstance (aj_cons (ej_name 2) (aj_cons (ej_bltnTy rfl T.z_tuple BT.tuple) aj_nil))))) (wj_or (tj_cmp od_ne (ej_callB cd_len rfl T.z_len BT.len (aj_cons (ej_name 2) aj_nil)) (ej_callB cd_len rfl T.z_len BT.len (aj_cons (ej_name 3) aj_nil))) (wj_or1 (tj_cmp od_ne (ej_callB (cd_repr rm.g (rm.r.mono (by decide))) rfl T.z_repr BT.repr (aj_cons (ej_lst false (aj_cons (ej_ix (ej_name 2) ej_int) (aj_cons (ej_ix (ej_name 2) (ej_neg ej_int)) aj_nil))) aj_nil)) (ej_callB (cd_repr rm.g (rm.r.mono (by decide))) rfl T.z_repr BT.repr (aj_cons (ej_lst false (aj_cons (ej_ix (ej_name 3) ej_int) (aj_cons (ej_ix (ej_name 3) (ej_neg ej_int)) aj_nil))) aj_nil)))))))
  (sjs_one (sj_ret ej_bl))
  sjs_nil)
  (sjs_one (sj_if (tj_not (tj_cmp (od_eqSh (own_eq T) 3 (rm.r.mono (by decide))) (ej_name 2) (ej_name 3)))
  (sjs_one (sj_ret ej_bl))
  sjs_nil))))
  (sjs_one (sj_ret ej_bl)))), fun ds μ Q' E' hl h => sem_law_same T ds μ Q' E' h⟩
theorem sc_law_long : FnScope ["made", "at", "load", "many", "ticket", "looks", "turn", "half", "want"] ["made", "at", "load", "many"] (defScope s_law_long) := ⟨rfl, rfl, rfl, by decide +kernel, rfl, by decide +kernel, by decide +kernel⟩
theorem ok_law_long (T : Txt K mg a) : FnG P w K mg base 24 a.f_law_long a.d_law_long ["made", "at", "load", "many"] (TSp K 4 (F_law_long K a)) :=
  okT T.f_law_long sc_law_long fun s H cdv A outer E hr hg tk hp =>
    have nd := sc_law_long.nd
    have rm : RmG 23 _ := ⟨hr, hg⟩
    ⟨m_law_long K a, (sjs_cons (sj_par (i := 4) (j := 5) rfl nd (by decide) (aj_cons (ej_make false T.mk_Ticket (ok_Ticket_init T) (rm.mono (by decide)) rfl T.c_Ticket T.b_Ticket_init tk (aj_cons (ej_name 0) (aj_cons (ej_name 2) (aj_cons (ej_name 1) aj_nil)))) (aj_cons (ej_lst true aj_nil) aj_nil)))
  (sjs_cons (sj_for hp rfl (ij_range1 rfl T.z_range (ej_name 3)) (gj_name 6 nd)
  (sjs_cons (sj_expr (ej_append (ej_name 5) (ej_call (ok_law_told T) (rm.mono (by decide)) rfl T.g_law_told T.f_law_told.kp T.b_law_told tk (aj_cons (ej_name 4) aj_nil))))
  (sjs_one (sj_expr (ej_meth (mt_Ticket_enlarge T) (rm.mono (by decide)) tk (ej_name 4) (aj_cons (ej_name 6) (aj_cons (ej_op od_addI (ej_name 1) (ej_name 6)) aj_nil)))))))
  (sjs_cons (sj_set (i := 7) nd (ej_op od_fdiv (ej_name 3) ej_int))
  (sjs_cons (sj_for hp rfl (ij_range1 rfl T.z_range (ej_op od_sub (ej_name 3) (ej_name 7))) (gj_name 6 nd)
  (sjs_one (sj_expr (ej_meth0 (mt_Ticket_undo T) (rm.mono (by decide)) tk (ej_name 4)))))
  (sjs_cons (sj_if (WJ.tj (wj_or (tj_cmp od_ne (ej_callB (cd_repr rm.g (rm.r.mono (by decide))) rfl T.z_repr BT.repr (aj_cons (ej_call (ok_law_told T) (rm.mono (by decide)) rfl T.g_law_told T.f_law_told.kp T.b_law_told tk (aj_cons (ej_name 4) aj_nil)) aj_nil)) (ej_callB (cd_repr rm.g (rm.r.mono (by decide))) rfl T.z_repr BT.repr (aj_cons (ej_ix (ej_name 5) (ej_name 7)) aj_nil))) (wj_or1 (tj_cmp od_ne (ej_callB (cd_lenI (mt_Ticket_len T) (rm.mono (by decide))) rfl T.z_len BT.len (aj_cons (ej_name 4) aj_nil)) (ej_name 7)))))
  (sjs_one (sj_ret ej_bl))
  sjs_nil)
  (sjs_cons (sj_setLc (b := false) (own := [(("turn" : Str), 6)]) (gv := (gName 6)) rfl nd rfl rfl (sw_true rfl rfl rfl (by decide +kernel)) (ij_range1 rfl T.z_range (ej_name 7)) (blkOk_by (own := [(("turn" : Str), 6)]) (N := ["made", "at", "load", "many", "ticket", "looks", "turn", "half", "want"]) (sc := defScope s_law_long) (by decide +kernel)) (fun _ _ _ _ _ => (gw_name 6 nd)) (fun _ _ _ _ _ => tsj_nil) (fun _ _ _ _ _ => (ej_tup (aj_cons ej_str (aj_cons (ej_name 6) (aj_cons (ej_op od_addI (ej_name 1) (ej_name 6)) aj_nil))))))
  (sjs_cons (sj_if (tj_cmp od_ne (ej_callB (cd_repr rm.g (rm.r.mono (by decide))) rfl T.z_repr BT.repr (aj_cons (ej_fz (ej_meth0 (mt_Ticket_story T) (rm.mono (by decide)) tk (ej_name 4))) aj_nil)) (ej_callB (cd_repr rm.g (rm.r.mono (by decide))) rfl T.z_repr BT.repr (aj_cons (ej_name 8) aj_nil)))
  (sjs_one (sj_ret ej_bl))
  sjs_nil)
  (sjs_cons (sj_for hp rfl (ij_range1 rfl T.z_range (ej_name 7)) (gj_name 6 nd)
  (sjs_one (sj_expr (ej_meth0 (mt_Ticket_undo T) (rm.mono (by decide)) tk (ej_name 4)))))
  (sjs_one (sj_ret (ej_and (ej_cmp od_eq (ej_callB (cd_repr rm.g (rm.r.mono (by decide))) rfl T.z_repr BT.repr (aj_cons (ej_call (ok_law_told T) (rm.mono (by decide)) rfl T.g_law_told T.f_law_told.kp T.b_law_told tk (aj_cons (ej_name 4) aj_nil)) aj_nil)) (ej_callB (cd_repr rm.g (rm.r.mono (by decide))) rfl T.z_repr BT.repr (aj_cons (ej_ix (ej_name 5) ej_int) aj_nil))) (ej_one (ej_call (ok_law_nothing T) (rm.mono (by decide)) rfl T.g_law_nothing T.f_law_nothing.kp T.b_law_nothing tk (aj_cons (ej_name 4) aj_nil)))))))))))))), fun ds μ Q' E' hl h => sem_law_long T ds μ Q' E' h⟩
theorem sc_law_fits : FnScope ["well", "size", "twin", "lists", "at", "spot", "load", "ticket", "bound", "calls", "looks", "turn", "held"] ["well"] (defScope s_law_fits) := ⟨rfl, rfl, rfl, by decide +kernel, rfl, by decide +kernel, by decide +kernel⟩
theorem ok_law_fits (T : Txt K mg a) : FnG P w K mg base 28 a.f_law_fits a.d_law_fits ["well"] (TSp K 1 (F_law_fits K a)) :=
  okT T.f_law_fits sc_law_fits fun s H cdv A outer E hr hg tk hp =>
    have nd := sc_law_fits.nd
    have rm : RmG 27 _ := ⟨hr, hg⟩
    ⟨m_law_fits K a, (sjs_cons (sj_par (i := 1) (j := 2) rfl nd (by decide) (aj_cons (ej_op od_addI ej_int (ej_call (ok_law_take T) (rm.mono (by decide)) rfl T.g_law_take T.f_law_take.kp T.b_law_take tk (aj_cons (ej_name 0) (aj_cons ej_int aj_nil)))) (aj_cons (ej_op od_addI ej_int (ej_call (ok_law_take T) (rm.mono (by decide)) rfl T.g_law_take T.f_law_take.kp T.b_law_take tk (aj_cons (ej_name 0) (aj_cons ej_int aj_nil)))) aj_nil)))
  (sjs_cons (sj_set (i := 3) nd (ej_lst false (aj_cons (ej_lst false (aj_cons (ej_call (ok_law_paces T) (rm.mono (by decide)) rfl T.g_law_paces T.f_law_paces.kp T.b_law_paces tk (aj_cons (ej_name 0) (aj_cons (ej_name 1) aj_nil))) (aj_cons (ej_call (ok_law_marks T) (rm.mono (by decide)) rfl T.g_law_marks T.f_law_marks.kp T.b_law_marks tk (aj_cons (ej_name 0) (aj_cons (ej_name 1) (aj_cons ej_int aj_nil)))) aj_nil))) (aj_cons (ej_lst false (aj_cons (ej_call (ok_law_paces T) (rm.mono (by decide)) rfl T.g_law_paces T.f_law_paces.kp T.b_law_paces tk (aj_cons (ej_name 0) (aj_cons (ej_name 2) aj_nil))) (aj_cons (ej_call (ok_law_marks T) (rm.mono (by decide)) rfl T.g_law_marks T.f_law_marks.kp T.b_law_marks tk (aj_cons (ej_name 0) (aj_cons (ej_name 2) (aj_cons ej_int aj_nil)))) aj_nil))) aj_nil))))
  (sjs_cons (sj_set (i := 4) nd (ej_call (ok_law_near T) (rm.mono (by decide)) rfl T.g_law_near T.f_law_near.kp T.b_law_near tk (aj_cons (ej_name 0) (aj_cons (ej_ix (ej_ix (ej_name 3) ej_int) ej_int) (aj_cons ej_int aj_nil)))))
  (sjs_cons (sj_par (i := 5) (j := 6) rfl nd (by decide) (aj_cons (ej_name 4) (aj_cons (ej_op od_addI ej_int (ej_call (ok_law_take T) (rm.mono (by decide)) rfl T.g_law_take T.f_law_take.kp T.b_law_take tk (aj_cons (ej_name 0) (aj_cons (ej_op od_pow ej_int ej_int) aj_nil)))) aj_nil)))
  (sjs_cons (sj_set (i := 7) nd (ej_make false T.mk_Ticket (ok_Ticket_init T) (rm.mono (by decide)) rfl T.c_Ticket T.b_Ticket_init tk (aj_cons (ej_make true T.mk_Calendar (ok_Calendar_init T) (rm.mono (by decide)) rfl T.c_Calendar T.b_Calendar_init tk (aj_cons (ej_callTy (cd_list false) rfl T.z_list BT.list (aj_cons (ej_ix (ej_ix (ej_name 3) ej_int) ej_int) aj_nil)) (aj_cons (ej_callTy (cd_list false) rfl T.z_list BT.list (aj_cons (ej_ix (ej_ix (ej_name 3) ej_int) ej_int) aj_nil)) aj_nil))) (aj_cons (ej_name 6) (aj_cons (ej_name 4) aj_nil)))))
  (sjs_cons (sj_set (i := 8) nd (ej_op od_addI (ej_op od_addI (ej_name 4) (ej_name 6)) (ej_call (ok_law_take T) (rm.mono (by decide)) rfl T.g_law_take T.f_law_take.kp T.b_law_take tk (aj_cons (ej_name 0) (aj_cons (ej_op od_pow ej_int ej_int) aj_nil)))))
  (sjs_cons (sj_if (tj_cmp od_eq (ej_call (ok_law_take T) (rm.mono (by decide)) rfl T.g_law_take T.f_law_take.kp T.b_law_take tk (aj_cons (ej_name 0) (aj_cons ej_int aj_nil))) ej_int)
  (sjs_one (sj_ret (ej_call (ok_law_long T) (rm.mono (by decide)) rfl T.g_law_long T.f_law_long.kp T.b_law_long tk (aj_cons (ej_make true T.mk_Calendar (ok_Calendar_init T) (rm.mono (by decide)) rfl T.c_Calendar T.b_Calendar_init tk (aj_cons (ej_callTy (cd_list false) rfl T.z_list BT.list (aj_cons (ej_ix (ej_ix (ej_name 3) ej_int) ej_int) aj_nil)) (aj_cons (ej_callTy (cd_list false) rfl T.z_list BT.list (aj_cons (ej_ix (ej_ix (ej_name 3) ej_int) ej_int) aj_nil)) aj_nil))) (aj_cons (ej_name 4) (aj_cons (ej_name 6) (aj_cons (ej_op od_addI ej_int (ej_call (ok_law_take T) (rm.mono (by decide)) rfl T.g_law_take T.f_law_take.kp T.b_law_take tk (aj_cons (ej_name 0) (aj_cons ej_int aj_nil)))) aj_nil)))))))
  sjs_nil)
  (sjs_cons (sj_par (i := 9) (j := 10) rfl nd (by decide) (aj_cons (ej_lst true aj_nil) (aj_cons (ej_lst true (aj_cons (ej_call (ok_law_look T) (rm.mono (by decide)) rfl T.g_law_look T.f_law_look.kp T.b_law_look tk (aj_cons (ej_name 7) (aj_cons (ej_name 8) aj_nil))) aj_nil)) aj_nil)))
  (sjs_cons (sj_for hp rfl (ij_range1 rfl T.z_range (ej_op od_addI ej_int (ej_call (ok_law_take T) (rm.mono (by decide)) rfl T.g_law_take T.f_law_take.kp T.b_law_take tk (aj_cons (ej_name 0) (aj_cons ej_int aj_nil))))) (gj_name 11 nd)
  (sjs_cons (sj_set (i := 5) nd (ej_op od_addI (ej_name 5) (ej_call (ok_law_take T) (rm.mono (by decide)) rfl T.g_law_take T.f_law_take.kp T.b_law_take tk (aj_cons (ej_name 0) (aj_cons ej_int aj_nil)))))
  (sjs_cons (sj_expr (ej_append (ej_name 9) (ej_call (ok_law_call T) (rm.mono (by decide)) rfl T.g_law_call T.f_law_call.kp T.b_law_call tk (aj_cons (ej_name 0) (aj_cons (ej_name 7) (aj_cons (ej_name 5) (aj_cons (ej_name 3) aj_nil)))))))
  (sjs_cons (sj_expr (ej_append (ej_name 10) (ej_call (ok_law_look T) (rm.mono (by decide)) rfl T.g_law_look T.f_law_look.kp T.b_law_look tk (aj_cons (ej_name 7) (aj_cons (ej_name 8) aj_nil)))))
  (sjs_cons (sj_set (i := 12) nd (ej_meth0 (mt_Ticket_story T) (rm.mono (by decide)) tk (ej_name 7)))
  (sjs_cons (sj_if (tj_not (tj_val (ej_call (ok_law_same T) (rm.mono (by decide)) rfl T.g_law_same T.f_law_same.kp T.b_law_same tk (aj_cons (ej_name 12) (aj_cons (ej_name 9) aj_nil)))))
  (sjs_one (sj_ret ej_bl))
  sjs_nil)
  (sjs_one (sj_expr (ej_clear (ej_name 12))))))))))
  (sjs_cons (sj_expr (ej_meth0 (mt_Ticket_undo T) (rm.mono (by decide)) tk (ej_name 7)))
  (sjs_cons (sj_expr (ej_meth (mt_Ticket_enlarge T) (rm.mono (by decide)) tk (ej_name 7) (aj_cons ej_int (aj_cons (ej_name 5) aj_nil))))
  (sjs_cons (sj_if (tj_not (tj_val (ej_call (ok_law_same T) (rm.mono (by decide)) rfl T.g_law_same T.f_law_same.kp T.b_law_same tk (aj_cons (ej_meth0 (mt_Ticket_story T) (rm.mono (by decide)) tk (ej_name 7)) (aj_cons (ej_op (od_addL false) (ej_slice false (ej_name 9) oj_none (oj_some (ej_neg ej_int))) (ej_lst false (aj_cons (ej_tup (aj_cons ej_str (aj_cons ej_int (aj_cons (ej_name 5) aj_nil)))) aj_nil))) aj_nil)))))
  (sjs_one (sj_ret ej_bl))
  sjs_nil)
  (sjs_cons (sj_for hp rfl (ij_range1 rfl T.z_range (ej_callB cd_len rfl T.z_len BT.len (aj_cons (ej_name 9) aj_nil))) (gj_name 11 nd)
  (sjs_cons (sj_if (tj_cmp od_notN (ej_meth0 (mt_Ticket_undo T) (rm.mono (by decide)) tk (ej_name 7)) ej_non)
  (sjs_one (sj_ret ej_bl))
  sjs_nil)
  (sjs_cons (sj_set (i := 9) nd (ej_slice true (ej_name 9) oj_none (oj_some (ej_neg ej_int))))
  (sjs_one (sj_if (WJ.tj (wj_or (tj_cmp od_ne (ej_call (ok_law_look T) (rm.mono (by decide)) rfl T.g_law_look T.f_law_look.kp T.b_law_look tk (aj_cons (ej_name 7) (aj_cons (ej_name 8) aj_nil))) (ej_ix (ej_name 10) (ej_callB cd_len rfl T.z_len BT.len (aj_cons (ej_name 9) aj_nil)))) (wj_or1 (tj_not (tj_val (ej_call (ok_law_same T) (rm.mono (by decide)) rfl T.g_law_same T.f_law_same.kp T.b_law_same tk (aj_cons (ej_meth0 (mt_Ticket_story T) (rm.mono (by decide)) tk (ej_name 7)) (aj_cons (ej_name 9) aj_nil))))))))
  (sjs_one (sj_ret ej_bl))
  sjs_nil)))))
  (sjs_one (sj_ret (ej_and (ej_call (ok_law_nothing T) (rm.mono (by decide)) rfl T.g_law_nothing T.f_law_nothing.kp T.b_law_nothing tk (aj_cons (ej_name 7) aj_nil)) (ej_and (ej_call (ok_law_nothing T) (rm.mono (by decide)) rfl T.g_law_nothing T.f_law_nothing.kp T.b_law_nothing tk (aj_cons (ej_name 7) aj_nil)) (ej_one (ej_cmp od_eq (ej_call (ok_law_look T) (rm.mono (by decide)) rfl T.g_law_look T.f_law_look.kp T.b_law_look tk (aj_cons (ej_name 7) (aj_cons (ej_name 8) aj_nil))) (ej_ix (ej_name 10) ej_int)))))))))))))))))))), fun ds μ Q' E' hl h => sem_law_fits T ds μ Q' E' h⟩
theorem sc_law : FnScope ["script", "place", "well", "turn"] ["script"] (defScope s_law) := ⟨rfl, rfl, rfl, by decide +kernel, rfl, by decide +kernel, by decide +kernel⟩
theorem ok_law (T : Txt K mg a) : FnG P w K mg base 32 a.f_law a.d_law ["script"] (TSp K 1 (F_law K a)) :=
  okT T.f_law sc_law fun s H cdv A outer E hr hg tk hp =>
    have nd := sc_law.nd
    have rm : RmG 31 _ := ⟨hr, hg⟩
    ⟨m_law K a, (sjs_cons (sj_for hp rfl (ij_range1 rfl T.z_range (ej_callB (cd_max2 rfl) rfl T.z_max BT.max (aj_cons ej_int (aj_cons (ej_callB (cd_min2 rfl) rfl T.z_min BT.min (aj_cons ej_int (aj_cons (ej_callB cd_len rfl T.z_len BT.len (aj_cons (ej_name 0) aj_nil)) aj_nil))) aj_nil)))) (gj_name 1 nd)
  (sjs_cons (sj_set (i := 2) nd (ej_call (ok_law_well T) (rm.mono (by decide)) rfl T.g_law_well T.f_law_well.kp T.b_law_well tk (aj_cons (ej_name 0) (aj_cons (ej_name 1) aj_nil))))
  (sjs_one (sj_for hp rfl (ij_range1 rfl T.z_range ej_int) (gj_name 3 nd)
  (sjs_one (sj_if (tj_not (tj_val (ej_call (ok_law_fits T) (rm.mono (by decide)) rfl T.g_law_fits T.f_law_fits.kp T.b_law_fits tk (aj_cons (ej_name 2) aj_nil))))
  (sjs_one (sj_ret ej_bl))
  sjs_nil))))))
  (sjs_one (sj_ret ej_bl))), fun ds μ Q' E' hl h => sem_law T ds μ Q' E' h⟩
end
end T64

namespace T64
open PySem PySem.Spec PyProof.Rows L2 TL
set_option autoImplicit true in
theorem all_mk {K : PySem.W.Frag} {h : Heap} {mg : Str → Option Value} (X : K.In h) (G : h.Ns mainGlobals mg) {f_check_speeds f_check_changes f_Calendar_init f_Calendar_speeds f_Calendar_changes f_Calendar_eq f_work_of_weeks f_end_of_weeks f_begin_of_weeks f_check_span f_check_amount f_work f_due f_latest f_left_of f_Ticket_init f_Ticket_moment f_Ticket_left f_Ticket_is_paused f_Ticket_left_at f_Ticket_done_at f_Ticket_can_wait f_Ticket_note f_Ticket_pause f_Ticket_resume f_Ticket_switch f_Ticket_enlarge f_Ticket_undo f_Ticket_story f_Ticket_len f_law_well f_law_take f_law_number f_law_paces f_law_marks f_law_near f_law_told f_law_nothing f_law_call f_law_look f_law_same f_law_long f_law_fits f_law f_DueError_init c_Calendar c_Ticket c_NothingToUndo c_DueError c_WrongState c_TooMany c_InvalidMoment c_InvalidAmount p_Calendar_speeds p_Calendar_changes p_Ticket_moment p_Ticket_left p_Ticket_is_paused : Addr} {oc_check_speeds kV_check_speeds dc_check_speeds pm_check_speeds cd_check_speeds ct_check_speeds oc_check_changes kV_check_changes dc_check_changes pm_check_changes cd_check_changes ct_check_changes oc_Calendar_init kV_Calendar_init dc_Calendar_init pm_Calendar_init cd_Calendar_init ct_Calendar_init oc_Calendar_speeds kV_Calendar_speeds dc_Calendar_speeds pm_Calendar_speeds cd_Calendar_speeds ct_Calendar_speeds oc_Calendar_changes kV_Calendar_changes dc_Calendar_changes pm_Calendar_changes cd_Calendar_changes ct_Calendar_changes oc_Calendar_eq kV_Calendar_eq dc_Calendar_eq pm_Calendar_eq cd_Calendar_eq ct_Calendar_eq oc_work_of_weeks kV_work_of_weeks dc_work_of_weeks pm_work_of_weeks cd_work_of_weeks ct_work_of_weeks oc_end_of_weeks kV_end_of_weeks dc_end_of_weeks pm_end_of_weeks cd_end_of_weeks ct_end_of_weeks oc_begin_of_weeks kV_begin_of_weeks dc_begin_of_weeks pm_begin_of_weeks cd_begin_of_weeks ct_begin_of_weeks oc_check_span kV_check_span dc_check_span pm_check_span cd_check_span ct_check_span oc_check_amount kV_check_amount dc_check_amount pm_check_amount cd_check_amount ct_check_amount oc_work kV_work dc_work pm_work cd_work ct_work oc_due kV_due dc_due pm_due cd_due ct_due oc_latest kV_latest dc_latest pm_latest cd_latest ct_latest oc_left_of kV_left_of dc_left_of pm_left_of cd_left_of ct_left_of oc_Ticket_init kV_Ticket_init dc_Ticket_init pm_Ticket_init cd_Ticket_init ct_Ticket_init oc_Ticket_moment kV_Ticket_moment dc_Ticket_moment pm_Ticket_moment cd_Ticket_moment ct_Ticket_moment oc_Ticket_left kV_Ticket_left dc_Ticket_left pm_Ticket_left cd_Ticket_left ct_Ticket_left oc_Ticket_is_paused kV_Ticket_is_paused dc_Ticket_is_paused pm_Ticket_is_paused cd_Ticket_is_paused ct_Ticket_is_paused oc_Ticket_left_at kV_Ticket_left_at dc_Ticket_left_at pm_Ticket_left_at cd_Ticket_left_at ct_Ticket_left_at oc_Ticket_done_at kV_Ticket_done_at dc_Ticket_done_at pm_Ticket_done_at cd_Ticket_done_at ct_Ticket_done_at oc_Ticket_can_wait kV_Ticket_can_wait dc_Ticket_can_wait pm_Ticket_can_wait cd_Ticket_can_wait ct_Ticket_can_wait oc_Ticket_note kV_Ticket_note dc_Ticket_note pm_Ticket_note cd_Ticket_note ct_Ticket_note oc_Ticket_pause kV_Ticket_pause dc_Ticket_pause pm_Ticket_pause cd_Ticket_pause ct_Ticket_pause oc_Ticket_resume kV_Ticket_resume dc_Ticket_resume pm_Ticket_resume cd_Ticket_resume ct_Ticket_resume oc_Ticket_switch kV_Ticket_switch dc_Ticket_switch pm_Ticket_switch cd_Ticket_switch ct_Ticket_switch oc_Ticket_enlarge kV_Ticket_enlarge dc_Ticket_enlarge pm_Ticket_enlarge cd_Ticket_enlarge ct_Ticket_enlarge oc_Ticket_undo kV_Ticket_undo dc_Ticket_undo pm_Ticket_undo cd_Ticket_undo ct_Ticket_undo oc_Ticket_story kV_Ticket_story dc_Ticket_story pm_Ticket_story cd_Ticket_story ct_Ticket_story oc_Ticket_len kV_Ticket_len dc_Ticket_len pm_Ticket_len cd_Ticket_len ct_Ticket_len oc_law_well kV_law_well dc_law_well pm_law_well cd_law_well ct_law_well oc_law_take kV_law_take dc_law_take pm_law_take cd_law_take ct_law_take oc_law_number kV_law_number dc_law_number pm_law_number cd_law_number ct_law_number oc_law_paces kV_law_paces dc_law_paces pm_law_paces cd_law_paces ct_law_paces oc_law_marks kV_law_marks dc_law_marks pm_law_marks cd_law_marks ct_law_marks oc_law_near kV_law_near dc_law_near pm_law_near cd_law_near ct_law_near oc_law_told kV_law_told dc_law_told pm_law_told cd_law_told ct_law_told oc_law_nothing kV_law_nothing dc_law_nothing pm_law_nothing cd_law_nothing ct_law_nothing oc_law_call kV_law_call dc_law_call pm_law_call cd_law_call ct_law_call oc_law_look kV_law_look dc_law_look pm_law_look cd_law_look ct_law_look oc_law_same kV_law_same dc_law_same pm_law_same cd_law_same ct_law_same oc_law_long kV_law_long dc_law_long pm_law_long cd_law_long ct_law_long oc_law_fits kV_law_fits dc_law_fits pm_law_fits cd_law_fits ct_law_fits oc_law kV_law dc_law pm_law cd_law ct_law oc_DueError_init kV_DueError_init dc_DueError_init pm_DueError_init cd_DueError_init ct_DueError_init : Value} {od_check_speeds an_check_speeds od_check_changes an_check_changes od_Calendar_init an_Calendar_init od_Calendar_speeds an_Calendar_speeds od_Calendar_changes an_Calendar_changes od_Calendar_eq an_Calendar_eq od_work_of_weeks an_work_of_weeks od_end_of_weeks an_end_of_weeks od_begin_of_weeks an_begin_of_weeks od_check_span an_check_span od_check_amount an_check_amount od_work an_work od_due an_due od_latest an_latest od_left_of an_left_of od_Ticket_init an_Ticket_init od_Ticket_moment an_Ticket_moment od_Ticket_left an_Ticket_left od_Ticket_is_paused an_Ticket_is_paused od_Ticket_left_at an_Ticket_left_at od_Ticket_done_at an_Ticket_done_at od_Ticket_can_wait an_Ticket_can_wait od_Ticket_note an_Ticket_note od_Ticket_pause an_Ticket_pause od_Ticket_resume an_Ticket_resume od_Ticket_switch an_Ticket_switch od_Ticket_enlarge an_Ticket_enlarge od_Ticket_undo an_Ticket_undo od_Ticket_story an_Ticket_story od_Ticket_len an_Ticket_len od_law_well an_law_well od_law_take an_law_take od_law_number an_law_number od_law_paces an_law_paces od_law_marks an_law_marks od_law_near an_law_near od_law_told an_law_told od_law_nothing an_law_nothing od_law_call an_law_call od_law_look an_law_look od_law_same an_law_same od_law_long an_law_long od_law_fits an_law_fits od_law an_law od_DueError_init an_DueError_init : Option Addr} {sl_check_speeds sl_check_changes sl_Calendar_init sl_Calendar_speeds sl_Calendar_changes sl_Calendar_eq sl_work_of_weeks sl_end_of_weeks sl_begin_of_weeks sl_check_span sl_check_amount sl_work sl_due sl_latest sl_left_of sl_Ticket_init sl_Ticket_moment sl_Ticket_left sl_Ticket_is_paused sl_Ticket_left_at sl_Ticket_done_at sl_Ticket_can_wait sl_Ticket_note sl_Ticket_pause sl_Ticket_resume sl_Ticket_switch sl_Ticket_enlarge sl_Ticket_undo sl_Ticket_story sl_Ticket_len sl_law_well sl_law_take sl_law_number sl_law_paces sl_law_marks sl_law_near sl_law_told sl_law_nothing sl_law_call sl_law_look sl_law_same sl_law_long sl_law_fits sl_law sl_DueError_init : Array (Option Value)} {rs_Calendar_speeds rs_Calendar_changes rs_Ticket_moment rs_Ticket_left rs_Ticket_is_paused : List Value} {tk_FASTEST tk_LONGEST_WEEK : Tok}
    (aC_Calendar : PySem.W.nsIn K mainGlobals "Calendar" = some (some (.ref c_Calendar)))
    (aC_Ticket : PySem.W.nsIn K mainGlobals "Ticket" = some (some (.ref c_Ticket)))
    (aC_NothingToUndo : PySem.W.nsIn K mainGlobals "NothingToUndo" = some (some (.ref c_NothingToUndo)))
    (aC_DueError : PySem.W.nsIn K mainGlobals "DueError" = some (some (.ref c_DueError)))
    (aC_WrongState : PySem.W.nsIn K mainGlobals "WrongState" = some (some (.ref c_WrongState)))
    (aC_TooMany : PySem.W.nsIn K mainGlobals "TooMany" = some (some (.ref c_TooMany)))
    (aC_InvalidMoment : PySem.W.nsIn K mainGlobals "InvalidMoment" = some (some (.ref c_InvalidMoment)))
    (aC_InvalidAmount : PySem.W.nsIn K mainGlobals "InvalidAmount" = some (some (.ref c_InvalidAmount)))
    (a_check_speeds : PySem.W.nsIn K mainGlobals "check_speeds" = some (some (.ref f_check_speeds)))
    (l_check_speeds : K.lookup f_check_speeds = some ⟨oc_check_speeds, od_check_speeds, .func (PySem.W.fnOf "check_speeds" "check_speeds" (defArgs s_check_speeds) (defBody s_check_speeds) (defScope s_check_speeds) .none kV_check_speeds dc_check_speeds pm_check_speeds an_check_speeds cd_check_speeds ct_check_speeds), sl_check_speeds⟩)
    (q_check_speeds : PySem.W.codeIn K cd_check_speeds "check_speeds" = true)
    (k_check_speeds : PySem.W.keepIn K (.ref f_check_speeds) = true)
    (a_check_changes : PySem.W.nsIn K mainGlobals "check_changes" = some (some (.ref f_check_changes)))
    (l_check_changes : K.lookup f_check_changes = some ⟨oc_check_changes, od_check_changes, .func (PySem.W.fnOf "check_changes" "check_changes" (defArgs s_check_changes) (defBody s_check_changes) (defScope s_check_changes) .none kV_check_changes dc_check_changes pm_check_changes an_check_changes cd_check_changes ct_check_changes), sl_check_changes⟩)
    (q_check_changes : PySem.W.codeIn K cd_check_changes "check_changes" = true)
    (k_check_changes : PySem.W.keepIn K (.ref f_check_changes) = true)
    (a_Calendar_init : PySem.W.findIn K (.ref c_Calendar) "__init__" = some (some (.ref f_Calendar_init)))
    (i_Calendar_init : PySem.W.isFn K (.ref f_Calendar_init) = true)
    (l_Calendar_init : K.lookup f_Calendar_init = some ⟨oc_Calendar_init, od_Calendar_init, .func (PySem.W.fnOf "__init__" "Calendar.__init__" (defArgs s_Calendar_init) (defBody s_Calendar_init) (defScope s_Calendar_init) .none kV_Calendar_init dc_Calendar_init pm_Calendar_init an_Calendar_init cd_Calendar_init ct_Calendar_init), sl_Calendar_init⟩)
    (q_Calendar_init : PySem.W.codeIn K cd_Calendar_init "Calendar.__init__" = true)
    (k_Calendar_init : PySem.W.keepIn K (.ref f_Calendar_init) = true)
    (a_Calendar_speeds : PySem.W.findIn K (.ref c_Calendar) "speeds" = some (some (.ref p_Calendar_speeds)))
    (pg_Calendar_speeds : PySem.W.specialIn K (.ref p_Calendar_speeds) "__get__" = some (some (.builtin "property.__get__")))
    (pt_Calendar_speeds : PySem.W.takesIn K (.ref p_Calendar_speeds) = some true)
    (pr_Calendar_speeds : PySem.W.recIn K p_Calendar_speeds "property" = some (.ref f_Calendar_speeds :: rs_Calendar_speeds))
    (l_Calendar_speeds : K.lookup f_Calendar_speeds = some ⟨oc_Calendar_speeds, od_Calendar_speeds, .func (PySem.W.fnOf "speeds" "Calendar.speeds" (defArgs s_Calendar_speeds) (defBody s_Calendar_speeds) (defScope s_Calendar_speeds) .none kV_Calendar_speeds dc_Calendar_speeds pm_Calendar_speeds an_Calendar_speeds cd_Calendar_speeds ct_Calendar_speeds), sl_Calendar_speeds⟩)
    (q_Calendar_speeds : PySem.W.codeIn K cd_Calendar_speeds "Calendar.speeds" = true)
    (k_Calendar_speeds : PySem.W.keepIn K (.ref f_Calendar_speeds) = true)
    (a_Calendar_changes : PySem.W.findIn K (.ref c_Calendar) "changes" = some (some (.ref p_Calendar_changes)))
    (pg_Calendar_changes : PySem.W.specialIn K (.ref p_Calendar_changes) "__get__" = some (some (.builtin "property.__get__")))
    (pt_Calendar_changes : PySem.W.takesIn K (.ref p_Calendar_changes) = some true)
    (pr_Calendar_changes : PySem.W.recIn K p_Calendar_changes "property" = some (.ref f_Calendar_changes :: rs_Calendar_changes))
    (l_Calendar_changes : K.lookup f_Calendar_changes = some ⟨oc_Calendar_changes, od_Calendar_changes, .func (PySem.W.fnOf "changes" "Calendar.changes" (defArgs s_Calendar_changes) (defBody s_Calendar_changes) (defScope s_Calendar_changes) .none kV_Calendar_changes dc_Calendar_changes pm_Calendar_changes an_Calendar_changes cd_Calendar_changes ct_Calendar_changes), sl_Calendar_changes⟩)
    (q_Calendar_changes : PySem.W.codeIn K cd_Calendar_changes "Calendar.changes" = true)
    (k_Calendar_changes : PySem.W.keepIn K (.ref f_Calendar_changes) = true)
    (a_Calendar_eq : PySem.W.findIn K (.ref c_Calendar) "__eq__" = some (some (.ref f_Calendar_eq)))
    (i_Calendar_eq : PySem.W.isFn K (.ref f_Calendar_eq) = true)
    (l_Calendar_eq : K.lookup f_Calendar_eq = some ⟨oc_Calendar_eq, od_Calendar_eq, .func (PySem.W.fnOf "__eq__" "Calendar.__eq__" (defArgs s_Calendar_eq) (defBody s_Calendar_eq) (defScope s_Calendar_eq) .none kV_Calendar_eq dc_Calendar_eq pm_Calendar_eq an_Calendar_eq cd_Calendar_eq ct_Calendar_eq), sl_Calendar_eq⟩)
    (q_Calendar_eq : PySem.W.codeIn K cd_Calendar_eq "Calendar.__eq__" = true)
    (k_Calendar_eq : PySem.W.keepIn K (.ref f_Calendar_eq) = true)
    (a_work_of_weeks : PySem.W.nsIn K mainGlobals "work_of_weeks" = some (some (.ref f_work_of_weeks)))
    (l_work_of_weeks : K.lookup f_work_of_weeks = some ⟨oc_work_of_weeks, od_work_of_weeks, .func (PySem.W.fnOf "work_of_weeks" "work_of_weeks" (defArgs s_work_of_weeks) (defBody s_work_of_weeks) (defScope s_work_of_weeks) .none kV_work_of_weeks dc_work_of_weeks pm_work_of_weeks an_work_of_weeks cd_work_of_weeks ct_work_of_weeks), sl_work_of_weeks⟩)
    (q_work_of_weeks : PySem.W.codeIn K cd_work_of_weeks "work_of_weeks" = true)
    (k_work_of_weeks : PySem.W.keepIn K (.ref f_work_of_weeks) = true)
    (a_end_of_weeks : PySem.W.nsIn K mainGlobals "end_of_weeks" = some (some (.ref f_end_of_weeks)))
    (l_end_of_weeks : K.lookup f_end_of_weeks = some ⟨oc_end_of_weeks, od_end_of_weeks, .func (PySem.W.fnOf "end_of_weeks" "end_of_weeks" (defArgs s_end_of_weeks) (defBody s_end_of_weeks) (defScope s_end_of_weeks) .none kV_end_of_weeks dc_end_of_weeks pm_end_of_weeks an_end_of_weeks cd_end_of_weeks ct_end_of_weeks), sl_end_of_weeks⟩)
    (q_end_of_weeks : PySem.W.codeIn K cd_end_of_weeks "end_of_weeks" = true)
    (k_end_of_weeks : PySem.W.keepIn K (.ref f_end_of_weeks) = true)
    (a_begin_of_weeks : PySem.W.nsIn K mainGlobals "begin_of_weeks" = some (some (.ref f_begin_of_weeks)))
    (l_begin_of_weeks : K.lookup f_begin_of_weeks = some ⟨oc_begin_of_weeks, od_begin_of_weeks, .func (PySem.W.fnOf "begin_of_weeks" "begin_of_weeks" (defArgs s_begin_of_weeks) (defBody s_begin_of_weeks) (defScope s_begin_of_weeks) .none kV_begin_of_weeks dc_begin_of_weeks pm_begin_of_weeks an_begin_of_weeks cd_begin_of_weeks ct_begin_of_weeks), sl_begin_of_weeks⟩)
    (q_begin_of_weeks : PySem.W.codeIn K cd_begin_of_weeks "begin_of_weeks" = true)
    (k_begin_of_weeks : PySem.W.keepIn K (.ref f_begin_of_weeks) = true)
    (a_check_span : PySem.W.nsIn K mainGlobals "check_span" = some (some (.ref f_check_span)))
    (l_check_span : K.lookup f_check_span = some ⟨oc_check_span, od_check_span, .func (PySem.W.fnOf "check_span" "check_span" (defArgs s_check_span) (defBody s_check_span) (defScope s_check_span) .none kV_check_span dc_check_span pm_check_span an_check_span cd_check_span ct_check_span), sl_check_span⟩)
    (q_check_span : PySem.W.codeIn K cd_check_span "check_span" = true)
    (k_check_span : PySem.W.keepIn K (.ref f_check_span) = true)
    (a_check_amount : PySem.W.nsIn K mainGlobals "check_amount" = some (some (.ref f_check_amount)))
    (l_check_amount : K.lookup f_check_amount = some ⟨oc_check_amount, od_check_amount, .func (PySem.W.fnOf "check_amount" "check_amount" (defArgs s_check_amount) (defBody s_check_amount) (defScope s_check_amount) .none kV_check_amount dc_check_amount pm_check_amount an_check_amount cd_check_amount ct_check_amount), sl_check_amount⟩)
    (q_check_amount : PySem.W.codeIn K cd_check_amount "check_amount" = true)
    (k_check_amount : PySem.W.keepIn K (.ref f_check_amount) = true)
    (a_work : PySem.W.nsIn K mainGlobals "work" = some (some (.ref f_work)))
    (l_work : K.lookup f_work = some ⟨oc_work, od_work, .func (PySem.W.fnOf "work" "work" (defArgs s_work) (defBody s_work) (defScope s_work) .none kV_work dc_work pm_work an_work cd_work ct_work), sl_work⟩)
    (q_work : PySem.W.codeIn K cd_work "work" = true)
    (k_work : PySem.W.keepIn K (.ref f_work) = true)
    (a_due : PySem.W.nsIn K mainGlobals "due" = some (some (.ref f_due)))
    (l_due : K.lookup f_due = some ⟨oc_due, od_due, .func (PySem.W.fnOf "due" "due" (defArgs s_due) (defBody s_due) (defScope s_due) .none kV_due dc_due pm_due an_due cd_due ct_due), sl_due⟩)
    (q_due : PySem.W.codeIn K cd_due "due" = true)
    (k_due : PySem.W.keepIn K (.ref f_due) = true)
    (a_latest : PySem.W.nsIn K mainGlobals "latest" = some (some (.ref f_latest)))
    (l_latest : K.lookup f_latest = some ⟨oc_latest, od_latest, .func (PySem.W.fnOf "latest" "latest" (defArgs s_latest) (defBody s_latest) (defScope s_latest) .none kV_latest dc_latest pm_latest an_latest cd_latest ct_latest), sl_latest⟩)
    (q_latest : PySem.W.codeIn K cd_latest "latest" = true)
    (k_latest : PySem.W.keepIn K (.ref f_latest) = true)
    (a_left_of : PySem.W.nsIn K mainGlobals "left_of" = some (some (.ref f_left_of)))
    (l_left_of : K.lookup f_left_of = some ⟨oc_left_of, od_left_of, .func (PySem.W.fnOf "left_of" "left_of" (defArgs s_left_of) (defBody s_left_of) (defScope s_left_of) .none kV_left_of dc_left_of pm_left_of an_left_of cd_left_of ct_left_of), sl_left_of⟩)
    (q_left_of : PySem.W.codeIn K cd_left_of "left_of" = true)
    (k_left_of : PySem.W.keepIn K (.ref f_left_of) = true)
    (a_Ticket_init : PySem.W.findIn K (.ref c_Ticket) "__init__" = some (some (.ref f_Ticket_init)))
    (i_Ticket_init : PySem.W.isFn K (.ref f_Ticket_init) = true)
    (l_Ticket_init : K.lookup f_Ticket_init = some ⟨oc_Ticket_init, od_Ticket_init, .func (PySem.W.fnOf "__init__" "Ticket.__init__" (defArgs s_Ticket_init) (defBody s_Ticket_init) (defScope s_Ticket_init) .none kV_Ticket_init dc_Ticket_init pm_Ticket_init an_Ticket_init cd_Ticket_init ct_Ticket_init), sl_Ticket_init⟩)
    (q_Ticket_init : PySem.W.codeIn K cd_Ticket_init "Ticket.__init__" = true)
    (k_Ticket_init : PySem.W.keepIn K (.ref f_Ticket_init) = true)
    (a_Ticket_moment : PySem.W.findIn K (.ref c_Ticket) "moment" = some (some (.ref p_Ticket_moment)))
    (pg_Ticket_moment : PySem.W.specialIn K (.ref p_Ticket_moment) "__get__" = some (some (.builtin "property.__get__")))
    (pt_Ticket_moment : PySem.W.takesIn K (.ref p_Ticket_moment) = some true)
    (pr_Ticket_moment : PySem.W.recIn K p_Ticket_moment "property" = some (.ref f_Ticket_moment :: rs_Ticket_moment))
    (l_Ticket_moment : K.lookup f_Ticket_moment = some ⟨oc_Ticket_moment, od_Ticket_moment, .func (PySem.W.fnOf "moment" "Ticket.moment" (defArgs s_Ticket_moment) (defBody s_Ticket_moment) (defScope s_Ticket_moment) .none kV_Ticket_moment dc_Ticket_moment pm_Ticket_moment an_Ticket_moment cd_Ticket_moment ct_Ticket_moment), sl_Ticket_moment⟩)
    (q_Ticket_moment : PySem.W.codeIn K cd_Ticket_moment "Ticket.moment" = true)
    (k_Ticket_moment : PySem.W.keepIn K (.ref f_Ticket_moment) = true)
    (a_Ticket_left : PySem.W.findIn K (.ref c_Ticket) "left" = some (some (.ref p_Ticket_left)))
    (pg_Ticket_left : PySem.W.specialIn K (.ref p_Ticket_left) "__get__" = some (some (.builtin "property.__get__")))
    (pt_Ticket_left : PySem.W.takesIn K (.ref p_Ticket_left) = some true)
    (pr_Ticket_left : PySem.W.recIn K p_Ticket_left "property" = some (.ref f_Ticket_left :: rs_Ticket_left))
    (l_Ticket_left : K.lookup f_Ticket_left = some ⟨oc_Ticket_left, od_Ticket_left, .func (PySem.W.fnOf "left" "Ticket.left" (defArgs s_Ticket_left) (defBody s_Ticket_left) (defScope s_Ticket_left) .none kV_Ticket_left dc_Ticket_left pm_Ticket_left an_Ticket_left cd_Ticket_left ct_Ticket_left), sl_Ticket_left⟩)
    (q_Ticket_left : PySem.W.codeIn K cd_Ticket_left "Ticket.left" = true)
    (k_Ticket_left : PySem.W.keepIn K (.ref f_Ticket_left) = true)
    (a_Ticket_is_paused : PySem.W.findIn K (.ref c_Ticket) "is_paused" = some (some (.ref p_Ticket_is_paused)))
    (pg_Ticket_is_paused : PySem.W.specialIn K (.ref p_Ticket_is_paused) "__get__" = some (some (.builtin "property.__get__")))
    (pt_Ticket_is_paused : PySem.W.takesIn K (.ref p_Ticket_is_paused) = some true)
    (pr_Ticket_is_paused : PySem.W.recIn K p_Ticket_is_paused "property" = some (.ref f_Ticket_is_paused :: rs_Ticket_is_paused))
    (l_Ticket_is_paused : K.lookup f_Ticket_is_paused = some ⟨oc_Ticket_is_paused, od_Ticket_is_paused, .func (PySem.W.fnOf "is_paused" "Ticket.is_paused" (defArgs s_Ticket_is_paused) (defBody s_Ticket_is_paused) (defScope s_Ticket_is_paused) .none kV_Ticket_is_paused dc_Ticket_is_paused pm_Ticket_is_paused an_Ticket_is_paused cd_Ticket_is_paused ct_Ticket_is_paused), sl_Ticket_is_paused⟩)
    (q_Ticket_is_paused : PySem.W.codeIn K cd_Ticket_is_paused "Ticket.is_paused" = true)
    (k_Ticket_is_paused : PySem.W.keepIn K (.ref f_Ticket_is_paused) = true)
    (a_Ticket_left_at : PySem.W.findIn K (.ref c_Ticket) "left_at" = some (some (.ref f_Ticket_left_at)))
    (i_Ticket_left_at : PySem.W.isFn K (.ref f_Ticket_left_at) = true)
    (l_Ticket_left_at : K.lookup f_Ticket_left_at = some ⟨oc_Ticket_left_at, od_Ticket_left_at, .func (PySem.W.fnOf "left_at" "Ticket.left_at" (defArgs s_Ticket_left_at) (defBody s_Ticket_left_at) (defScope s_Ticket_left_at) .none kV_Ticket_left_at dc_Ticket_left_at pm_Ticket_left_at an_Ticket_left_at cd_Ticket_left_at ct_Ticket_left_at), sl_Ticket_left_at⟩)
    (q_Ticket_left_at : PySem.W.codeIn K cd_Ticket_left_at "Ticket.left_at" = true)
    (k_Ticket_left_at : PySem.W.keepIn K (.ref f_Ticket_left_at) = true)
    (a_Ticket_done_at : PySem.W.findIn K (.ref c_Ticket) "done_at" = some (some (.ref f_Ticket_done_at)))
    (i_Ticket_done_at : PySem.W.isFn K (.ref f_Ticket_done_at) = true)
    (l_Ticket_done_at : K.lookup f_Ticket_done_at = some ⟨oc_Ticket_done_at, od_Ticket_done_at, .func (PySem.W.fnOf "done_at" "Ticket.done_at" (defArgs s_Ticket_done_at) (defBody s_Ticket_done_at) (defScope s_Ticket_done_at) .none kV_Ticket_done_at dc_Ticket_done_at pm_Ticket_done_at an_Ticket_done_at cd_Ticket_done_at ct_Ticket_done_at), sl_Ticket_done_at⟩)
    (q_Ticket_done_at : PySem.W.codeIn K cd_Ticket_done_at "Ticket.done_at" = true)
    (k_Ticket_done_at : PySem.W.keepIn K (.ref f_Ticket_done_at) = true)
    (a_Ticket_can_wait : PySem.W.findIn K (.ref c_Ticket) "can_wait" = some (some (.ref f_Ticket_can_wait)))
    (i_Ticket_can_wait : PySem.W.isFn K (.ref f_Ticket_can_wait) = true)
    (l_Ticket_can_wait : K.lookup f_Ticket_can_wait = some ⟨oc_Ticket_can_wait, od_Ticket_can_wait, .func (PySem.W.fnOf "can_wait" "Ticket.can_wait" (defArgs s_Ticket_can_wait) (defBody s_Ticket_can_wait) (defScope s_Ticket_can_wait) .none kV_Ticket_can_wait dc_Ticket_can_wait pm_Ticket_can_wait an_Ticket_can_wait cd_Ticket_can_wait ct_Ticket_can_wait), sl_Ticket_can_wait⟩)
    (q_Ticket_can_wait : PySem.W.codeIn K cd_Ticket_can_wait "Ticket.can_wait" = true)
    (k_Ticket_can_wait : PySem.W.keepIn K (.ref f_Ticket_can_wait) = true)
    (a_Ticket_note : PySem.W.findIn K (.ref c_Ticket) "note" = some (some (.ref f_Ticket_note)))
    (i_Ticket_note : PySem.W.isFn K (.ref f_Ticket_note) = true)
    (l_Ticket_note : K.lookup f_Ticket_note = some ⟨oc_Ticket_note, od_Ticket_note, .func (PySem.W.fnOf "note" "Ticket.note" (defArgs s_Ticket_note) (defBody s_Ticket_note) (defScope s_Ticket_note) .none kV_Ticket_note dc_Ticket_note pm_Ticket_note an_Ticket_note cd_Ticket_note ct_Ticket_note), sl_Ticket_note⟩)
    (q_Ticket_note : PySem.W.codeIn K cd_Ticket_note "Ticket.note" = true)
    (k_Ticket_note : PySem.W.keepIn K (.ref f_Ticket_note) = true)
    (a_Ticket_pause : PySem.W.findIn K (.ref c_Ticket) "pause" = some (some (.ref f_Ticket_pause)))
    (i_Ticket_pause : PySem.W.isFn K (.ref f_Ticket_pause) = true)
    (l_Ticket_pause : K.lookup f_Ticket_pause = some ⟨oc_Ticket_pause, od_Ticket_pause, .func (PySem.W.fnOf "pause" "Ticket.pause" (defArgs s_Ticket_pause) (defBody s_Ticket_pause) (defScope s_Ticket_pause) .none kV_Ticket_pause dc_Ticket_pause pm_Ticket_pause an_Ticket_pause cd_Ticket_pause ct_Ticket_pause), sl_Ticket_pause⟩)
    (q_Ticket_pause : PySem.W.codeIn K cd_Ticket_pause "Ticket.pause" = true)
    (k_Ticket_pause : PySem.W.keepIn K (.ref f_Ticket_pause) = true)
    (a_Ticket_resume : PySem.W.findIn K (.ref c_Ticket) "resume" = some (some (.ref f_Ticket_resume)))
    (i_Ticket_resume : PySem.W.isFn K (.ref f_Ticket_resume) = true)
    (l_Ticket_resume : K.lookup f_Ticket_resume = some ⟨oc_Ticket_resume, od_Ticket_resume, .func (PySem.W.fnOf "resume" "Ticket.resume" (defArgs s_Ticket_resume) (defBody s_Ticket_resume) (defScope s_Ticket_resume) .none kV_Ticket_resume dc_Ticket_resume pm_Ticket_resume an_Ticket_resume cd_Ticket_resume ct_Ticket_resume), sl_Ticket_resume⟩)
    (q_Ticket_resume : PySem.W.codeIn K cd_Ticket_resume "Ticket.resume" = true)
    (k_Ticket_resume : PySem.W.keepIn K (.ref f_Ticket_resume) = true)
    (a_Ticket_switch : PySem.W.findIn K (.ref c_Ticket) "switch" = some (some (.ref f_Ticket_switch)))
    (i_Ticket_switch : PySem.W.isFn K (.ref f_Ticket_switch) = true)
    (l_Ticket_switch : K.lookup f_Ticket_switch = some ⟨oc_Ticket_switch, od_Ticket_switch, .func (PySem.W.fnOf "switch" "Ticket.switch" (defArgs s_Ticket_switch) (defBody s_Ticket_switch) (defScope s_Ticket_switch) .none kV_Ticket_switch dc_Ticket_switch pm_Ticket_switch an_Ticket_switch cd_Ticket_switch ct_Ticket_switch), sl_Ticket_switch⟩)
    (q_Ticket_switch : PySem.W.codeIn K cd_Ticket_switch "Ticket.switch" = true)
    (k_Ticket_switch : PySem.W.keepIn K (.ref f_Ticket_switch) = true)
    (a_Ticket_enlarge : PySem.W.findIn K (.ref c_Ticket) "enlarge" = some (some (.ref f_Ticket_enlarge)))
    (i_Ticket_enlarge : PySem.W.isFn K (.ref f_Ticket_enlarge) = true)
    (l_Ticket_enlarge : K.lookup f_Ticket_enlarge = some ⟨oc_Ticket_enlarge, od_Ticket_enlarge, .func (PySem.W.fnOf "enlarge" "Ticket.enlarge" (defArgs s_Ticket_enlarge) (defBody s_Ticket_enlarge) (defScope s_Ticket_enlarge) .none kV_Ticket_enlarge dc_Ticket_enlarge pm_Ticket_enlarge an_Ticket_enlarge cd_Ticket_enlarge ct_Ticket_enlarge), sl_Ticket_enlarge⟩)
    (q_Ticket_enlarge : PySem.W.codeIn K cd_Ticket_enlarge "Ticket.enlarge" = true)
    (k_Ticket_enlarge : PySem.W.keepIn K (.ref f_Ticket_enlarge) = true)
    (a_Ticket_undo : PySem.W.findIn K (.ref c_Ticket) "undo" = some (some (.ref f_Ticket_undo)))
    (i_Ticket_undo : PySem.W.isFn K (.ref f_Ticket_undo) = true)
    (l_Ticket_undo : K.lookup f_Ticket_undo = some ⟨oc_Ticket_undo, od_Ticket_undo, .func (PySem.W.fnOf "undo" "Ticket.undo" (defArgs s_Ticket_undo) (defBody s_Ticket_undo) (defScope s_Ticket_undo) .none kV_Ticket_undo dc_Ticket_undo pm_Ticket_undo an_Ticket_undo cd_Ticket_undo ct_Ticket_undo), sl_Ticket_undo⟩)
    (q_Ticket_undo : PySem.W.codeIn K cd_Ticket_undo "Ticket.undo" = true)
    (k_Ticket_undo : PySem.W.keepIn K (.ref f_Ticket_undo) = true)
    (a_Ticket_story : PySem.W.findIn K (.ref c_Ticket) "story" = some (some (.ref f_Ticket_story)))
    (i_Ticket_story : PySem.W.isFn K (.ref f_Ticket_story) = true)
    (l_Ticket_story : K.lookup f_Ticket_story = some ⟨oc_Ticket_story, od_Ticket_story, .func (PySem.W.fnOf "story" "Ticket.story" (defArgs s_Ticket_story) (defBody s_Ticket_story) (defScope s_Ticket_story) .none kV_Ticket_story dc_Ticket_story pm_Ticket_story an_Ticket_story cd_Ticket_story ct_Ticket_story), sl_Ticket_story⟩)
    (q_Ticket_story : PySem.W.codeIn K cd_Ticket_story "Ticket.story" = true)
    (k_Ticket_story : PySem.W.keepIn K (.ref f_Ticket_story) = true)
    (a_Ticket_len : PySem.W.findIn K (.ref c_Ticket) "__len__" = some (some (.ref f_Ticket_len)))
    (i_Ticket_len : PySem.W.isFn K (.ref f_Ticket_len) = true)
    (l_Ticket_len : K.lookup f_Ticket_len = some ⟨oc_Ticket_len, od_Ticket_len, .func (PySem.W.fnOf "__len__" "Ticket.__len__" (defArgs s_Ticket_len) (defBody s_Ticket_len) (defScope s_Ticket_len) .none kV_Ticket_len dc_Ticket_len pm_Ticket_len an_Ticket_len cd_Ticket_len ct_Ticket_len), sl_Ticket_len⟩)
    (q_Ticket_len : PySem.W.codeIn K cd_Ticket_len "Ticket.__len__" = true)
    (k_Ticket_len : PySem.W.keepIn K (.ref f_Ticket_len) = true)
    (a_law_well : PySem.W.nsIn K mainGlobals "_law_well" = some (some (.ref f_law_well)))
    (l_law_well : K.lookup f_law_well = some ⟨oc_law_well, od_law_well, .func (PySem.W.fnOf "_law_well" "_law_well" (defArgs s_law_well) (defBody s_law_well) (defScope s_law_well) .none kV_law_well dc_law_well pm_law_well an_law_well cd_law_well ct_law_well), sl_law_well⟩)
    (q_law_well : PySem.W.codeIn K cd_law_well "_law_well" = true)
    (k_law_well : PySem.W.keepIn K (.ref f_law_well) = true)
    (a_law_take : PySem.W.nsIn K mainGlobals "_law_take" = some (some (.ref f_law_take)))
    (l_law_take : K.lookup f_law_take = some ⟨oc_law_take, od_law_take, .func (PySem.W.fnOf "_law_take" "_law_take" (defArgs s_law_take) (defBody s_law_take) (defScope s_law_take) .none kV_law_take dc_law_take pm_law_take an_law_take cd_law_take ct_law_take), sl_law_take⟩)
    (q_law_take : PySem.W.codeIn K cd_law_take "_law_take" = true)
    (k_law_take : PySem.W.keepIn K (.ref f_law_take) = true)
    (a_law_number : PySem.W.nsIn K mainGlobals "_law_number" = some (some (.ref f_law_number)))
    (l_law_number : K.lookup f_law_number = some ⟨oc_law_number, od_law_number, .func (PySem.W.fnOf "_law_number" "_law_number" (defArgs s_law_number) (defBody s_law_number) (defScope s_law_number) .none kV_law_number dc_law_number pm_law_number an_law_number cd_law_number ct_law_number), sl_law_number⟩)
    (q_law_number : PySem.W.codeIn K cd_law_number "_law_number" = true)
    (k_law_number : PySem.W.keepIn K (.ref f_law_number) = true)
    (a_law_paces : PySem.W.nsIn K mainGlobals "_law_paces" = some (some (.ref f_law_paces)))
    (l_law_paces : K.lookup f_law_paces = some ⟨oc_law_paces, od_law_paces, .func (PySem.W.fnOf "_law_paces" "_law_paces" (defArgs s_law_paces) (defBody s_law_paces) (defScope s_law_paces) .none kV_law_paces dc_law_paces pm_law_paces an_law_paces cd_law_paces ct_law_paces), sl_law_paces⟩)
    (q_law_paces : PySem.W.codeIn K cd_law_paces "_law_paces" = true)
    (k_law_paces : PySem.W.keepIn K (.ref f_law_paces) = true)
    (a_law_marks : PySem.W.nsIn K mainGlobals "_law_marks" = some (some (.ref f_law_marks)))
    (l_law_marks : K.lookup f_law_marks = some ⟨oc_law_marks, od_law_marks, .func (PySem.W.fnOf "_law_marks" "_law_marks" (defArgs s_law_marks) (defBody s_law_marks) (defScope s_law_marks) .none kV_law_marks dc_law_marks pm_law_marks an_law_marks cd_law_marks ct_law_marks), sl_law_marks⟩)
    (q_law_marks : PySem.W.codeIn K cd_law_marks "_law_marks" = true)
    (k_law_marks : PySem.W.keepIn K (.ref f_law_marks) = true)
    (a_law_near : PySem.W.nsIn K mainGlobals "_law_near" = some (some (.ref f_law_near)))
    (l_law_near : K.lookup f_law_near = some ⟨oc_law_near, od_law_near, .func (PySem.W.fnOf "_law_near" "_law_near" (defArgs s_law_near) (defBody s_law_near) (defScope s_law_near) .none kV_law_near dc_law_near pm_law_near an_law_near cd_law_near ct_law_near), sl_law_near⟩)
    (q_law_near : PySem.W.codeIn K cd_law_near "_law_near" = true)
    (k_law_near : PySem.W.keepIn K (.ref f_law_near) = true)
    (a_law_told : PySem.W.nsIn K mainGlobals "_law_told" = some (some (.ref f_law_told)))
    (l_law_told : K.lookup f_law_told = some ⟨oc_law_told, od_law_told, .func (PySem.W.fnOf "_law_told" "_law_told" (defArgs s_law_told) (defBody s_law_told) (defScope s_law_told) .none kV_law_told dc_law_told pm_law_told an_law_told cd_law_told ct_law_told), sl_law_told⟩)
    (q_law_told : PySem.W.codeIn K cd_law_told "_law_told" = true)
    (k_law_told : PySem.W.keepIn K (.ref f_law_told) = true)
    (a_law_nothing : PySem.W.nsIn K mainGlobals "_law_nothing" = some (some (.ref f_law_nothing)))
    (l_law_nothing : K.lookup f_law_nothing = some ⟨oc_law_nothing, od_law_nothing, .func (PySem.W.fnOf "_law_nothing" "_law_nothing" (defArgs s_law_nothing) (defBody s_law_nothing) (defScope s_law_nothing) .none kV_law_nothing dc_law_nothing pm_law_nothing an_law_nothing cd_law_nothing ct_law_nothing), sl_law_nothing⟩)
    (q_law_nothing : PySem.W.codeIn K cd_law_nothing "_law_nothing" = true)
    (k_law_nothing : PySem.W.keepIn K (.ref f_law_nothing) = true)
    (a_law_call : PySem.W.nsIn K mainGlobals "_law_call" = some (some (.ref f_law_call)))
    (l_law_call : K.lookup f_law_call = some ⟨oc_law_call, od_law_call, .func (PySem.W.fnOf "_law_call" "_law_call" (defArgs s_law_call) (defBody s_law_call) (defScope s_law_call) .none kV_law_call dc_law_call pm_law_call an_law_call cd_law_call ct_law_call), sl_law_call⟩)
    (q_law_call : PySem.W.codeIn K cd_law_call "_law_call" = true)
    (k_law_call : PySem.W.keepIn K (.ref f_law_call) = true)
    (a_law_look : PySem.W.nsIn K mainGlobals "_law_look" = some (some (.ref f_law_look)))
    (l_law_look : K.lookup f_law_look = some ⟨oc_law_look, od_law_look, .func (PySem.W.fnOf "_law_look" "_law_look" (defArgs s_law_look) (defBody s_law_look) (defScope s_law_look) .none kV_law_look dc_law_look pm_law_look an_law_look cd_law_look ct_law_look), sl_law_look⟩)
    (q_law_look : PySem.W.codeIn K cd_law_look "_law_look" = true)
    (k_law_look : PySem.W.keepIn K (.ref f_law_look) = true)
    (a_law_same : PySem.W.nsIn K mainGlobals "_law_same" = some (some (.ref f_law_same)))
    (l_law_same : K.lookup f_law_same = some ⟨oc_law_same, od_law_same, .func (PySem.W.fnOf "_law_same" "_law_same" (defArgs s_law_same) (defBody s_law_same) (defScope s_law_same) .none kV_law_same dc_law_same pm_law_same an_law_same cd_law_same ct_law_same), sl_law_same⟩)
    (q_law_same : PySem.W.codeIn K cd_law_same "_law_same" = true)
    (k_law_same : PySem.W.keepIn K (.ref f_law_same) = true)
    (a_law_long : PySem.W.nsIn K mainGlobals "_law_long" = some (some (.ref f_law_long)))
    (l_law_long : K.lookup f_law_long = some ⟨oc_law_long, od_law_long, .func (PySem.W.fnOf "_law_long" "_law_long" (defArgs s_law_long) (defBody s_law_long) (defScope s_law_long) .none kV_law_long dc_law_long pm_law_long an_law_long cd_law_long ct_law_long), sl_law_long⟩)
    (q_law_long : PySem.W.codeIn K cd_law_long "_law_long" = true)
    (k_law_long : PySem.W.keepIn K (.ref f_law_long) = true)
    (a_law_fits : PySem.W.nsIn K mainGlobals "_law_fits" = some (some (.ref f_law_fits)))
    (l_law_fits : K.lookup f_law_fits = some ⟨oc_law_fits, od_law_fits, .func (PySem.W.fnOf "_law_fits" "_law_fits" (defArgs s_law_fits) (defBody s_law_fits) (defScope s_law_fits) .none kV_law_fits dc_law_fits pm_law_fits an_law_fits cd_law_fits ct_law_fits), sl_law_fits⟩)
    (q_law_fits : PySem.W.codeIn K cd_law_fits "_law_fits" = true)
    (k_law_fits : PySem.W.keepIn K (.ref f_law_fits) = true)
    (a_law : PySem.W.nsIn K mainGlobals "law" = some (some (.ref f_law)))
    (l_law : K.lookup f_law = some ⟨oc_law, od_law, .func (PySem.W.fnOf "law" "law" (defArgs s_law) (defBody s_law) (defScope s_law) .none kV_law dc_law pm_law an_law cd_law ct_law), sl_law⟩)
    (q_law : PySem.W.codeIn K cd_law "law" = true)
    (k_law : PySem.W.keepIn K (.ref f_law) = true)
    (a_DueError_init : PySem.W.findIn K (.ref c_DueError) "__init__" = some (some (.ref f_DueError_init)))
    (l_DueError_init : K.lookup f_DueError_init = some ⟨oc_DueError_init, od_DueError_init, .func (PySem.W.fnOf "__init__" "DueError.__init__" (defArgs s_DueError_init) (defBody s_DueError_init) (defScope s_DueError_init) .none kV_DueError_init dc_DueError_init pm_DueError_init an_DueError_init cd_DueError_init ct_DueError_init), sl_DueError_init⟩)
    (q_DueError_init : PySem.W.codeIn K cd_DueError_init "DueError.__init__" = true)
    (k_DueError_init : PySem.W.keepIn K (.ref f_DueError_init) = true)
    (tI : PySem.W.typeIn K (.ref f_DueError_init) = some (.type "function"))
    (pg_Calendar : PySem.W.plainGet K c_Calendar Str.empty = true)
    (hd_Calendar : PySem.W.hasDictIn K c_Calendar = true)
    (po_Calendar : PySem.W.plainOver K c_Calendar = true)
    (sa_Calendar : PySem.W.findIn K (.ref c_Calendar) "__setattr__" = some (some (.builtin "object.__setattr__")))
    (mk_Calendar : PySem.W.makesIn K c_Calendar = true)
    (kc_Calendar : PySem.W.keepIn K (.ref c_Calendar) = true)
    (pg_Ticket : PySem.W.plainGet K c_Ticket Str.empty = true)
    (hd_Ticket : PySem.W.hasDictIn K c_Ticket = true)
    (po_Ticket : PySem.W.plainOver K c_Ticket = true)
    (sa_Ticket : PySem.W.findIn K (.ref c_Ticket) "__setattr__" = some (some (.builtin "object.__setattr__")))
    (mk_Ticket : PySem.W.makesIn K c_Ticket = true)
    (kc_Ticket : PySem.W.keepIn K (.ref c_Ticket) = true)
    (xo_NothingToUndo : K.lookup c_NothingToUndo = some (excClassObj xn_NothingToUndo xq_NothingToUndo c_NothingToUndo xN_NothingToUndo xb_NothingToUndo xm_NothingToUndo true xs_NothingToUndo xu_NothingToUndo xa_NothingToUndo xc_NothingToUndo xd_NothingToUndo x0_NothingToUndo x1_NothingToUndo x2_NothingToUndo x3_NothingToUndo x5_NothingToUndo "ValueError.__new__"))
    (xr_NothingToUndo : PySem.HandSPX.refsVE xm_NothingToUndo = true)
    (xsa_NothingToUndo : PySem.W.findIn K (.ref c_NothingToUndo) "__setattr__" = some (some (.builtin "object.__setattr__")))
    (xsu_NothingToUndo : PySem.W.subIn K (.ref c_NothingToUndo) (.type "BaseException") = some true)
    (xty_NothingToUndo : PySem.W.typeIn K (.ref c_NothingToUndo) = some (.type "type"))
    (xk_NothingToUndo : PySem.W.keepIn K (.ref c_NothingToUndo) = true)
    (xv_NothingToUndo : PySem.W.findIn K (.ref c_NothingToUndo) "value" = some none)
    (xi_NothingToUndo : PySem.W.findIn K (.ref c_NothingToUndo) "__init__" = some (some (.ref f_DueError_init)))
    (yg_NothingToUndo : PySem.W.findIn K (.ref c_NothingToUndo) "__getattribute__" = some (some (.builtin "BaseException.__getattribute__")))
    (yk_NothingToUndo : PySem.W.findIn K (.ref c_NothingToUndo) "__getattr__" = some none)
    (ys_NothingToUndo : PySem.W.subIn K (.ref c_NothingToUndo) (.type "BaseException") = some true)
    (yd_NothingToUndo : PySem.W.hasDictIn K c_NothingToUndo = true)
    (ya_NothingToUndo : PySem.W.findIn K (.ref c_NothingToUndo) "__class__" = some (some (.builtin "object.__class__")))
    (yn_NothingToUndo : PySem.W.specialIn K (.builtin "object.__class__") "__get__" = some (some (.builtin "getset_descriptor.__get__")))
    (yt_NothingToUndo : PySem.W.takesIn K (.builtin "object.__class__") = some true)
    (ym_NothingToUndo : PySem.W.mroIn K c_NothingToUndo (.type "object") = some true)
    (yv_NothingToUndo : PySem.W.findIn K (.ref c_NothingToUndo) "value" = some none)
    (n_real_changes : PySem.W.findIn K (.ref c_Calendar) "real_changes" = some none)
    (n_week_speeds : PySem.W.findIn K (.ref c_Calendar) "week_speeds" = some none)
    (n_states : PySem.W.findIn K (.ref c_Ticket) "states" = some none)
    (n_calls : PySem.W.findIn K (.ref c_Ticket) "calls" = some none)
    (n_most : PySem.W.findIn K (.ref c_Ticket) "most" = some none)
    (n_asked : PySem.W.findIn K (.ref c_Ticket) "asked" = some none)
    (z_max : PySem.W.nsIn K mainGlobals "max" = some none)
    (z_enumerate : PySem.W.nsIn K mainGlobals "enumerate" = some none)
    (z_len : PySem.W.nsIn K mainGlobals "len" = some none)
    (z_tuple : PySem.W.nsIn K mainGlobals "tuple" = some none)
    (z_list : PySem.W.nsIn K mainGlobals "list" = some none)
    (z_isinstance : PySem.W.nsIn K mainGlobals "isinstance" = some none)
    (z_sum : PySem.W.nsIn K mainGlobals "sum" = some none)
    (z_int : PySem.W.nsIn K mainGlobals "int" = some none)
    (z_abs : PySem.W.nsIn K mainGlobals "abs" = some none)
    (z_range : PySem.W.nsIn K mainGlobals "range" = some none)
    (z_repr : PySem.W.nsIn K mainGlobals "repr" = some none)
    (z_zip : PySem.W.nsIn K mainGlobals "zip" = some none)
    (z_min : PySem.W.nsIn K mainGlobals "min" = some none)
    (g_FASTEST : PySem.W.nsIn K mainGlobals "FASTEST" = some (some (.int 3 tk_FASTEST)))
    (g_LONGEST_WEEK : PySem.W.nsIn K mainGlobals "LONGEST_WEEK" = some (some (.int 12 tk_LONGEST_WEEK)))
    (ty1 : PySem.W.findIn K (.ref c_Calendar) "__class__" = some (some (.builtin "object.__class__")))
    (ty2 : PySem.W.specialIn K (.builtin "object.__class__") "__get__" = some (some (.builtin "getset_descriptor.__get__")))
    (ty3 : PySem.W.takesIn K (.builtin "object.__class__") = some true)
    (ty4 : PySem.W.mroIn K c_Calendar (.type "object") = some true)
    (se_NothingToUndo : PySem.W.subIn K (.ref c_NothingToUndo) (.ref c_NothingToUndo) = some true)
    (ic_DueError : PySem.W.isClsIn K c_DueError = true)
    (it_DueError : PySem.W.typeIn K (.ref c_DueError) = some (.type "type"))
    (ic_InvalidAmount : PySem.W.isClsIn K c_InvalidAmount = true)
    (it_InvalidAmount : PySem.W.typeIn K (.ref c_InvalidAmount) = some (.type "type"))
    (ic_InvalidMoment : PySem.W.isClsIn K c_InvalidMoment = true)
    (it_InvalidMoment : PySem.W.typeIn K (.ref c_InvalidMoment) = some (.type "type"))
    (ic_NothingToUndo : PySem.W.isClsIn K c_NothingToUndo = true)
    (it_NothingToUndo : PySem.W.typeIn K (.ref c_NothingToUndo) = some (.type "type"))
    (ic_TooMany : PySem.W.isClsIn K c_TooMany = true)
    (it_TooMany : PySem.W.typeIn K (.ref c_TooMany) = some (.type "type"))
    (ic_WrongState : PySem.W.isClsIn K c_WrongState = true)
    (it_WrongState : PySem.W.typeIn K (.ref c_WrongState) = some (.type "type"))
    (bs_DueError : PySem.W.subIn K (.ref c_DueError) (.type "BaseException") = some true)
    (su_NothingToUndo_NothingToUndo : PySem.W.subIn K (.ref c_NothingToUndo) (.ref c_NothingToUndo) = some true)
    (su_NothingToUndo_InvalidAmount : PySem.W.subIn K (.ref c_NothingToUndo) (.ref c_InvalidAmount) = some false)
    (su_NothingToUndo_InvalidMoment : PySem.W.subIn K (.ref c_NothingToUndo) (.ref c_InvalidMoment) = some false)
    (su_NothingToUndo_TooMany : PySem.W.subIn K (.ref c_NothingToUndo) (.ref c_TooMany) = some false)
    (su_NothingToUndo_WrongState : PySem.W.subIn K (.ref c_NothingToUndo) (.ref c_WrongState) = some false)
    (su_NothingToUndo_DueError : PySem.W.subIn K (.ref c_NothingToUndo) (.ref c_DueError) = some true) :
    Txt K mg { f_check_speeds := f_check_speeds, f_check_changes := f_check_changes, f_Calendar_init := f_Calendar_init, f_Calendar_speeds := f_Calendar_speeds, f_Calendar_changes := f_Calendar_changes, f_Calendar_eq := f_Calendar_eq, f_work_of_weeks := f_work_of_weeks, f_end_of_weeks := f_end_of_weeks, f_begin_of_weeks := f_begin_of_weeks, f_check_span := f_check_span, f_check_amount := f_check_amount, f_work := f_work, f_due := f_due, f_latest := f_latest, f_left_of := f_left_of, f_Ticket_init := f_Ticket_init, f_Ticket_moment := f_Ticket_moment, f_Ticket_left := f_Ticket_left, f_Ticket_is_paused := f_Ticket_is_paused, f_Ticket_left_at := f_Ticket_left_at, f_Ticket_done_at := f_Ticket_done_at, f_Ticket_can_wait := f_Ticket_can_wait, f_Ticket_note := f_Ticket_note, f_Ticket_pause := f_Ticket_pause, f_Ticket_resume := f_Ticket_resume, f_Ticket_switch := f_Ticket_switch, f_Ticket_enlarge := f_Ticket_enlarge, f_Ticket_undo := f_Ticket_undo, f_Ticket_story := f_Ticket_story, f_Ticket_len := f_Ticket_len, f_law_well := f_law_well, f_law_take := f_law_take, f_law_number := f_law_number, f_law_paces := f_law_paces, f_law_marks := f_law_marks, f_law_near := f_law_near, f_law_told := f_law_told, f_law_nothing := f_law_nothing, f_law_call := f_law_call, f_law_look := f_law_look, f_law_same := f_law_same, f_law_long := f_law_long, f_law_fits := f_law_fits, f_law := f_law, f_DueError_init := f_DueError_init, d_check_speeds := PySem.W.fnOf "check_speeds" "check_speeds" (defArgs s_check_speeds) (defBody s_check_speeds) (defScope s_check_speeds) .none kV_check_speeds dc_check_speeds pm_check_speeds an_check_speeds cd_check_speeds ct_check_speeds, d_check_changes := PySem.W.fnOf "check_changes" "check_changes" (defArgs s_check_changes) (defBody s_check_changes) (defScope s_check_changes) .none kV_check_changes dc_check_changes pm_check_changes an_check_changes cd_check_changes ct_check_changes, d_Calendar_init := PySem.W.fnOf "__init__" "Calendar.__init__" (defArgs s_Calendar_init) (defBody s_Calendar_init) (defScope s_Calendar_init) .none kV_Calendar_init dc_Calendar_init pm_Calendar_init an_Calendar_init cd_Calendar_init ct_Calendar_init, d_Calendar_speeds := PySem.W.fnOf "speeds" "Calendar.speeds" (defArgs s_Calendar_speeds) (defBody s_Calendar_speeds) (defScope s_Calendar_speeds) .none kV_Calendar_speeds dc_Calendar_speeds pm_Calendar_speeds an_Calendar_speeds cd_Calendar_speeds ct_Calendar_speeds, d_Calendar_changes := PySem.W.fnOf "changes" "Calendar.changes" (defArgs s_Calendar_changes) (defBody s_Calendar_changes) (defScope s_Calendar_changes) .none kV_Calendar_changes dc_Calendar_changes pm_Calendar_changes an_Calendar_changes cd_Calendar_changes ct_Calendar_changes, d_Calendar_eq := PySem.W.fnOf "__eq__" "Calendar.__eq__" (defArgs s_Calendar_eq) (defBody s_Calendar_eq) (defScope s_Calendar_eq) .none kV_Calendar_eq dc_Calendar_eq pm_Calendar_eq an_Calendar_eq cd_Calendar_eq ct_Calendar_eq, d_work_of_weeks := PySem.W.fnOf "work_of_weeks" "work_of_weeks" (defArgs s_work_of_weeks) (defBody s_work_of_weeks) (defScope s_work_of_weeks) .none kV_work_of_weeks dc_work_of_weeks pm_work_of_weeks an_work_of_weeks cd_work_of_weeks ct_work_of_weeks, d_end_of_weeks := PySem.W.fnOf "end_of_weeks" "end_of_weeks" (defArgs s_end_of_weeks) (defBody s_end_of_weeks) (defScope s_end_of_weeks) .none kV_end_of_weeks dc_end_of_weeks pm_end_of_weeks an_end_of_weeks cd_end_of_weeks ct_end_of_weeks, d_begin_of_weeks := PySem.W.fnOf "begin_of_weeks" "begin_of_weeks" (defArgs s_begin_of_weeks) (defBody s_begin_of_weeks) (defScope s_begin_of_weeks) .none kV_begin_of_weeks dc_begin_of_weeks pm_begin_of_weeks an_begin_of_weeks cd_begin_of_weeks ct_begin_of_weeks, d_check_span := PySem.W.fnOf "check_span" "check_span" (defArgs s_check_span) (defBody s_check_span) (defScope s_check_span) .none kV_check_span dc_check_span pm_check_span an_check_span cd_check_span ct_check_span, d_check_amount := PySem.W.fnOf "check_amount" "check_amount" (defArgs s_check_amount) (defBody s_check_amount) (defScope s_check_amount) .none kV_check_amount dc_check_amount pm_check_amount an_check_amount cd_check_amount ct_check_amount, d_work := PySem.W.fnOf "work" "work" (defArgs s_work) (defBody s_work) (defScope s_work) .none kV_work dc_work pm_work an_work cd_work ct_work, d_due := PySem.W.fnOf "due" "due" (defArgs s_due) (defBody s_due) (defScope s_due) .none kV_due dc_due pm_due an_due cd_due ct_due, d_latest := PySem.W.fnOf "latest" "latest" (defArgs s_latest) (defBody s_latest) (defScope s_latest) .none kV_latest dc_latest pm_latest an_latest cd_latest ct_latest, d_left_of := PySem.W.fnOf "left_of" "left_of" (defArgs s_left_of) (defBody s_left_of) (defScope s_left_of) .none kV_left_of dc_left_of pm_left_of an_left_of cd_left_of ct_left_of, d_Ticket_init := PySem.W.fnOf "__init__" "Ticket.__init__" (defArgs s_Ticket_init) (defBody s_Ticket_init) (defScope s_Ticket_init) .none kV_Ticket_init dc_Ticket_init pm_Ticket_init an_Ticket_init cd_Ticket_init ct_Ticket_init, d_Ticket_moment := PySem.W.fnOf "moment" "Ticket.moment" (defArgs s_Ticket_moment) (defBody s_Ticket_moment) (defScope s_Ticket_moment) .none kV_Ticket_moment dc_Ticket_moment pm_Ticket_moment an_Ticket_moment cd_Ticket_moment ct_Ticket_moment, d_Ticket_left := PySem.W.fnOf "left" "Ticket.left" (defArgs s_Ticket_left) (defBody s_Ticket_left) (defScope s_Ticket_left) .none kV_Ticket_left dc_Ticket_left pm_Ticket_left an_Ticket_left cd_Ticket_left ct_Ticket_left, d_Ticket_is_paused := PySem.W.fnOf "is_paused" "Ticket.is_paused" (defArgs s_Ticket_is_paused) (defBody s_Ticket_is_paused) (defScope s_Ticket_is_paused) .none kV_Ticket_is_paused dc_Ticket_is_paused pm_Ticket_is_paused an_Ticket_is_paused cd_Ticket_is_paused ct_Ticket_is_paused, d_Ticket_left_at := PySem.W.fnOf "left_at" "Ticket.left_at" (defArgs s_Ticket_left_at) (defBody s_Ticket_left_at) (defScope s_Ticket_left_at) .none kV_Ticket_left_at dc_Ticket_left_at pm_Ticket_left_at an_Ticket_left_at cd_Ticket_left_at ct_Ticket_left_at, d_Ticket_done_at := PySem.W.fnOf "done_at" "Ticket.done_at" (defArgs s_Ticket_done_at) (defBody s_Ticket_done_at) (defScope s_Ticket_done_at) .none kV_Ticket_done_at dc_Ticket_done_at pm_Ticket_done_at an_Ticket_done_at cd_Ticket_done_at ct_Ticket_done_at, d_Ticket_can_wait := PySem.W.fnOf "can_wait" "Ticket.can_wait" (defArgs s_Ticket_can_wait) (defBody s_Ticket_can_wait) (defScope s_Ticket_can_wait) .none kV_Ticket_can_wait dc_Ticket_can_wait pm_Ticket_can_wait an_Ticket_can_wait cd_Ticket_can_wait ct_Ticket_can_wait, d_Ticket_note := PySem.W.fnOf "note" "Ticket.note" (defArgs s_Ticket_note) (defBody s_Ticket_note) (defScope s_Ticket_note) .none kV_Ticket_note dc_Ticket_note pm_Ticket_note an_Ticket_note cd_Ticket_note ct_Ticket_note, d_Ticket_pause := PySem.W.fnOf "pause" "Ticket.pause" (defArgs s_Ticket_pause) (defBody s_Ticket_pause) (defScope s_Ticket_pause) .none kV_Ticket_pause dc_Ticket_pause pm_Ticket_pause an_Ticket_pause cd_Ticket_pause ct_Ticket_pause, d_Ticket_resume := PySem.W.fnOf "resume" "Ticket.resume" (defArgs s_Ticket_resume) (defBody s_Ticket_resume) (defScope s_Ticket_resume) .none kV_Ticket_resume dc_Ticket_resume pm_Ticket_resume an_Ticket_resume cd_Ticket_resume ct_Ticket_resume, d_Ticket_switch := PySem.W.fnOf "switch" "Ticket.switch" (defArgs s_Ticket_switch) (defBody s_Ticket_switch) (defScope s_Ticket_switch) .none kV_Ticket_switch dc_Ticket_switch pm_Ticket_switch an_Ticket_switch cd_Ticket_switch ct_Ticket_switch, d_Ticket_enlarge := PySem.W.fnOf "enlarge" "Ticket.enlarge" (defArgs s_Ticket_enlarge) (defBody s_Ticket_enlarge) (defScope s_Ticket_enlarge) .none kV_Ticket_enlarge dc_Ticket_enlarge pm_Ticket_enlarge an_Ticket_enlarge cd_Ticket_enlarge ct_Ticket_enlarge, d_Ticket_undo := PySem.W.fnOf "undo" "Ticket.undo" (defArgs s_Ticket_undo) (defBody s_Ticket_undo) (defScope s_Ticket_undo) .none kV_Ticket_undo dc_Ticket_undo pm_Ticket_undo an_Ticket_undo cd_Ticket_undo ct_Ticket_undo, d_Ticket_story := PySem.W.fnOf "story" "Ticket.story" (defArgs s_Ticket_story) (defBody s_Ticket_story) (defScope s_Ticket_story) .none kV_Ticket_story dc_Ticket_story pm_Ticket_story an_Ticket_story cd_Ticket_story ct_Ticket_story, d_Ticket_len := PySem.W.fnOf "__len__" "Ticket.__len__" (defArgs s_Ticket_len) (defBody s_Ticket_len) (defScope s_Ticket_len) .none kV_Ticket_len dc_Ticket_len pm_Ticket_len an_Ticket_len cd_Ticket_len ct_Ticket_len, d_law_well := PySem.W.fnOf "_law_well" "_law_well" (defArgs s_law_well) (defBody s_law_well) (defScope s_law_well) .none kV_law_well dc_law_well pm_law_well an_law_well cd_law_well ct_law_well, d_law_take := PySem.W.fnOf "_law_take" "_law_take" (defArgs s_law_take) (defBody s_law_take) (defScope s_law_take) .none kV_law_take dc_law_take pm_law_take an_law_take cd_law_take ct_law_take, d_law_number := PySem.W.fnOf "_law_number" "_law_number" (defArgs s_law_number) (defBody s_law_number) (defScope s_law_number) .none kV_law_number dc_law_number pm_law_number an_law_number cd_law_number ct_law_number, d_law_paces := PySem.W.fnOf "_law_paces" "_law_paces" (defArgs s_law_paces) (defBody s_law_paces) (defScope s_law_paces) .none kV_law_paces dc_law_paces pm_law_paces an_law_paces cd_law_paces ct_law_paces, d_law_marks := PySem.W.fnOf "_law_marks" "_law_marks" (defArgs s_law_marks) (defBody s_law_marks) (defScope s_law_marks) .none kV_law_marks dc_law_marks pm_law_marks an_law_marks cd_law_marks ct_law_marks, d_law_near := PySem.W.fnOf "_law_near" "_law_near" (defArgs s_law_near) (defBody s_law_near) (defScope s_law_near) .none kV_law_near dc_law_near pm_law_near an_law_near cd_law_near ct_law_near, d_law_told := PySem.W.fnOf "_law_told" "_law_told" (defArgs s_law_told) (defBody s_law_told) (defScope s_law_told) .none kV_law_told dc_law_told pm_law_told an_law_told cd_law_told ct_law_told, d_law_nothing := PySem.W.fnOf "_law_nothing" "_law_nothing" (defArgs s_law_nothing) (defBody s_law_nothing) (defScope s_law_nothing) .none kV_law_nothing dc_law_nothing pm_law_nothing an_law_nothing cd_law_nothing ct_law_nothing, d_law_call := PySem.W.fnOf "_law_call" "_law_call" (defArgs s_law_call) (defBody s_law_call) (defScope s_law_call) .none kV_law_call dc_law_call pm_law_call an_law_call cd_law_call ct_law_call, d_law_look := PySem.W.fnOf "_law_look" "_law_look" (defArgs s_law_look) (defBody s_law_look) (defScope s_law_look) .none kV_law_look dc_law_look pm_law_look an_law_look cd_law_look ct_law_look, d_law_same := PySem.W.fnOf "_law_same" "_law_same" (defArgs s_law_same) (defBody s_law_same) (defScope s_law_same) .none kV_law_same dc_law_same pm_law_same an_law_same cd_law_same ct_law_same, d_law_long := PySem.W.fnOf "_law_long" "_law_long" (defArgs s_law_long) (defBody s_law_long) (defScope s_law_long) .none kV_law_long dc_law_long pm_law_long an_law_long cd_law_long ct_law_long, d_law_fits := PySem.W.fnOf "_law_fits" "_law_fits" (defArgs s_law_fits) (defBody s_law_fits) (defScope s_law_fits) .none kV_law_fits dc_law_fits pm_law_fits an_law_fits cd_law_fits ct_law_fits, d_law := PySem.W.fnOf "law" "law" (defArgs s_law) (defBody s_law) (defScope s_law) .none kV_law dc_law pm_law an_law cd_law ct_law, d_DueError_init := PySem.W.fnOf "__init__" "DueError.__init__" (defArgs s_DueError_init) (defBody s_DueError_init) (defScope s_DueError_init) .none kV_DueError_init dc_DueError_init pm_DueError_init an_DueError_init cd_DueError_init ct_DueError_init, c_Calendar := c_Calendar, c_Ticket := c_Ticket, c_NothingToUndo := c_NothingToUndo, c_DueError := c_DueError, c_WrongState := c_WrongState, c_TooMany := c_TooMany, c_InvalidMoment := c_InvalidMoment, c_InvalidAmount := c_InvalidAmount, p_Calendar_speeds := p_Calendar_speeds, p_Calendar_changes := p_Calendar_changes, p_Ticket_moment := p_Ticket_moment, p_Ticket_left := p_Ticket_left, p_Ticket_is_paused := p_Ticket_is_paused } := by
  exact {
    f_check_speeds := fun_mk (st := s_check_speeds) l_check_speeds q_check_speeds k_check_speeds,
    b_check_speeds := (fun_mk (st := s_check_speeds) l_check_speeds q_check_speeds k_check_speeds).binds (ps := ["speeds"]) fun _ _ _ _ _ _ us hl => match us, hl with | [_], _ => rfl,
    g_check_speeds := PySem.W.mg_of X G a_check_speeds,
    f_check_changes := fun_mk (st := s_check_changes) l_check_changes q_check_changes k_check_changes,
    b_check_changes := (fun_mk (st := s_check_changes) l_check_changes q_check_changes k_check_changes).binds (ps := ["changes"]) fun _ _ _ _ _ _ us hl => match us, hl with | [_], _ => rfl,
    g_check_changes := PySem.W.mg_of X G a_check_changes,
    f_Calendar_init := fun_mk (st := s_Calendar_init) l_Calendar_init q_Calendar_init k_Calendar_init,
    b_Calendar_init := (fun_mk (st := s_Calendar_init) l_Calendar_init q_Calendar_init k_Calendar_init).binds (ps := ["self", "speeds", "changes"]) fun _ _ _ _ _ _ us hl => match us, hl with | [_, _, _], _ => rfl,
    mk_Calendar := ⟨mk_Calendar, a_Calendar_init, i_Calendar_init, kc_Calendar⟩,
    f_Calendar_speeds := fun_mk (st := s_Calendar_speeds) l_Calendar_speeds q_Calendar_speeds k_Calendar_speeds,
    b_Calendar_speeds := (fun_mk (st := s_Calendar_speeds) l_Calendar_speeds q_Calendar_speeds k_Calendar_speeds).binds (ps := ["self"]) fun _ _ _ _ _ _ us hl => match us, hl with | [_], _ => rfl,
    pp_Calendar_speeds := ⟨a_Calendar_speeds, pg_Calendar_speeds, pt_Calendar_speeds, _, pr_Calendar_speeds⟩,
    f_Calendar_changes := fun_mk (st := s_Calendar_changes) l_Calendar_changes q_Calendar_changes k_Calendar_changes,
    b_Calendar_changes := (fun_mk (st := s_Calendar_changes) l_Calendar_changes q_Calendar_changes k_Calendar_changes).binds (ps := ["self"]) fun _ _ _ _ _ _ us hl => match us, hl with | [_], _ => rfl,
    pp_Calendar_changes := ⟨a_Calendar_changes, pg_Calendar_changes, pt_Calendar_changes, _, pr_Calendar_changes⟩,
    f_Calendar_eq := fun_mk (st := s_Calendar_eq) l_Calendar_eq q_Calendar_eq k_Calendar_eq,
    b_Calendar_eq := (fun_mk (st := s_Calendar_eq) l_Calendar_eq q_Calendar_eq k_Calendar_eq).binds (ps := ["self", "other"]) fun _ _ _ _ _ _ us hl => match us, hl with | [_, _], _ => rfl,
    mh_Calendar_eq := ⟨a_Calendar_eq, i_Calendar_eq, k_Calendar_eq⟩,
    f_work_of_weeks := fun_mk (st := s_work_of_weeks) l_work_of_weeks q_work_of_weeks k_work_of_weeks,
    b_work_of_weeks := (fun_mk (st := s_work_of_weeks) l_work_of_weeks q_work_of_weeks k_work_of_weeks).binds (ps := ["speeds", "begin", "end"]) fun _ _ _ _ _ _ us hl => match us, hl with | [_, _, _], _ => rfl,
    g_work_of_weeks := PySem.W.mg_of X G a_work_of_weeks,
    f_end_of_weeks := fun_mk (st := s_end_of_weeks) l_end_of_weeks q_end_of_weeks k_end_of_weeks,
    b_end_of_weeks := (fun_mk (st := s_end_of_weeks) l_end_of_weeks q_end_of_weeks k_end_of_weeks).binds (ps := ["speeds", "begin", "amount"]) fun _ _ _ _ _ _ us hl => match us, hl with | [_, _, _], _ => rfl,
    g_end_of_weeks := PySem.W.mg_of X G a_end_of_weeks,
    f_begin_of_weeks := fun_mk (st := s_begin_of_weeks) l_begin_of_weeks q_begin_of_weeks k_begin_of_weeks,
    b_begin_of_weeks := (fun_mk (st := s_begin_of_weeks) l_begin_of_weeks q_begin_of_weeks k_begin_of_weeks).binds (ps := ["speeds", "end", "amount"]) fun _ _ _ _ _ _ us hl => match us, hl with | [_, _, _], _ => rfl,
    g_begin_of_weeks := PySem.W.mg_of X G a_begin_of_weeks,
    f_check_span := fun_mk (st := s_check_span) l_check_span q_check_span k_check_span,
    b_check_span := (fun_mk (st := s_check_span) l_check_span q_check_span k_check_span).binds (ps := ["begin", "end"]) fun _ _ _ _ _ _ us hl => match us, hl with | [_, _], _ => rfl,
    g_check_span := PySem.W.mg_of X G a_check_span,
    f_check_amount := fun_mk (st := s_check_amount) l_check_amount q_check_amount k_check_amount,
    b_check_amount := (fun_mk (st := s_check_amount) l_check_amount q_check_amount k_check_amount).binds (ps := ["amount"]) fun _ _ _ _ _ _ us hl => match us, hl with | [_], _ => rfl,
    g_check_amount := PySem.W.mg_of X G a_check_amount,
    f_work := fun_mk (st := s_work) l_work q_work k_work,
    b_work := (fun_mk (st := s_work) l_work q_work k_work).binds (ps := ["calendar", "begin", "end"]) fun _ _ _ _ _ _ us hl => match us, hl with | [_, _, _], _ => rfl,
    g_work := PySem.W.mg_of X G a_work,
    f_due := fun_mk (st := s_due) l_due q_due k_due,
    b_due := (fun_mk (st := s_due) l_due q_due k_due).binds (ps := ["calendar", "moment", "amount"]) fun _ _ _ _ _ _ us hl => match us, hl with | [_, _, _], _ => rfl,
    g_due := PySem.W.mg_of X G a_due,
    f_latest := fun_mk (st := s_latest) l_latest q_latest k_latest,
    b_latest := (fun_mk (st := s_latest) l_latest q_latest k_latest).binds (ps := ["calendar", "moment", "amount"]) fun _ _ _ _ _ _ us hl => match us, hl with | [_, _, _], _ => rfl,
    g_latest := PySem.W.mg_of X G a_latest,
    f_left_of := fun_mk (st := s_left_of) l_left_of q_left_of k_left_of,
    b_left_of := (fun_mk (st := s_left_of) l_left_of q_left_of k_left_of).binds (ps := ["state", "moment"]) fun _ _ _ _ _ _ us hl => match us, hl with | [_, _], _ => rfl,
    g_left_of := PySem.W.mg_of X G a_left_of,
    f_Ticket_init := fun_mk (st := s_Ticket_init) l_Ticket_init q_Ticket_init k_Ticket_init,
    b_Ticket_init := (fun_mk (st := s_Ticket_init) l_Ticket_init q_Ticket_init k_Ticket_init).binds (ps := ["self", "calendar", "amount", "moment"]) fun _ _ _ _ _ _ us hl => match us, hl with | [_, _, _, _], _ => rfl,
    mk_Ticket := ⟨mk_Ticket, a_Ticket_init, i_Ticket_init, kc_Ticket⟩,
    f_Ticket_moment := fun_mk (st := s_Ticket_moment) l_Ticket_moment q_Ticket_moment k_Ticket_moment,
    b_Ticket_moment := (fun_mk (st := s_Ticket_moment) l_Ticket_moment q_Ticket_moment k_Ticket_moment).binds (ps := ["self"]) fun _ _ _ _ _ _ us hl => match us, hl with | [_], _ => rfl,
    pp_Ticket_moment := ⟨a_Ticket_moment, pg_Ticket_moment, pt_Ticket_moment, _, pr_Ticket_moment⟩,
    f_Ticket_left := fun_mk (st := s_Ticket_left) l_Ticket_left q_Ticket_left k_Ticket_left,
    b_Ticket_left := (fun_mk (st := s_Ticket_left) l_Ticket_left q_Ticket_left k_Ticket_left).binds (ps := ["self"]) fun _ _ _ _ _ _ us hl => match us, hl with | [_], _ => rfl,
    pp_Ticket_left := ⟨a_Ticket_left, pg_Ticket_left, pt_Ticket_left, _, pr_Ticket_left⟩,
    f_Ticket_is_paused := fun_mk (st := s_Ticket_is_paused) l_Ticket_is_paused q_Ticket_is_paused k_Ticket_is_paused,
    b_Ticket_is_paused := (fun_mk (st := s_Ticket_is_paused) l_Ticket_is_paused q_Ticket_is_paused k_Ticket_is_paused).binds (ps := ["self"]) fun _ _ _ _ _ _ us hl => match us, hl with | [_], _ => rfl,
    pp_Ticket_is_paused := ⟨a_Ticket_is_paused, pg_Ticket_is_paused, pt_Ticket_is_paused, _, pr_Ticket_is_paused⟩,
    f_Ticket_left_at := fun_mk (st := s_Ticket_left_at) l_Ticket_left_at q_Ticket_left_at k_Ticket_left_at,
    b_Ticket_left_at := (fun_mk (st := s_Ticket_left_at) l_Ticket_left_at q_Ticket_left_at k_Ticket_left_at).binds (ps := ["self", "moment"]) fun _ _ _ _ _ _ us hl => match us, hl with | [_, _], _ => rfl,
    mh_Ticket_left_at := ⟨a_Ticket_left_at, i_Ticket_left_at, k_Ticket_left_at⟩,
    f_Ticket_done_at := fun_mk (st := s_Ticket_done_at) l_Ticket_done_at q_Ticket_done_at k_Ticket_done_at,
    b_Ticket_done_at := (fun_mk (st := s_Ticket_done_at) l_Ticket_done_at q_Ticket_done_at k_Ticket_done_at).binds (ps := ["self"]) fun _ _ _ _ _ _ us hl => match us, hl with | [_], _ => rfl,
    mh_Ticket_done_at := ⟨a_Ticket_done_at, i_Ticket_done_at, k_Ticket_done_at⟩,
    f_Ticket_can_wait := fun_mk (st := s_Ticket_can_wait) l_Ticket_can_wait q_Ticket_can_wait k_Ticket_can_wait,
    b_Ticket_can_wait := (fun_mk (st := s_Ticket_can_wait) l_Ticket_can_wait q_Ticket_can_wait k_Ticket_can_wait).binds (ps := ["self", "limit"]) fun _ _ _ _ _ _ us hl => match us, hl with | [_, _], _ => rfl,
    mh_Ticket_can_wait := ⟨a_Ticket_can_wait, i_Ticket_can_wait, k_Ticket_can_wait⟩,
    f_Ticket_note := fun_mk (st := s_Ticket_note) l_Ticket_note q_Ticket_note k_Ticket_note,
    b_Ticket_note := (fun_mk (st := s_Ticket_note) l_Ticket_note q_Ticket_note k_Ticket_note).binds (ps := ["self", "call", "state"]) fun _ _ _ _ _ _ us hl => match us, hl with | [_, _, _], _ => rfl,
    mh_Ticket_note := ⟨a_Ticket_note, i_Ticket_note, k_Ticket_note⟩,
    f_Ticket_pause := fun_mk (st := s_Ticket_pause) l_Ticket_pause q_Ticket_pause k_Ticket_pause,
    b_Ticket_pause := (fun_mk (st := s_Ticket_pause) l_Ticket_pause q_Ticket_pause k_Ticket_pause).binds (ps := ["self", "moment"]) fun _ _ _ _ _ _ us hl => match us, hl with | [_, _], _ => rfl,
    mh_Ticket_pause := ⟨a_Ticket_pause, i_Ticket_pause, k_Ticket_pause⟩,
    f_Ticket_resume := fun_mk (st := s_Ticket_resume) l_Ticket_resume q_Ticket_resume k_Ticket_resume,
    b_Ticket_resume := (fun_mk (st := s_Ticket_resume) l_Ticket_resume q_Ticket_resume k_Ticket_resume).binds (ps := ["self", "moment"]) fun _ _ _ _ _ _ us hl => match us, hl with | [_, _], _ => rfl,
    mh_Ticket_resume := ⟨a_Ticket_resume, i_Ticket_resume, k_Ticket_resume⟩,
    f_Ticket_switch := fun_mk (st := s_Ticket_switch) l_Ticket_switch q_Ticket_switch k_Ticket_switch,
    b_Ticket_switch := (fun_mk (st := s_Ticket_switch) l_Ticket_switch q_Ticket_switch k_Ticket_switch).binds (ps := ["self", "calendar", "moment"]) fun _ _ _ _ _ _ us hl => match us, hl with | [_, _, _], _ => rfl,
    mh_Ticket_switch := ⟨a_Ticket_switch, i_Ticket_switch, k_Ticket_switch⟩,
    f_Ticket_enlarge := fun_mk (st := s_Ticket_enlarge) l_Ticket_enlarge q_Ticket_enlarge k_Ticket_enlarge,
    b_Ticket_enlarge := (fun_mk (st := s_Ticket_enlarge) l_Ticket_enlarge q_Ticket_enlarge k_Ticket_enlarge).binds (ps := ["self", "amount", "moment"]) fun _ _ _ _ _ _ us hl => match us, hl with | [_, _, _], _ => rfl,
    mh_Ticket_enlarge := ⟨a_Ticket_enlarge, i_Ticket_enlarge, k_Ticket_enlarge⟩,
    f_Ticket_undo := fun_mk (st := s_Ticket_undo) l_Ticket_undo q_Ticket_undo k_Ticket_undo,
    b_Ticket_undo := (fun_mk (st := s_Ticket_undo) l_Ticket_undo q_Ticket_undo k_Ticket_undo).binds (ps := ["self"]) fun _ _ _ _ _ _ us hl => match us, hl with | [_], _ => rfl,
    mh_Ticket_undo := ⟨a_Ticket_undo, i_Ticket_undo, k_Ticket_undo⟩,
    f_Ticket_story := fun_mk (st := s_Ticket_story) l_Ticket_story q_Ticket_story k_Ticket_story,
    b_Ticket_story := (fun_mk (st := s_Ticket_story) l_Ticket_story q_Ticket_story k_Ticket_story).binds (ps := ["self"]) fun _ _ _ _ _ _ us hl => match us, hl with | [_], _ => rfl,
    mh_Ticket_story := ⟨a_Ticket_story, i_Ticket_story, k_Ticket_story⟩,
    f_Ticket_len := fun_mk (st := s_Ticket_len) l_Ticket_len q_Ticket_len k_Ticket_len,
    b_Ticket_len := (fun_mk (st := s_Ticket_len) l_Ticket_len q_Ticket_len k_Ticket_len).binds (ps := ["self"]) fun _ _ _ _ _ _ us hl => match us, hl with | [_], _ => rfl,
    mh_Ticket_len := ⟨a_Ticket_len, i_Ticket_len, k_Ticket_len⟩,
    f_law_well := fun_mk (st := s_law_well) l_law_well q_law_well k_law_well,
    b_law_well := (fun_mk (st := s_law_well) l_law_well q_law_well k_law_well).binds (ps := ["script", "place"]) fun _ _ _ _ _ _ us hl => match us, hl with | [_, _], _ => rfl,
    g_law_well := PySem.W.mg_of X G a_law_well,
    f_law_take := fun_mk (st := s_law_take) l_law_take q_law_take k_law_take,
    b_law_take := (fun_mk (st := s_law_take) l_law_take q_law_take k_law_take).binds (ps := ["well", "many"]) fun _ _ _ _ _ _ us hl => match us, hl with | [_, _], _ => rfl,
    g_law_take := PySem.W.mg_of X G a_law_take,
    f_law_number := fun_mk (st := s_law_number) l_law_number q_law_number k_law_number,
    b_law_number := (fun_mk (st := s_law_number) l_law_number q_law_number k_law_number).binds (ps := ["well"]) fun _ _ _ _ _ _ us hl => match us, hl with | [_], _ => rfl,
    g_law_number := PySem.W.mg_of X G a_law_number,
    f_law_paces := fun_mk (st := s_law_paces) l_law_paces q_law_paces k_law_paces,
    b_law_paces := (fun_mk (st := s_law_paces) l_law_paces q_law_paces k_law_paces).binds (ps := ["well", "size"]) fun _ _ _ _ _ _ us hl => match us, hl with | [_, _], _ => rfl,
    g_law_paces := PySem.W.mg_of X G a_law_paces,
    f_law_marks := fun_mk (st := s_law_marks) l_law_marks q_law_marks k_law_marks,
    b_law_marks := (fun_mk (st := s_law_marks) l_law_marks q_law_marks k_law_marks).binds (ps := ["well", "size", "cap"]) fun _ _ _ _ _ _ us hl => match us, hl with | [_, _, _], _ => rfl,
    g_law_marks := PySem.W.mg_of X G a_law_marks,
    f_law_near := fun_mk (st := s_law_near) l_law_near q_law_near k_law_near,
    b_law_near := (fun_mk (st := s_law_near) l_law_near q_law_near k_law_near).binds (ps := ["well", "marks", "back"]) fun _ _ _ _ _ _ us hl => match us, hl with | [_, _, _], _ => rfl,
    g_law_near := PySem.W.mg_of X G a_law_near,
    f_law_told := fun_mk (st := s_law_told) l_law_told q_law_told k_law_told,
    b_law_told := (fun_mk (st := s_law_told) l_law_told q_law_told k_law_told).binds (ps := ["ticket"]) fun _ _ _ _ _ _ us hl => match us, hl with | [_], _ => rfl,
    g_law_told := PySem.W.mg_of X G a_law_told,
    f_law_nothing := fun_mk (st := s_law_nothing) l_law_nothing q_law_nothing k_law_nothing,
    b_law_nothing := (fun_mk (st := s_law_nothing) l_law_nothing q_law_nothing k_law_nothing).binds (ps := ["ticket"]) fun _ _ _ _ _ _ us hl => match us, hl with | [_], _ => rfl,
    g_law_nothing := PySem.W.mg_of X G a_law_nothing,
    f_law_call := fun_mk (st := s_law_call) l_law_call q_law_call k_law_call,
    b_law_call := (fun_mk (st := s_law_call) l_law_call q_law_call k_law_call).binds (ps := ["well", "ticket", "spot", "lists"]) fun _ _ _ _ _ _ us hl => match us, hl with | [_, _, _, _], _ => rfl,
    g_law_call := PySem.W.mg_of X G a_law_call,
    f_law_look := fun_mk (st := s_law_look) l_law_look q_law_look k_law_look,
    b_law_look := (fun_mk (st := s_law_look) l_law_look q_law_look k_law_look).binds (ps := ["ticket", "bound"]) fun _ _ _ _ _ _ us hl => match us, hl with | [_, _], _ => rfl,
    g_law_look := PySem.W.mg_of X G a_law_look,
    f_law_same := fun_mk (st := s_law_same) l_law_same q_law_same k_law_same,
    b_law_same := (fun_mk (st := s_law_same) l_law_same q_law_same k_law_same).binds (ps := ["story", "want"]) fun _ _ _ _ _ _ us hl => match us, hl with | [_, _], _ => rfl,
    g_law_same := PySem.W.mg_of X G a_law_same,
    f_law_long := fun_mk (st := s_law_long) l_law_long q_law_long k_law_long,
    b_law_long := (fun_mk (st := s_law_long) l_law_long q_law_long k_law_long).binds (ps := ["made", "at", "load", "many"]) fun _ _ _ _ _ _ us hl => match us, hl with | [_, _, _, _], _ => rfl,
    g_law_long := PySem.W.mg_of X G a_law_long,
    f_law_fits := fun_mk (st := s_law_fits) l_law_fits q_law_fits k_law_fits,
    b_law_fits := (fun_mk (st := s_law_fits) l_law_fits q_law_fits k_law_fits).binds (ps := ["well"]) fun _ _ _ _ _ _ us hl => match us, hl with | [_], _ => rfl,
    g_law_fits := PySem.W.mg_of X G a_law_fits,
    f_law := fun_mk (st := s_law) l_law q_law k_law,
    b_law := (fun_mk (st := s_law) l_law q_law k_law).binds (ps := ["script"]) fun _ _ _ _ _ _ us hl => match us, hl with | [_], _ => rfl,
    g_law := PySem.W.mg_of X G a_law,
    f_DueError_init := fun_mk (st := s_DueError_init) l_DueError_init q_DueError_init k_DueError_init,
    b_DueError_init := (fun_mk (st := s_DueError_init) l_DueError_init q_DueError_init k_DueError_init).binds (ps := ["self", "value"]) fun _ _ _ _ _ _ us hl => match us, hl with | [_, _], _ => rfl,
    tI := tI,
    c_Calendar := PySem.W.mg_of X G aC_Calendar,
    c_Ticket := PySem.W.mg_of X G aC_Ticket,
    c_NothingToUndo := PySem.W.mg_of X G aC_NothingToUndo,
    c_DueError := PySem.W.mg_of X G aC_DueError,
    c_WrongState := PySem.W.mg_of X G aC_WrongState,
    c_TooMany := PySem.W.mg_of X G aC_TooMany,
    c_InvalidMoment := PySem.W.mg_of X G aC_InvalidMoment,
    c_InvalidAmount := PySem.W.mg_of X G aC_InvalidAmount,
    cl_Calendar := ⟨pg_Calendar, hd_Calendar, po_Calendar, sa_Calendar⟩,
    cl_Ticket := ⟨pg_Ticket, hd_Ticket, po_Ticket, sa_Ticket⟩,
    x_NothingToUndo := ⟨⟨⟨_, _, _, _, _, _, _, _, _, _, _, _, _, _, _, xo_NothingToUndo, xr_NothingToUndo⟩, xsa_NothingToUndo, xsu_NothingToUndo, xty_NothingToUndo, xk_NothingToUndo⟩, xv_NothingToUndo, xi_NothingToUndo⟩,
    xg_NothingToUndo := ⟨⟨yg_NothingToUndo, yk_NothingToUndo, ys_NothingToUndo, yd_NothingToUndo, ya_NothingToUndo, yn_NothingToUndo, yt_NothingToUndo, ym_NothingToUndo⟩, yv_NothingToUndo⟩,
    na_real_changes := n_real_changes,
    na_week_speeds := n_week_speeds,
    na_states := n_states,
    na_calls := n_calls,
    na_most := n_most,
    na_asked := n_asked,
    z_max := PySem.W.mg_none_of X G z_max,
    z_enumerate := PySem.W.mg_none_of X G z_enumerate,
    z_len := PySem.W.mg_none_of X G z_len,
    z_tuple := PySem.W.mg_none_of X G z_tuple,
    z_list := PySem.W.mg_none_of X G z_list,
    z_isinstance := PySem.W.mg_none_of X G z_isinstance,
    z_sum := PySem.W.mg_none_of X G z_sum,
    z_int := PySem.W.mg_none_of X G z_int,
    z_abs := PySem.W.mg_none_of X G z_abs,
    z_range := PySem.W.mg_none_of X G z_range,
    z_repr := PySem.W.mg_none_of X G z_repr,
    z_zip := PySem.W.mg_none_of X G z_zip,
    z_min := PySem.W.mg_none_of X G z_min,
    g_FASTEST := ⟨_, PySem.W.mg_of X G g_FASTEST, _, rfl⟩,
    g_LONGEST_WEEK := ⟨_, PySem.W.mg_of X G g_LONGEST_WEEK, _, rfl⟩,
    ty1 := ty1,
    ty2 := ty2,
    ty3 := ty3,
    ty4 := ty4,
    ki_NothingToUndo_NothingToUndo := (kit_sub se_NothingToUndo ic_NothingToUndo it_NothingToUndo su_NothingToUndo_NothingToUndo).2,
    ki_NothingToUndo_InvalidAmount := (kit_sub se_NothingToUndo ic_InvalidAmount it_InvalidAmount su_NothingToUndo_InvalidAmount).2,
    ki_NothingToUndo_InvalidMoment := (kit_sub se_NothingToUndo ic_InvalidMoment it_InvalidMoment su_NothingToUndo_InvalidMoment).2,
    ki_NothingToUndo_TooMany := (kit_sub se_NothingToUndo ic_TooMany it_TooMany su_NothingToUndo_TooMany).2,
    ki_NothingToUndo_WrongState := (kit_sub se_NothingToUndo ic_WrongState it_WrongState su_NothingToUndo_WrongState).2,
    ki_NothingToUndo_DueError := (kit_sub se_NothingToUndo ic_DueError it_DueError su_NothingToUndo_DueError).2,
    ex_NothingToUndo_DueError := exm_sub bs_DueError se_NothingToUndo ic_DueError it_DueError su_NothingToUndo_DueError,
    bl_law := fun s v => .of_eq rfl }
end T64

namespace T64
open PySem PySem.Spec PyProof.Rows L2 TL
theorem law_mk {P : Program} {w : World} {K : PySem.W.Frag} {mg : Str → Option Value} {a : Ads} {fa : Addr} (hmg : mg "law" = some (.ref fa)) (T : Txt K mg a) :
    ∃ fd : FuncData, (∀ (s : Shared) (u : Value), BindsTo s fd ⟨[u], []⟩ [("script", u)]) ∧ ∀ base : Heap, K.In base → base.Ns mainGlobals mg → FnG P w K mg base 32 fa fd ["script"] (TSp K 1 F_script) := by
  cases T.g_law.symm.trans hmg
  exact ⟨a.d_law, T.bl_law, fun base _ _ => ok_law T⟩
theorem walk {l : PySem.W.OpenLaw} {q : Program} {loose : List Str} {XP : (Str → Option Value) → Heap → Prop} {YP : World → Heap → Prop} {d : DefRec} {K : Params → PySem.W.Frag} (hn : l.most = some 63) (hdf : d.params.defaults = [])
    (hY : ∀ (w : World) (h : Heap), YP w h → (K w.params).In h)
    (F : ∀ (w : World) (mg : Str → Option Value) (fa : Addr) (h : Heap), (K w.params).In h → h.Ns mainGlobals mg → mg d.name = some (.ref fa) →
      ∃ fd : FuncData, (∀ (s : Shared) (u : Value), BindsTo s fd ⟨[u], []⟩ [("script", u)]) ∧ ∀ base : Heap, (K w.params).In base → base.Ns mainGlobals mg → FnG l.prog w (K w.params) mg base 32 fa fd ["script"] (TSp (K w.params) 1 F_script)) :
    PySem.W.WalkO q loose XP YP l.row.toRowW d [] (fun f vs => PySem.call f vs) :=
  walkG (n := 63) (k := 32) (x := "script") (F := fun _ => F_script) hn (by decide) hdf ⟨rfl, by decide, by decide⟩ hY F (fun _ ns hl => ⟨ns, rfl, hl, fun _ => rfl⟩)
end T64
open PySem PySem.W PyProof.Rows in
theorem PySem.Challenge.cw_dueclocks_k64_tickets_taken_back_holds : PySem.Challenge.rw_dueclocks_k64_tickets_taken_back.Holds := by
  w_on; o_law; k_head; (case hw => w_witness2)
  k_fill
  refine T64.walk (l := PySem.Challenge.rw_dueclocks_k64_tickets_taken_back) rfl rfl (fun w h Y => PySem.W.kIn_of Y) ?F
  case F =>
    intro w mg fa h KX G hmg
    refine' T64.law_mk hmg (T64.all_mk KX G ?aC_Calendar ?aC_Ticket ?aC_NothingToUndo ?aC_DueError ?aC_WrongState ?aC_TooMany ?aC_InvalidMoment ?aC_InvalidAmount ?a_check_speeds ?l_check_speeds ?q_check_speeds ?k_check_speeds ?a_check_changes ?l_check_changes ?q_check_changes ?k_check_changes ?a_Calendar_init ?i_Calendar_init ?l_Calendar_init ?q_Calendar_init ?k_Calendar_init ?a_Calendar_speeds ?pg_Calendar_speeds ?pt_Calendar_speeds ?pr_Calendar_speeds ?l_Calendar_speeds ?q_Calendar_speeds ?k_Calendar_speeds ?a_Calendar_changes ?pg_Calendar_changes ?pt_Calendar_changes ?pr_Calendar_changes ?l_Calendar_changes ?q_Calendar_changes ?k_Calendar_changes ?a_Calendar_eq ?i_Calendar_eq ?l_Calendar_eq ?q_Calendar_eq ?k_Calendar_eq ?a_work_of_weeks ?l_work_of_weeks ?q_work_of_weeks ?k_work_of_weeks ?a_end_of_weeks ?l_end_of_weeks ?q_end_of_weeks ?k_end_of_weeks ?a_begin_of_weeks ?l_begin_of_weeks ?q_begin_of_weeks ?k_begin_of_weeks ?a_check_span ?l_check_span ?q_check_span ?k_check_span ?a_check_amount ?l_check_amount ?q_check_amount ?k_check_amount ?a_work ?l_work ?q_work ?k_work ?a_due ?l_due ?q_due ?k_due ?a_latest ?l_latest ?q_latest ?k_latest ?a_left_of ?l_left_of ?q_left_of ?k_left_of ?a_Ticket_init ?i_Ticket_init ?l_Ticket_init ?q_Ticket_init ?k_Ticket_init ?a_Ticket_moment ?pg_Ticket_moment ?pt_Ticket_moment ?pr_Ticket_moment ?l_Ticket_moment ?q_Ticket_moment ?k_Ticket_moment ?a_Ticket_left ?pg_Ticket_left ?pt_Ticket_left ?pr_Ticket_left ?l_Ticket_left ?q_Ticket_left ?k_Ticket_left ?a_Ticket_is_paused ?pg_Ticket_is_paused ?pt_Ticket_is_paused ?pr_Ticket_is_paused ?l_Ticket_is_paused ?q_Ticket_is_paused ?k_Ticket_is_paused ?a_Ticket_left_at ?i_Ticket_left_at ?l_Ticket_left_at ?q_Ticket_left_at ?k_Ticket_left_at ?a_Ticket_done_at ?i_Ticket_done_at ?l_Ticket_done_at ?q_Ticket_done_at ?k_Ticket_done_at ?a_Ticket_can_wait ?i_Ticket_can_wait ?l_Ticket_can_wait ?q_Ticket_can_wait ?k_Ticket_can_wait ?a_Ticket_note ?i_Ticket_note ?l_Ticket_note ?q_Ticket_note ?k_Ticket_note ?a_Ticket_pause ?i_Ticket_pause ?l_Ticket_pause ?q_Ticket_pause ?k_Ticket_pause ?a_Ticket_resume ?i_Ticket_resume ?l_Ticket_resume ?q_Ticket_resume ?k_Ticket_resume ?a_Ticket_switch ?i_Ticket_switch ?l_Ticket_switch ?q_Ticket_switch ?k_Ticket_switch ?a_Ticket_enlarge ?i_Ticket_enlarge ?l_Ticket_enlarge ?q_Ticket_enlarge ?k_Ticket_enlarge ?a_Ticket_undo ?i_Ticket_undo ?l_Ticket_undo ?q_Ticket_undo ?k_Ticket_undo ?a_Ticket_story ?i_Ticket_story ?l_Ticket_story ?q_Ticket_story ?k_Ticket_story ?a_Ticket_len ?i_Ticket_len ?l_Ticket_len ?q_Ticket_len ?k_Ticket_len ?a_law_well ?l_law_well ?q_law_well ?k_law_well ?a_law_take ?l_law_take ?q_law_take ?k_law_take ?a_law_number ?l_law_number ?q_law_number ?k_law_number ?a_law_paces ?l_law_paces ?q_law_paces ?k_law_paces ?a_law_marks ?l_law_marks ?q_law_marks ?k_law_marks ?a_law_near ?l_law_near ?q_law_near ?k_law_near ?a_law_told ?l_law_told ?q_law_told ?k_law_told ?a_law_nothing ?l_law_nothing ?q_law_nothing ?k_law_nothing ?a_law_call ?l_law_call ?q_law_call ?k_law_call ?a_law_look ?l_law_look ?q_law_look ?k_law_look ?a_law_same ?l_law_same ?q_law_same ?k_law_same ?a_law_long ?l_law_long ?q_law_long ?k_law_long ?a_law_fits ?l_law_fits ?q_law_fits ?k_law_fits ?a_law ?l_law ?q_law ?k_law ?a_DueError_init ?l_DueError_init ?q_DueError_init ?k_DueError_init ?tI ?pg_Calendar ?hd_Calendar ?po_Calendar ?sa_Calendar ?mk_Calendar ?kc_Calendar ?pg_Ticket ?hd_Ticket ?po_Ticket ?sa_Ticket ?mk_Ticket ?kc_Ticket ?xo_NothingToUndo ?xr_NothingToUndo ?xsa_NothingToUndo ?xsu_NothingToUndo ?xty_NothingToUndo ?xk_NothingToUndo ?xv_NothingToUndo ?xi_NothingToUndo ?yg_NothingToUndo ?yk_NothingToUndo ?ys_NothingToUndo ?yd_NothingToUndo ?ya_NothingToUndo ?yn_NothingToUndo ?yt_NothingToUndo ?ym_NothingToUndo ?yv_NothingToUndo ?n_real_changes ?n_week_speeds ?n_states ?n_calls ?n_most ?n_asked ?z_max ?z_enumerate ?z_len ?z_tuple ?z_list ?z_isinstance ?z_sum ?z_int ?z_abs ?z_range ?z_repr ?z_zip ?z_min ?g_FASTEST ?g_LONGEST_WEEK ?ty1 ?ty2 ?ty3 ?ty4 ?se_NothingToUndo ?ic_DueError ?it_DueError ?ic_InvalidAmount ?it_InvalidAmount ?ic_InvalidMoment ?it_InvalidMoment ?ic_NothingToUndo ?it_NothingToUndo ?ic_TooMany ?it_TooMany ?ic_WrongState ?it_WrongState ?bs_DueError ?su_NothingToUndo_NothingToUndo ?su_NothingToUndo_InvalidAmount ?su_NothingToUndo_InvalidMoment ?su_NothingToUndo_TooMany ?su_NothingToUndo_WrongState ?su_NothingToUndo_DueError)
    (case aC_Calendar => k_is)
    (case aC_Ticket => k_is)
    (case aC_NothingToUndo => k_is)
    (case aC_DueError => k_is)
    (case aC_WrongState => k_is)
    (case aC_TooMany => k_is)
    (case aC_InvalidMoment => k_is)
    (case aC_InvalidAmount => k_is)
    (case a_check_speeds => k_is)
    (case l_check_speeds => k_is)
    (case q_check_speeds => k_is)
    (case k_check_speeds => k_is)
    (case a_check_changes => k_is)
    (case l_check_changes => k_is)
    (case q_check_changes => k_is)
    (case k_check_changes => k_is)
    (case a_Calendar_init => k_is)
    (case i_Calendar_init => k_is)
    (case l_Calendar_init => k_is)
    (case q_Calendar_init => k_is)
    (case k_Calendar_init => k_is)
    (case a_Calendar_speeds => k_is)
    (case pg_Calendar_speeds => k_is)
    (case pt_Calendar_speeds => k_is)
    (case pr_Calendar_speeds => k_is)
    (case l_Calendar_speeds => k_is)
    (case q_Calendar_speeds => k_is)
    (case k_Calendar_speeds => k_is)
    (case a_Calendar_changes => k_is)
    (case pg_Calendar_changes => k_is)
    (case pt_Calendar_changes => k_is)
    (case pr_Calendar_changes => k_is)
    (case l_Calendar_changes => k_is)
    (case q_Calendar_changes => k_is)
    (case k_Calendar_changes => k_is)
    (case a_Calendar_eq => k_is)
    (case i_Calendar_eq => k_is)
    (case l_Calendar_eq => k_is)
    (case q_Calendar_eq => k_is)
    (case k_Calendar_eq => k_is)
    (case a_work_of_weeks => k_is)
    (case l_work_of_weeks => k_is)
    (case q_work_of_weeks => k_is)
    (case k_work_of_weeks => k_is)
    (case a_end_of_weeks => k_is)
    (case l_end_of_weeks => k_is)
    (case q_end_of_weeks => k_is)
    (case k_end_of_weeks => k_is)
    (case a_begin_of_weeks => k_is)
    (case l_begin_of_weeks => k_is)
    (case q_begin_of_weeks => k_is)
    (case k_begin_of_weeks => k_is)
    (case a_check_span => k_is)
    (case l_check_span => k_is)
    (case q_check_span => k_is)
    (case k_check_span => k_is)
    (case a_check_amount => k_is)
    (case l_check_amount => k_is)
    (case q_check_amount => k_is)
    (case k_check_amount => k_is)
    (case a_work => k_is)
    (case l_work => k_is)
    (case q_work => k_is)
    (case k_work => k_is)
    (case a_due => k_is)
    (case l_due => k_is)
    (case q_due => k_is)
    (case k_due => k_is)
    (case a_latest => k_is)
    (case l_latest => k_is)
    (case q_latest => k_is)
    (case k_latest => k_is)
    (case a_left_of => k_is)
    (case l_left_of => k_is)
    (case q_left_of => k_is)
    (case k_left_of => k_is)
    (case a_Ticket_init => k_is)
    (case i_Ticket_init => k_is)
    (case l_Ticket_init => k_is)
    (case q_Ticket_init => k_is)
    (case k_Ticket_init => k_is)
    (case a_Ticket_moment => k_is)
    (case pg_Ticket_moment => k_is)
    (case pt_Ticket_moment => k_is)
    (case pr_Ticket_moment => k_is)
    (case l_Ticket_moment => k_is)
    (case q_Ticket_moment => k_is)
    (case k_Ticket_moment => k_is)
    (case a_Ticket_left => k_is)
    (case pg_Ticket_left => k_is)
    (case pt_Ticket_left => k_is)
    (case pr_Ticket_left => k_is)
    (case l_Ticket_left => k_is)
    (case q_Ticket_left => k_is)
    (case k_Ticket_left => k_is)
    (case a_Ticket_is_paused => k_is)
    (case pg_Ticket_is_paused => k_is)
    (case pt_Ticket_is_paused => k_is)
    (case pr_Ticket_is_paused => k_is)
    (case l_Ticket_is_paused => k_is)
    (case q_Ticket_is_paused => k_is)
    (case k_Ticket_is_paused => k_is)
    (case a_Ticket_left_at => k_is)
    (case i_Ticket_left_at => k_is)
    (case l_Ticket_left_at => k_is)
    (case q_Ticket_left_at => k_is)
    (case k_Ticket_left_at => k_is)
    (case a_Ticket_done_at => k_is)
    (case i_Ticket_done_at => k_is)
    (case l_Ticket_done_at => k_is)
    (case q_Ticket_done_at => k_is)
    (case k_Ticket_done_at => k_is)
    (case a_Ticket_can_wait => k_is)
    (case i_Ticket_can_wait => k_is)
    (case l_Ticket_can_wait => k_is)
    (case q_Ticket_can_wait => k_is)
    (case k_Ticket_can_wait => k_is)
    (case a_Ticket_note => k_is)
    (case i_Ticket_note => k_is)
    (case l_Ticket_note => k_is)
    (case q_Ticket_note => k_is)
    (case k_Ticket_note => k_is)
    (case a_Ticket_pause => k_is)
    (case i_Ticket_pause => k_is)
    (case l_Ticket_pause => k_is)
    (case q_Ticket_pause => k_is)
    (case k_Ticket_pause => k_is)
    (case a_Ticket_resume => k_is)
    (case i_Ticket_resume => k_is)
    (case l_Ticket_resume => k_is)
    (case q_Ticket_resume => k_is)
    (case k_Ticket_resume => k_is)
    (case a_Ticket_switch => k_is)
    (case i_Ticket_switch => k_is)
    (case l_Ticket_switch => k_is)
    (case q_Ticket_switch => k_is)
    (case k_Ticket_switch => k_is)
    (case a_Ticket_enlarge => k_is)
    (case i_Ticket_enlarge => k_is)
    (case l_Ticket_enlarge => k_is)
    (case q_Ticket_enlarge => k_is)
    (case k_Ticket_enlarge => k_is)
    (case a_Ticket_undo => k_is)
    (case i_Ticket_undo => k_is)
    (case l_Ticket_undo => k_is)
    (case q_Ticket_undo => k_is)
    (case k_Ticket_undo => k_is)
    (case a_Ticket_story => k_is)
    (case i_Ticket_story => k_is)
    (case l_Ticket_story => k_is)
    (case q_Ticket_story => k_is)
    (case k_Ticket_story => k_is)
    (case a_Ticket_len => k_is)
    (case i_Ticket_len => k_is)
    (case l_Ticket_len => k_is)
    (case q_Ticket_len => k_is)
    (case k_Ticket_len => k_is)
    (case a_law_well => k_is)
    (case l_law_well => k_is)
    (case q_law_well => k_is)
    (case k_law_well => k_is)
    (case a_law_take => k_is)
    (case l_law_take => k_is)
    (case q_law_take => k_is)
    (case k_law_take => k_is)
    (case a_law_number => k_is)
    (case l_law_number => k_is)
    (case q_law_number => k_is)
    (case k_law_number => k_is)
    (case a_law_paces => k_is)
    (case l_law_paces => k_is)
    (case q_law_paces => k_is)
    (case k_law_paces => k_is)
    (case a_law_marks => k_is)
    (case l_law_marks => k_is)
    (case q_law_marks => k_is)
    (case k_law_marks => k_is)
    (case a_law_near => k_is)
    (case l_law_near => k_is)
    (case q_law_near => k_is)
    (case k_law_near => k_is)
    (case a_law_told => k_is)
    (case l_law_told => k_is)
    (case q_law_told => k_is)
    (case k_law_told => k_is)
    (case a_law_nothing => k_is)
    (case l_law_nothing => k_is)
    (case q_law_nothing => k_is)
    (case k_law_nothing => k_is)
    (case a_law_call => k_is)
    (case l_law_call => k_is)
    (case q_law_call => k_is)
    (case k_law_call => k_is)
    (case a_law_look => k_is)
    (case l_law_look => k_is)
    (case q_law_look => k_is)
    (case k_law_look => k_is)
    (case a_law_same => k_is)
    (case l_law_same => k_is)
    (case q_law_same => k_is)
    (case k_law_same => k_is)
    (case a_law_long => k_is)
    (case l_law_long => k_is)
    (case q_law_long => k_is)
    (case k_law_long => k_is)
    (case a_law_fits => k_is)
    (case l_law_fits => k_is)
    (case q_law_fits => k_is)
    (case k_law_fits => k_is)
    (case a_law => k_is)
    (case l_law => k_is)
    (case q_law => k_is)
    (case k_law => k_is)
    (case a_DueError_init => k_is)
    (case l_DueError_init => k_is)
    (case q_DueError_init => k_is)
    (case k_DueError_init => k_is)
    (case tI => k_is)
    (case pg_Calendar => k_is)
    (case hd_Calendar => k_is)
    (case po_Calendar => k_is)
    (case sa_Calendar => k_is)
    (case mk_Calendar => k_is)
    (case kc_Calendar => k_is)
    (case pg_Ticket => k_is)
    (case hd_Ticket => k_is)
    (case po_Ticket => k_is)
    (case sa_Ticket => k_is)
    (case mk_Ticket => k_is)
    (case kc_Ticket => k_is)
    (case xo_NothingToUndo => k_is)
    (case xr_NothingToUndo => decide +kernel)
    (case xsa_NothingToUndo => k_is)
    (case xsu_NothingToUndo => k_is)
    (case xty_NothingToUndo => k_is)
    (case xk_NothingToUndo => k_is)
    (case xv_NothingToUndo => k_is)
    (case xi_NothingToUndo => k_is)
    (case yg_NothingToUndo => k_is)
    (case yk_NothingToUndo => k_is)
    (case ys_NothingToUndo => k_is)
    (case yd_NothingToUndo => k_is)
    (case ya_NothingToUndo => k_is)
    (case yn_NothingToUndo => k_is)
    (case yt_NothingToUndo => k_is)
    (case ym_NothingToUndo => k_is)
    (case yv_NothingToUndo => k_is)
    (case n_real_changes => k_is)
    (case n_week_speeds => k_is)
    (case n_states => k_is)
    (case n_calls => k_is)
    (case n_most => k_is)
    (case n_asked => k_is)
    (case z_max => k_is)
    (case z_enumerate => k_is)
    (case z_len => k_is)
    (case z_tuple => k_is)
    (case z_list => k_is)
    (case z_isinstance => k_is)
    (case z_sum => k_is)
    (case z_int => k_is)
    (case z_abs => k_is)
    (case z_range => k_is)
    (case z_repr => k_is)
    (case z_zip => k_is)
    (case z_min => k_is)
    (case g_FASTEST => k_is)
    (case g_LONGEST_WEEK => k_is)
    (case ty1 => k_is)
    (case ty2 => k_is)
    (case ty3 => k_is)
    (case ty4 => k_is)
    (case se_NothingToUndo => k_is)
    (case ic_DueError => k_is)
    (case it_DueError => k_is)
    (case ic_InvalidAmount => k_is)
    (case it_InvalidAmount => k_is)
    (case ic_InvalidMoment => k_is)
    (case it_InvalidMoment => k_is)
    (case ic_NothingToUndo => k_is)
    (case it_NothingToUndo => k_is)
    (case ic_TooMany => k_is)
    (case it_TooMany => k_is)
    (case ic_WrongState => k_is)
    (case it_WrongState => k_is)
    (case bs_DueError => k_is)
    (case su_NothingToUndo_NothingToUndo => k_is)
    (case su_NothingToUndo_InvalidAmount => k_is)
    (case su_NothingToUndo_InvalidMoment => k_is)
    (case su_NothingToUndo_TooMany => k_is)
    (case su_NothingToUndo_WrongState => k_is)
    (case su_NothingToUndo_DueError => k_is)
